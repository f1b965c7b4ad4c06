import PyProof.Rows.All
import Wide.All
import OpenK.AllK
import Wide.FinOn
import HandS.ForMost
import HandS.ForExc
import HandS.Walk
import HandS.IsInst
import HandS.TupAny
import HandS.ExcInit
import HandS.ExcIs
import HandS.ExcField
import HandS.CallSlots
import HandS.MakeKwOnly
import HandS.Wide
import HandS.DictComp
import HandS.DictEq
import HandS.ListEq
import KE.KEqNest
import HandS.More
import HandS.Text
import HandS.Dict
import PyProof.NeKinds
import HandS.Records
import HandS.Iter
import KE.GoesEnum
import HandS.ExcOwn
import KE.KIsAll
import KE.KTryMore
import HandS.HeadHook2
import HandS.HeadEnd
import HandS.Head2
import HandS.Head0
import HandS.Head1
import PySem.Challenge.RW_rowhold_k01_columns_made
set_option Elab.async false
set_option linter.all false
set_option maxRecDepth 100000
/-! PyI: a small deterministic interpreter of the Python subset, over a heap of cells of its own (nothing is said of the model here). -/
namespace PV
open PySem
abbrev Key := L2.Key
/-- a value: tuples by value, all else that has an identity by its number -/
inductive U where
  | non | bl (b : Bool) | int (i : Int) | str (x : Str) | tup (us : List U) | ref (i : Nat)
/-- a cell: a list, a dict, an instance -/
inductive Cell where
  | lst (us : List U)
  | dct (ks : List (Key × U))
  | ins (c : String) (fs : List (String × U))
abbrev Gp := List Cell
/-- what a name holds: nothing that is known, a value, the error that an except clause caught -/
inductive SV where
  | no | val (u : U) | exn (c : String) (fs : List (String × U))
abbrev Env := List SV
def slot (d : Env) (i : Nat) : Option U := match d[i]? with
  | some (.val u) => some u
  | _ => none
/-- the most items that the interpreter lets a list or a text have -/
def LIM : Nat := 1000000
inductive Res (α : Type) where
  | ok (a : α) (G : Gp)
  | ex (c : String) (fs : List (String × U)) (G : Gp)
  | bad
def Res.bind {α β : Type} (r : Res α) (f : α → Gp → Res β) : Res β := match r with
  | .ok a G => f a G
  | .ex c fs G => .ex c fs G
  | .bad => .bad
def Res.ofO {α : Type} (o : Option α) (G : Gp) : Res α := match o with
  | some a => .ok a G
  | none => .bad
/-- what a statement leads to -/
inductive Fl where
  | nx (d : Env) (G : Gp)
  | rt (u : U) (G : Gp)
  | bk (d : Env) (G : Gp)
  | ct (d : Env) (G : Gp)
  | ex (c : String) (fs : List (String × U)) (d : Env) (G : Gp)
  | bad

/-! ### the text -/
inductive SrcK where
  | plain | range | enum | zip | items | values
  deriving DecidableEq
inductive Tg where
  | nm (i : Nat)
  | tup (ts : List Tg)
def Tg.isTup : Tg → Bool
  | .tup _ => true
  | _ => false
mutual
inductive Ex where
  | nm (i : Nat)
  | cI (i : Int) | cS (s : String) | cB (b : Bool) | cN
  | gl (x : String) (u : U)
  | bin (op : Operator) (a b : Ex)
  | neg (a : Ex)
  | cmp (op : CmpOp) (a b : Ex)
  | cmp2 (op op2 : CmpOp) (a b c : Ex)
  | and (es : List Ex) | or (es : List Ex) | not (a : Ex)
  | ife (c : Ts) (a b : Ex)
  | call (f : String) (as : List Ex)
  | mk (c : String) (as : List Ex) (ks : List String) (kw : List Ex) (bd : List (Nat ⊕ U))
  | meth (o : Ex) (m : String) (as : List Ex)
  | bif (f : String) (as : List Ex)
  | isi (a : Ex) (t : String)
  | bm (o : Ex) (m : String) (as : List Ex)
  | attr (o : Ex) (f : String)
  | xat (i : Nat) (f : String)
  | xis (i : Nat) (t : String)
  | sub (a i : Ex)
  | slc (a : Ex) (lo hi : Option Ex)
  | tup (es : List Ex) | lst (es : List Ex)
  /-- a dict: key, value, key, value, .. -/
  | dct (kvs : List Ex)
  | lc (k : SrcK) (src : List Ex) (tg : Tg) (cnd : List Ts) (elt : Ex) (own : List Nat)
/-- a test -/
inductive Ts where
  | e (x : Ex)
  | and (ts : List Ts) | or (ts : List Ts) | not (a : Ts)
end
inductive Stm where
  | set (t : Tg) (e : Ex)
  | setI (o i e : Ex)
  | setF (o : Ex) (f : String) (e : Ex)
  | aug (i : Nat) (op : Operator) (e : Ex)
  | exp (e : Ex)
  | ret (e : Ex)
  | retN
  | pass | brk | cont
  | iff (c : Ts) (a b : List Stm)
  | whl (c : Ts) (b : List Stm)
  | for (k : SrcK) (src : List Ex) (tg : Tg) (b : List Stm)
  | raise (c : String) (as : List Ex)
  | try1 (b : List Stm) (c : String) (slot : Nat) (h : List Stm)

/-! ### values: equality, truth -/
def b2i (b : Bool) : Int := if b then 1 else 0
/-- a list or a dict is no atom -/
def plainRef (G : Gp) (i : Nat) : Option Bool := match G[i]? with
  | some (.lst _) => some false
  | some (.dct _) => some false
  | _ => none
def eqL (f : U → U → Option Bool) : List U → List U → Option Bool
  | [], [] => some true
  | u :: us, w :: ws => (f u w).bind fun b => (eqL f us ws).bind fun r => some (b && r)
  | _, _ => some false
def lookK (k : Key) (ks : List (Key × U)) : Option U := (ks.find? fun kv => decide (kv.1 = k)).map (·.2)
def eqD (f : U → U → Option Bool) (ls : List (Key × U)) : List (Key × U) → Option Bool
  | [] => some true
  | (k, u) :: ks => (eqD f ls ks).bind fun r => match lookK k ls with
    | none => some false
    | some w => (f u w).bind fun b => some (b && r)
def eqStep (f : U → U → Option Bool) (G : Gp) : U → U → Option Bool
  | .non, .non => some true
  | .bl a, .bl b => some (decide (a = b))
  | .bl a, .int j => some (decide (b2i a = j))
  | .int i, .bl b => some (decide (i = b2i b))
  | .int i, .int j => some (decide (i = j))
  | .str x, .str y => some (decide (x = y))
  | .tup us, .tup ws => eqL f us ws
  | .ref i, .ref j => (match G[i]?, G[j]? with
    | some (.lst us), some (.lst ws) => if us.length = ws.length then eqL f us ws else some false
    | some (.dct ks), some (.dct ls) => if ks.length = ls.length then eqD f ls ks else none
    | some (.lst _), some (.dct _) => some false
    | some (.dct _), some (.lst _) => some false
    | _, _ => none)
  | .ref i, _ => plainRef G i
  | _, .ref j => plainRef G j
  | _, _ => some false
/-- ==, to a depth: none where it is not looked at here (instances) -/
def eqU : Nat → Gp → U → U → Option Bool
  | 0, _, _, _ => none
  | n + 1, G, x, y => eqStep (eqU n G) G x y
def DEP : Nat := 12
/-- x in xs -/
def inL (f : U → U → Option Bool) (x : U) : List U → Option Bool
  | [] => some false
  | y :: ys => match f y x with
    | some true => some true
    | some false => inL f x ys
    | none => none
def truthy (G : Gp) : U → Option Bool
  | .non => some false
  | .bl b => some b
  | .int i => some (i != 0)
  | .str x => if x.length ≤ LIM then some (x.length != 0) else none
  | .tup us => some (!us.isEmpty)
  | .ref i => match G[i]? with
    | some (.lst us) => some (!us.isEmpty)
    | some (.dct ks) => some (!ks.isEmpty)
    | _ => none

/-! ### operators, builtins by values -/
def mulOk (i j : Int) : Bool := (decide (-(2 ^ 64) < i) && decide (i < 2 ^ 64)) || (decide (-(2 ^ 64) < j) && decide (j < 2 ^ 64))
/-- a text so many times -/
def repS (x : Str) (n : Nat) : Str := ⟨(List.replicate n x.cps).foldl (· ++ ·) #[]⟩
def binop (op : Operator) (x y : U) (G : Gp) : Res U := match op, x, y with
  | .Add, .int i, .int j => .ok (.int (i + j)) G
  | .Sub, .int i, .int j => .ok (.int (i - j)) G
  | .Mult, .int i, .int j => if mulOk i j then .ok (.int (i * j)) G else .bad
  | .Mult, .str a, .int k => if 0 ≤ k ∧ k ≤ 1000 ∧ a.length * k.toNat ≤ LIM then .ok (.str (repS a k.toNat)) G else .bad
  | .FloorDiv, .int i, .int j => if 0 < j ∧ j.natAbs < 2 ^ 4000 then .ok (.int (i / j)) G else .bad
  | .Mod, .int i, .int j => if 0 < j then .ok (.int (i % j)) G else .bad
  | .Pow, .int i, .int j => if 0 ≤ j ∧ j ≤ 1000000 ∧ i.natAbs < 2 ^ 64 then .ok (.int (i ^ j.toNat)) G else .bad
  | .Add, .str a, .str b => if a.length + b.length ≤ LIM then .ok (.str (a ++ b)) G else .bad
  | .Add, .tup us, .tup ws => if us.length + ws.length ≤ LIM then .ok (.tup (us ++ ws)) G else .bad
  | .Add, .ref i, .ref j => (match G[i]?, G[j]? with
    | some (.lst us), some (.lst ws) => if us.length + ws.length ≤ LIM then .ok (.ref G.length) (G ++ [.lst (us ++ ws)]) else .bad
    | _, _ => .bad)
  | _, _, _ => .bad
def isNon : U → Bool
  | .non => true
  | _ => false
def keyOf : U → Option Key
  | .int i => some (.inl i)
  | .str x => some (.inr x)
  | _ => none
def memU (G : Gp) (x y : U) : Option Bool := match y with
  | .tup us => inL (eqU DEP G) x us
  | .str z => (match x with
    | .str t => (match t.cps.toList with
      | [c] => some (decide (c ∈ z.cps.toList))
      | _ => none)
    | _ => none)
  | .ref i => (match G[i]? with
    | some (.lst us) => inL (eqU DEP G) x us
    | some (.dct ks) => (match keyOf x with
      | some k => some ((lookK k ks).isSome)
      | none => none)
    | _ => none)
  | _ => none
def isDct (G : Gp) : U → Bool
  | .ref i => match G[i]? with
    | some (.dct _) => true
    | _ => false
  | _ => false
/-- != : a dict against what is no dict is not looked at here -/
def neU (G : Gp) (x y : U) : Option Bool := if isDct G x = isDct G y then (eqU DEP G x y).map (!·) else none
def cmpop (op : CmpOp) (x y : U) (G : Gp) : Option Bool := match op with
  | .Eq => eqU DEP G x y
  | .NotEq => neU G x y
  | .Is => (match y with
    | .non => some (isNon x)
    | _ => none)
  | .IsNot => (match y with
    | .non => some (!isNon x)
    | _ => none)
  | .In => memU G x y
  | .NotIn => (memU G x y).map (!·)
  | .Lt => (match x, y with
    | .int i, .int j => some (decide (i < j))
    | _, _ => none)
  | .LtE => (match x, y with
    | .int i, .int j => some (decide (i ≤ j))
    | _, _ => none)
  | .Gt => (match x, y with
    | .int i, .int j => some (decide (j < i))
    | _, _ => none)
  | .GtE => (match x, y with
    | .int i, .int j => some (decide (j ≤ i))
    | _, _ => none)
def allBl : List U → Option (List Bool)
  | [] => some []
  | .bl b :: us => (allBl us).map (b :: ·)
  | _ => none
def allStr : List U → Option (List Str)
  | [] => some []
  | .str x :: us => (allStr us).map (x :: ·)
  | _ => none
def listAt (G : Gp) (u : U) : Option (List U) := match u with
  | .ref i => (match G[i]? with
    | some (.lst us) => some us
    | _ => none)
  | _ => none
/-- a list's or a tuple's items -/
def seqAt (G : Gp) (u : U) : Option (List U) := match u with
  | .tup us => some us
  | u => listAt G u
def lenU (G : Gp) (u : U) : Option Nat := match u with
  | .str x => if x.length ≤ LIM then some x.length else none
  | .tup us => some us.length
  | .ref i => (match G[i]? with
    | some (.lst us) => some us.length
    | some (.dct ks) => some ks.length
    | _ => none)
  | _ => none
def bifU (hot : Bool) (f : String) (us : List U) (G : Gp) : Res U := if (hot && (f == "all" || f == "any")) = true then .bad else match f, us with
  | "len", [u] => (match lenU G u with
    | some n => .ok (.int n) G
    | none => .bad)
  | "all", [u] => (match (listAt G u).bind allBl with
    | some bs => .ok (.bl (bs.all id)) G
    | none => .bad)
  | "any", [u] => (match (listAt G u).bind allBl with
    | some bs => .ok (.bl (bs.any id)) G
    | none => .bad)
  | "int", [.int i] => .ok (.int i) G
  | "int", [.bl b] => .ok (.int (if b then 1 else 0)) G
  | _, _ => .bad
def bltT : List String := ["bool", "int", "str", "list", "tuple", "dict"]
/-- isinstance of a built-in class -/
def isiB (G : Gp) (u : U) (t : String) : Option Bool := if bltT.contains t = true then (match u with
  | .non => some false
  | .bl _ => some (t == "bool" || t == "int")
  | .int _ => some (t == "int")
  | .str _ => some (t == "str")
  | .tup _ => some (t == "tuple")
  | .ref i => (match G[i]? with
    | some (.lst _) => some (t == "list")
    | some (.dct _) => some (t == "dict")
    | _ => none)) else none
def subU (G : Gp) (u i : U) : Option U := match u, i with
  | .tup us, .int k => L2.atI us k
  | .str z, .int k => if z.length ≤ LIM then (L2.atI z.cps.toList k).map fun c => .str ⟨#[c]⟩ else none
  | .ref r, .int k => (match G[r]? with
    | some (.lst us) => L2.atI us k
    | some (.dct ks) => lookK (.inl k) ks
    | _ => none)
  | .ref r, .str x => (match G[r]? with
    | some (.dct ks) => lookK (.inr x) ks
    | _ => none)
  | _, _ => none
def cut (us : List U) (lo hi : Option Int) : List U := (us.drop (HT.sIx us.length 0 lo)).take (HT.sIx us.length us.length hi - HT.sIx us.length 0 lo)
def intO : Option U → Option (Option Int)
  | none => some none
  | some (.int i) => some (some i)
  | _ => none
def slcU (u : U) (lo hi : Option Int) (G : Gp) : Res U := match u with
  | .tup us => if HT.sIx us.length 0 lo = 0 ∧ HT.sIx us.length us.length hi = us.length then .bad else .ok (.tup (cut us lo hi)) G
  | .str z => if z.length ≤ LIM then .ok (.str (L2.cutS z lo hi)) G else .bad
  | .ref r => (match G[r]? with
    | some (.lst us) => .ok (.ref G.length) (G ++ [.lst (cut us lo hi)])
    | _ => .bad)
  | _ => .bad
def putK (ks : List (Key × U)) (k : Key) (u : U) : List (Key × U) := if (ks.any fun kv => decide (kv.1 = k)) = true then ks.map fun kv => if kv.1 = k then (k, u) else kv else ks ++ [(k, u)]
/-- the type and the method that a name stands for -/
def bmV : String → Option (String × String)
  | "append" => some ("list", "list.append")
  | "join" => some ("str", "str.join")
  | "upper" => some ("str", "str.upper")
  | _ => none
/-- the receiver is of the method's type -/
def bmT (G : Gp) (x : U) (m : String) : Bool := match x, bmV m with
  | .str _, some (T, _) => T == "str"
  | .ref i, some (T, _) => (match G[i]? with
    | some (.lst _) => T == "list"
    | _ => false)
  | _, _ => false
def bmU (L : List Nat) (o : U) (m : String) (us : List U) (G : Gp) : Res U := match o, m, us with
  | .ref i, "append", [u] => (match G[i]? with
    | some (.lst xs) => if xs.length < LIM then .ok .non (G.set i (.lst (xs ++ [u]))) else .bad
    | _ => .bad)
  | .str a, "join", [u] => (match (seqAt G u).bind allStr with
    | some ys => if (ys.map (·.length)).sum + ys.length * a.length ≤ LIM then .ok (.str (Txt.join a ys)) G else .bad
    | none => .bad)
  | .str a, "upper", [] => if a.length ≤ LIM then .ok (.str (Txt.upper a)) G else .bad
  | _, _, _ => .bad
/-- o[i] = u; L: the dicts that are being walked, not to be written -/
def setU (L : List Nat) (o i u : U) (G : Gp) : Option Gp := match o, i with
  | .ref r, .int k => (match G[r]? with
    | some (.lst us) => (L2.ixN us.length k).map fun j => G.set r (.lst (us.set j u))
    | some (.dct ks) => if ks.length < LIM ∧ r ∉ L then some (G.set r (.dct (putK ks (.inl k) u))) else none
    | _ => none)
  | .ref r, .str x => (match G[r]? with
    | some (.dct ks) => if ks.length < LIM ∧ r ∉ L then some (G.set r (.dct (putK ks (.inr x) u))) else none
    | _ => none)
  | _, _ => none
def putFld (f : String) (u : U) : List (String × U) → List (String × U)
  | [] => [(f, u)]
  | (g, w) :: fs => if g = f then (g, u) :: fs else (g, w) :: putFld f u fs
def attrU (G : Gp) (o : U) (f : String) : Option U := match o with
  | .ref i => (match G[i]? with
    | some (.ins _ fs) => fs.lookup f
    | _ => none)
  | _ => none

/-! ### what is walked -/
def keyU : Key → U
  | .inl i => .int i
  | .inr x => .str x
/-- what a loop goes over: items that are known, or a list as it stands at each turn -/
inductive Wk where
  | its (us : List U)
  | live (a : Nat)
  | enum (a : Nat)
  | zip (a b : Nat)
def itemAt (w : Wk) (i : Nat) (G : Gp) : Option (Option U) := match w with
  | .its us => some us[i]?
  | .live a => (match G[a]? with
    | some (.lst us) => some us[i]?
    | _ => none)
  | .enum a => (match G[a]? with
    | some (.lst us) => some (us[i]?.map fun u => .tup [.int (i : Nat), u])
    | _ => none)
  | .zip a b => (match G[a]?, G[b]? with
    | some (.lst us), some (.lst ws) => some (match us[i]?, ws[i]? with
      | some u, some w => some (.tup [u, w])
      | _, _ => none)
    | _, _ => none)
/-- what is gone over, the dict that is locked meanwhile, the most turns -/
def walk (k : SrcK) (us : List U) (G : Gp) : Option (Wk × List Nat × Nat) := match k, us with
  | .plain, [.tup us] => some (.its us, [], us.length)
  | .plain, [.str x] => if x.length ≤ LIM then some (.its (x.cps.toList.map fun c => .str ⟨#[c]⟩), [], x.cps.size) else none
  | .plain, [.ref i] => (match G[i]? with
    | some (.lst us) => some (.live i, [], us.length)
    | some (.dct ks) => some (.its (ks.map fun kv => keyU kv.1), [i], ks.length)
    | _ => none)
  | .range, [.int n] => if -(LIM : Int) ≤ n ∧ n ≤ LIM then some (.its ((List.range n.toNat).map fun (i : Nat) => .int i), [], n.toNat) else none
  | .range, [.int a, .int b] => if -(LIM : Int) ≤ a ∧ a ≤ LIM ∧ -(LIM : Int) ≤ b ∧ b ≤ LIM then some (.its ((List.range (b - a).toNat).map fun (i : Nat) => .int (a + i)), [], (b - a).toNat) else none
  | .enum, [.ref i] => (match G[i]? with
    | some (.lst us) => some (.enum i, [], us.length)
    | _ => none)
  | .enum, [.tup us] => some (.its (us.zipIdx.map fun p => .tup [.int (p.2 : Nat), p.1]), [], us.length)
  | .zip, [.ref i, .ref j] => (match G[i]?, G[j]? with
    | some (.lst us), some (.lst ws) => some (.zip i j, [], min us.length ws.length)
    | _, _ => none)
  | .items, [.ref i] => (match G[i]? with
    | some (.dct ks) => some (.its (ks.map fun kv => .tup [keyU kv.1, kv.2]), [i], ks.length)
    | _ => none)
  | .values, [.ref i] => (match G[i]? with
    | some (.dct ks) => some (.its (ks.map fun kv => kv.2), [i], ks.length)
    | _ => none)
  | _, _ => none

/-! ### the run -/
/-- where a parameter's value comes from: the k-th of the written ones, or a default -/
abbrev Bnd := List (Nat ⊕ U)
def bindP (bd : Bnd) (us : List U) : Option (List U) := bd.mapM fun b => match b with
  | .inl k => us[k]?
  | .inr u => some u
structure Ctx where
  /-- within an except suite -/
  hot : Bool
  /-- a def's call: the class ("" for none), the name, the parameters' values -/
  call : Bool → List Nat → String → String → List U → Gp → Res U
  /-- an error class's fields -/
  flds : String → Option (List String)
  /-- whether the one error class stands under the other -/
  sub : String → String → Option Bool
def asg : Tg → U → Env → Option Env
  | .nm i, u, d => if i < d.length then some (d.set i (.val u)) else none
  | .tup ts, .tup us, d => asgs ts us d
  | _, _, _ => none
where asgs : List Tg → List U → Env → Option Env
  | [], [], d => some d
  | t :: ts, u :: us, d => (asg t u d).bind fun d1 => asgs ts us d1
  | _, _, _ => none
def wipeE (d : Env) : List Nat → Env
  | [] => d
  | v :: vs => (wipeE d vs).set v .no
/-- the turns of a comprehension -/
def lcLoop (w : Wk) (body : U → Gp → Res (Option U)) : Nat → Nat → Gp → Res (List U)
  | 0, i, G => (match itemAt w i G with
    | some none => .ok [] G
    | _ => .bad)
  | k + 1, i, G => (match itemAt w i G with
    | some none => .ok [] G
    | some (some x) => (match body x G with
      | .ok o G1 => (match lcLoop w body k (i + 1) G1 with
        | .ok us G2 => .ok (o.toList ++ us) G2
        | _ => .bad)
      | _ => .bad)
    | none => .bad)
mutual
def ev (C : Ctx) (L : List Nat) : Ex → Env → Gp → Res U
  | .nm i, d, G => Res.ofO (slot d i) G
  | .cI i, _, G => .ok (.int i) G
  | .cS s, _, G => .ok (.str (Str.ofString s)) G
  | .cB b, _, G => .ok (.bl b) G
  | .cN, _, G => .ok .non G
  | .gl _ u, _, G => .ok u G
  | .bin op a b, d, G => (ev C L a d G).bind fun x G1 => (ev C L b d G1).bind fun y G2 => binop op x y G2
  | .neg a, d, G => (ev C L a d G).bind fun x G1 => match x with
    | .int i => .ok (.int (-i)) G1
    | _ => .bad
  | .cmp op a b, d, G => (ev C L a d G).bind fun x G1 => (ev C L b d G1).bind fun y G2 => Res.ofO ((cmpop op x y G2).map U.bl) G2
  | .cmp2 op op2 a b c, d, G => (ev C L a d G).bind fun x G1 => (ev C L b d G1).bind fun y G2 => match cmpop op x y G2 with
    | some true => (ev C L c d G2).bind fun z G3 => Res.ofO ((cmpop op2 y z G3).map U.bl) G3
    | some false => .ok (.bl false) G2
    | none => .bad
  | .and es, d, G => evA C L true es d G
  | .or es, d, G => evA C L false es d G
  | .not a, d, G => (ev C L a d G).bind fun x G1 => match x with
    | .bl b => .ok (.bl (!b)) G1
    | _ => .bad
  | .ife c a b, d, G => (tst C L c d G).bind fun r G1 => if r = true then ev C L a d G1 else ev C L b d G1
  | .call f as, d, G => (evs C L as d G).bind fun us G1 => C.call C.hot L "" f us G1
  | .mk c as _ kw bd, d, G => (evs C L as d G).bind fun us G1 => (evs C L kw d G1).bind fun ws G2 => match bindP bd (us ++ ws) with
    | none => .bad
    | some ps => match C.call C.hot L c "__init__" (.ref G2.length :: ps) (G2 ++ [.ins c []]) with
      | .ok .non G3 => .ok (.ref G2.length) G3
      | .ex e fs G3 => .ex e fs G3
      | _ => .bad
  | .meth o m as, d, G => (ev C L o d G).bind fun x G1 => match x with
    | .ref r => (match G1[r]? with
      | some (.ins c fs) => if (fs.lookup m).isNone then (evs C L as d G1).bind fun us G2 => C.call C.hot L c m (x :: us) G2 else .bad
      | _ => .bad)
    | _ => .bad
  | .bif f as, d, G => (evs C L as d G).bind fun us G1 => bifU C.hot f us G1
  | .isi a t, d, G => (ev C L a d G).bind fun x G1 => Res.ofO ((isiB G1 x t).map U.bl) G1
  | .bm o m as, d, G => (ev C L o d G).bind fun x G1 => if bmT G1 x m = true then (evs C L as d G1).bind fun us G2 => bmU L x m us G2 else .bad
  | .attr o f, d, G => (ev C L o d G).bind fun x G1 => Res.ofO (attrU G1 x f) G1
  | .xat i f, d, G => (match d[i]? with
    | some (.exn c fs) => if (C.flds c).isSome = true then Res.ofO (fs.lookup f) G else .bad
    | _ => .bad)
  | .xis i t, d, G => (match d[i]? with
    | some (.exn c (_ :: _)) => if (C.flds c).isSome = true then Res.ofO ((C.sub c t).map U.bl) G else .bad
    | _ => .bad)
  | .sub a i, d, G => (ev C L a d G).bind fun x G1 => (ev C L i d G1).bind fun y G2 => Res.ofO (subU G2 x y) G2
  | .slc a lo hi, d, G => (ev C L a d G).bind fun x G1 => (evo C L lo d G1).bind fun l G2 => (evo C L hi d G2).bind fun h G3 => slcU x l h G3
  | .tup es, d, G => (evs C L es d G).bind fun us G1 => .ok (.tup us) G1
  | .lst es, d, G => (evs C L es d G).bind fun us G1 => .ok (.ref G1.length) (G1 ++ [.lst us])
  | .dct kvs, d, G => if kvs.length ≤ 30 then (evp C L kvs d (G ++ [.dct []])).bind fun r G1 => match G1[G.length]? with
    | some (.dct []) => .ok (.ref G.length) (G1.set G.length (.dct (r.foldl (fun a p => putK a p.1 p.2) [])))
    | _ => .bad
    else .bad
  | .lc k src tg cnd elt own, d, G => if C.hot = true then .bad else (evs C L src d G).bind fun us G1 => match walk k us G1 with
    | none => .bad
    | some (w, lk, n) => if lk.isEmpty = false ∨ LIM < n then .bad else match lcLoop w (fun x G2 => match asg tg x (wipeE d own) with
        | none => .bad
        | some d1 => (tsts C (lk ++ L) cnd d1 G2).bind fun b G3 => if b = true then (ev C (lk ++ L) elt d1 G3).bind fun u G4 => .ok (some u) G4 else .ok none G3) n 0 G1 with
      | .ok us G5 => .ok (.ref G5.length) (G5 ++ [.lst us])
      | _ => .bad
/-- and (b = true), or (b = false): on while it is b -/
def evA (C : Ctx) (L : List Nat) (b : Bool) : List Ex → Env → Gp → Res U
  | [], _, _ => .bad
  | [e], d, G => ev C L e d G
  | e :: e' :: es, d, G => (ev C L e d G).bind fun x G1 => match x with
    | .bl t => if t = b then evA C L b (e' :: es) d G1 else .ok (.bl t) G1
    | _ => .bad
def evs (C : Ctx) (L : List Nat) : List Ex → Env → Gp → Res (List U)
  | [], _, G => .ok [] G
  | e :: es, d, G => (ev C L e d G).bind fun u G1 => (evs C L es d G1).bind fun us G2 => .ok (u :: us) G2
/-- the pairs of a dict's display -/
def evp (C : Ctx) (L : List Nat) : List Ex → Env → Gp → Res (List (Key × U))
  | [], _, G => .ok [] G
  | [_], _, _ => .bad
  | k :: v :: r, d, G => (ev C L k d G).bind fun x G1 => (ev C L v d G1).bind fun u G2 => (evp C L r d G2).bind fun ps G3 => match keyOf x with
    | some y => .ok ((y, u) :: ps) G3
    | none => .bad
/-- an optional bound of a slice -/
def evo (C : Ctx) (L : List Nat) : Option Ex → Env → Gp → Res (Option Int)
  | none, _, G => .ok none G
  | some e, d, G => (ev C L e d G).bind fun u G1 => match u with
    | .int i => .ok (some i) G1
    | _ => .bad
/-- a test -/
def tst (C : Ctx) (L : List Nat) : Ts → Env → Gp → Res Bool
  | .and ts, d, G => tstA C L true ts d G
  | .or ts, d, G => tstA C L false ts d G
  | .not a, d, G => (tst C L a d G).bind fun r G1 => .ok (!r) G1
  | .e x, d, G => (ev C L x d G).bind fun u G1 => Res.ofO (truthy G1 u) G1
def tstA (C : Ctx) (L : List Nat) (b : Bool) : List Ts → Env → Gp → Res Bool
  | [], _, _ => .bad
  | [e], d, G => tst C L e d G
  | e :: e' :: es, d, G => (tst C L e d G).bind fun t G1 => if t = b then tstA C L b (e' :: es) d G1 else .ok t G1
def tsts (C : Ctx) (L : List Nat) : List Ts → Env → Gp → Res Bool
  | [], _, G => .ok true G
  | e :: es, d, G => (tst C L e d G).bind fun r G1 => if r = true then tsts C L es d G1 else .ok false G1
end

/-! ### statements -/
def Res.st {α : Type} (r : Res α) (d : Env) (f : α → Gp → Fl) : Fl := match r with
  | .ok a G => f a G
  | .ex c fs G => .ex c fs d G
  | .bad => .bad
/-- the most turns of a while -/
def FUEL : Nat := 1000000
def whlL (c : Env → Gp → Res Bool) (b : Env → Gp → Fl) : Nat → Env → Gp → Fl
  | 0, _, _ => .bad
  | k + 1, d, G => (c d G).st d fun r G1 => if r = true then (match b d G1 with
      | .nx d1 G2 => whlL c b k d1 G2
      | .ct d1 G2 => whlL c b k d1 G2
      | .bk d1 G2 => .nx d1 G2
      | r => r) else .nx d G1
def forL (w : Wk) (body : U → Env → Gp → Fl) : Nat → Nat → Env → Gp → Fl
  | 0, i, d, G => (match itemAt w i G with
    | some none => .nx d G
    | _ => .bad)
  | k + 1, i, d, G => (match itemAt w i G with
    | some none => .nx d G
    | some (some x) => (match body x d G with
      | .nx d1 G2 => forL w body k (i + 1) d1 G2
      | .ct d1 G2 => forL w body k (i + 1) d1 G2
      | .bk d1 G2 => .nx d1 G2
      | r => r)
    | none => .bad)
/-- the name of an except clause is unbound behind the suite -/
def scrub (i : Nat) (d : Env) : Env := (d.map fun s => match s with
  | .exn _ _ => .no
  | s => s).set i .no
def Fl.scrub (i : Nat) : Fl → Fl
  | .nx d G => .nx (PV.scrub i d) G
  | .bk d G => .bk (PV.scrub i d) G
  | .ct d G => .ct (PV.scrub i d) G
  | .rt u G => .rt u G
  | _ => .bad
mutual
def exS (C : Ctx) (L : List Nat) : Stm → Env → Gp → Fl
  | .set t e, d, G => if (C.hot && t.isTup) = true then .bad else (ev C L e d G).st d fun u G1 => match asg t u d with
    | some d1 => .nx d1 G1
    | none => .bad
  | .setI o i e, d, G => (ev C L e d G).st d fun u G1 => (ev C L o d G1).st d fun x G2 => (ev C L i d G2).st d fun y G3 => match setU L x y u G3 with
    | some G4 => .nx d G4
    | none => .bad
  | .setF o f e, d, G => (ev C L e d G).st d fun u G1 => (ev C L o d G1).st d fun x G2 => match x with
    | .ref r => (match G2[r]? with
      | some (.ins c fs) => if fs.length < 1000 then .nx d (G2.set r (.ins c (putFld f u fs))) else .bad
      | _ => .bad)
    | _ => .bad
  | .aug i op e, d, G => (match slot d i with
    | some x => (ev C L e d G).st d fun y G1 => (match op, x, y with
      | .Add, .int a, .int b => .nx (d.set i (.val (.int (a + b)))) G1
      | .Sub, .int a, .int b => .nx (d.set i (.val (.int (a - b)))) G1
      | _, _, _ => .bad)
    | none => .bad)
  | .exp e, d, G => (ev C L e d G).st d fun _ G1 => .nx d G1
  | .ret e, d, G => (ev C L e d G).st d fun u G1 => .rt u G1
  | .retN, _, G => .rt .non G
  | .pass, d, G => .nx d G
  | .brk, d, G => .bk d G
  | .cont, d, G => .ct d G
  | .iff c a b, d, G => (tst C L c d G).st d fun r G1 => if r = true then exB C L a d G1 else exB C L b d G1
  | .whl c b, d, G => if C.hot = true then .bad else whlL (fun d G => tst C L c d G) (fun d G => exB C L b d G) FUEL d G
  | .for k src tg b, d, G => if C.hot = true then .bad else (evs C L src d G).st d fun us G1 => match walk k us G1 with
    | none => .bad
    | some (w, lk, n) => if lk.isEmpty = false then .bad else forL w (fun x d G => match asg tg x d with
      | none => .bad
      | some d1 => exB C (lk ++ L) b d1 G) n 0 d G1
  | .raise c as, d, G => if C.hot = true then .bad else (evs C L as d G).st d fun us G1 => match C.flds c with
    | some fs => if fs.length = us.length then .ex c (fs.zip us) d G1 else .bad
    | none => .bad
  | .try1 b c i h, d, G => if C.hot = true then .bad else (match exB C L b d G with
    | .ex e fs d1 G1 => (match C.sub e c with
      | some true => (exB { C with hot := true } L h (d1.set i (.exn e fs)) G1).scrub i
      | some false => .ex e fs d1 G1
      | none => .bad)
    | r => r)
def exB (C : Ctx) (L : List Nat) : List Stm → Env → Gp → Fl
  | [], d, G => .nx d G
  | s :: ss, d, G => match exS C L s d G with
    | .nx d1 G1 => exB C L ss d1 G1
    | r => r
end
/-! ### a program -/
structure MDef where
  np : Nat
  ns : Nat
  body : List Stm
structure MProg where
  defs : String → String → Option MDef
  flds : String → Option (List String)
  sub : String → String → Option Bool
def start (md : MDef) (us : List U) : Env := us.map SV.val ++ List.replicate (md.ns - md.np) .no
def Fl.res : Fl → Res U
  | .rt u G => .ok u G
  | .nx _ G => .ok .non G
  | .ex c fs _ G => .ex c fs G
  | _ => .bad
def run (P : MProg) : Nat → Bool → List Nat → String → String → List U → Gp → Res U
  | 0, _, _, _, _, _, _ => .bad
  | n + 1, hot, L, c, f, us, G => if hot = true then .bad else match P.defs c f with
    | none => .bad
    | some md => if us.length = md.np then (exB ⟨false, run P n, P.flds, P.sub⟩ L md.body (start md us) G).res else .bad
abbrev ctx (P : MProg) (n : Nat) : Ctx := ⟨false, run P n, P.flds, P.sub⟩
end PV
set_option Elab.async false
set_option linter.all false
set_option maxRecDepth 100000
/-! PyRel: how the interpreter's values and cells lie in the hand layer's abstract heap; the semantic readings. -/
namespace PV
open PySem PySem.Spec L2
/-- what is fixed: the written part, the classes' addresses, the classes -/
structure Sta where
  K : PySem.W.Frag
  ca : String → Addr
  cls : List String
/-- the error that the suite around holds: where, its class, its dict -/
abbrev Hot := Option (Addr × Value × Option Addr)
mutual
/-- a value as it lies -/
def VR (S : Sta) (ι : List Addr) (H : Hp) : U → V → Prop
  | .non, v => v = .non
  | .bl b, v => v = .bl b
  | .int i, v => v = .int i
  | .str x, v => v = .str x
  | .ref i, v => ∃ a, ι[i]? = some a ∧ v = .ref a
  | .tup us, v => ∃ a vs, v = .ref a ∧ SqT S.K H a vs ∧ VRs S ι H us vs
def VRs (S : Sta) (ι : List Addr) (H : Hp) : List U → List V → Prop
  | [], vs => vs = []
  | u :: us, vs => ∃ v r, vs = v :: r ∧ VR S ι H u v ∧ VRs S ι H us r
end
/-- a dict's entries -/
def KR (S : Sta) (ι : List Addr) (H : Hp) : List (Key × U) → List (Key × V) → Prop
  | [], vs => vs = []
  | (k, u) :: us, vs => ∃ v r, vs = (k, v) :: r ∧ VR S ι H u v ∧ KR S ι H us r
/-- an instance's attributes -/
def FR (S : Sta) (ι : List Addr) (H : Hp) : List (String × U) → List (Str × V) → Prop
  | [], vs => vs = []
  | (k, u) :: us, vs => ∃ v r, vs = (Str.ofString k, v) :: r ∧ VR S ι H u v ∧ FR S ι H us r
def CR (S : Sta) (L : List Nat) (ι : List Addr) (H : Hp) (i : Nat) : Cell → HO → Prop
  | .lst us, o => ∃ vs, o = .lst vs ∧ VRs S ι H us vs
  | .dct ks, o => ∃ kvs, KR S ι H ks kvs ∧ ((i ∉ L ∧ o = .dK kvs) ∨ (i ∈ L ∧ ∃ od, o = .frz od (.dK kvs)))
  | .ins c fs, o => ∃ dx fvs, o = .ins (S.ca c) dx fvs ∧ FR S ι H fs fvs ∧ c ∈ S.cls
structure Rel (S : Sta) (L : List Nat) (ι : List Addr) (G : Gp) (H : Hp) : Prop where
  len : ι.length = G.length
  nd : ι.Nodup
  lk : ∀ i, i ∈ L → i < G.length
  at_ : ∀ i c a, G[i]? = some c → ι[i]? = some a → ∃ o, H a = some o ∧ CR S L ι H i c o
/-- from one state to a later one -/
structure Ext (ι : List Addr) (H : Hp) (ι1 : List Addr) (H1 : Hp) : Prop where
  pre : ∃ t, ι1 = ι ++ t
  new : ∀ a, a ∈ ι1 → a ∈ ι ∨ H a = none
  frm : ∀ a o, H a = some o → a ∉ ι → H1 a = some o
  frz : ∀ a o u, H a = some (.frz o u) → H1 a = some (.frz o u)
  tup : ∀ a vs, H a = some (.tup vs) → H1 a = some (.tup vs)
  xd : ∀ a fs, H a = some (.xd fs) → H1 a = some (.xd fs)
theorem Ext.refl (ι : List Addr) (H : Hp) : Ext ι H ι H := ⟨⟨[], by simp⟩, fun _ h => .inl h, fun _ _ h _ => h, fun _ _ _ h => h, fun _ _ h => h, fun _ _ h => h⟩
theorem Ext.trans {ι ι1 ι2 : List Addr} {H H1 H2 : Hp} (a : Ext ι H ι1 H1) (b : Ext ι1 H1 ι2 H2) : Ext ι H ι2 H2 := by
  refine ⟨?_, fun x hx => ?_, fun x o h hn => ?_, fun x o u h => b.frz x o u (a.frz x o u h), fun x vs h => b.tup x vs (a.tup x vs h), fun x fs h => b.xd x fs (a.xd x fs h)⟩
  · obtain ⟨t, e⟩ := a.pre
    obtain ⟨t', e'⟩ := b.pre
    exact ⟨t ++ t', by rw [e', e, List.append_assoc]⟩
  · rcases b.new x hx with h | h
    · exact a.new x h
    · cases e : H x with
      | none => exact .inr rfl
      | some o =>
        by_cases hi : x ∈ ι
        · exact .inl hi
        · rw [a.frm x o e hi] at h; cases h
  · refine b.frm x o (a.frm x o h hn) fun hx => ?_
    rcases a.new x hx with z | z
    · exact hn z
    · rw [h] at z; cases z
theorem Ext.get {ι ι1 : List Addr} {H H1 : Hp} (e : Ext ι H ι1 H1) {i : Nat} {a : Addr} (h : ι[i]? = some a) : ι1[i]? = some a := by
  obtain ⟨t, q⟩ := e.pre
  rw [q, List.getElem?_append_left (List.getElem?_eq_some_iff.mp h).1]
  exact h
theorem Ext.sqT {ι ι1 : List Addr} {H H1 : Hp} (e : Ext ι H ι1 H1) {K : PySem.W.Frag} {a : Addr} {vs : List V} (h : SqT K H a vs) : SqT K H1 a vs := by
  rcases h with (h | ⟨o, h⟩) | h
  · exact .inl (.inl (e.tup _ _ h))
  · exact .inl (.inr ⟨o, e.frz _ _ _ h⟩)
  · exact .inr h
mutual
theorem VR.mono {S : Sta} {ι ι1 : List Addr} {H H1 : Hp} (e : Ext ι H ι1 H1) : ∀ {u : U} {v : V}, VR S ι H u v → VR S ι1 H1 u v
  | .non, _, h => h
  | .bl _, _, h => h
  | .int _, _, h => h
  | .str _, _, h => h
  | .ref _, _, h => by
    obtain ⟨a, h1, h2⟩ := h
    exact ⟨a, e.get h1, h2⟩
  | .tup us, _, h => by
    obtain ⟨a, vs, h1, h2, h3⟩ := h
    exact ⟨a, vs, h1, e.sqT h2, VRs.mono e h3⟩
theorem VRs.mono {S : Sta} {ι ι1 : List Addr} {H H1 : Hp} (e : Ext ι H ι1 H1) : ∀ {us : List U} {vs : List V}, VRs S ι H us vs → VRs S ι1 H1 us vs
  | [], _, h => h
  | u :: us, _, h => by
    obtain ⟨v, r, h1, h2, h3⟩ := h
    exact ⟨v, r, h1, VR.mono e h2, VRs.mono e h3⟩
end
theorem KR.mono {S : Sta} {ι ι1 : List Addr} {H H1 : Hp} (e : Ext ι H ι1 H1) : ∀ {us : List (Key × U)} {vs : List (Key × V)}, KR S ι H us vs → KR S ι1 H1 us vs
  | [], _, h => h
  | (k, u) :: us, _, h => by
    obtain ⟨v, r, h1, h2, h3⟩ := h
    exact ⟨v, r, h1, h2.mono e, KR.mono e h3⟩
theorem FR.mono {S : Sta} {ι ι1 : List Addr} {H H1 : Hp} (e : Ext ι H ι1 H1) : ∀ {us : List (String × U)} {vs : List (Str × V)}, FR S ι H us vs → FR S ι1 H1 us vs
  | [], _, h => h
  | (k, u) :: us, _, h => by
    obtain ⟨v, r, h1, h2, h3⟩ := h
    exact ⟨v, r, h1, h2.mono e, FR.mono e h3⟩
theorem CR.mono {S : Sta} {L : List Nat} {ι ι1 : List Addr} {H H1 : Hp} (e : Ext ι H ι1 H1) {i : Nat} : ∀ {c : Cell} {o : HO}, CR S L ι H i c o → CR S L ι1 H1 i c o
  | .lst us, _, h => by
    obtain ⟨vs, h1, h2⟩ := h
    exact ⟨vs, h1, h2.mono e⟩
  | .dct ks, _, h => by
    obtain ⟨kvs, h1, h2⟩ := h
    exact ⟨kvs, h1.mono e, h2⟩
  | .ins c fs, _, h => by
    obtain ⟨dx, fvs, h1, h2, h3⟩ := h
    exact ⟨dx, fvs, h1, h2.mono e, h3⟩
theorem VRs.length {S : Sta} {ι : List Addr} {H : Hp} : ∀ {us : List U} {vs : List V}, VRs S ι H us vs → vs.length = us.length
  | [], _, h => by
    have h' : _ = [] := h
    rw [h']
    rfl
  | u :: us, _, h => by
    obtain ⟨v, r, h1, h2, h3⟩ := h
    rw [h1, List.length_cons, List.length_cons, VRs.length h3]
theorem VRs.get {S : Sta} {ι : List Addr} {H : Hp} : ∀ {us : List U} {vs : List V} {i : Nat} {u : U}, VRs S ι H us vs → us[i]? = some u → ∃ v, vs[i]? = some v ∧ VR S ι H u v
  | [], _, _, _, _, e => by simp at e
  | w :: us, _, 0, u, h, e => by
    obtain ⟨v, r, h1, h2, h3⟩ := h
    simp at e
    subst e
    exact ⟨v, by rw [h1]; rfl, h2⟩
  | w :: us, _, i + 1, u, h, e => by
    obtain ⟨v, r, h1, h2, h3⟩ := h
    obtain ⟨x, e1, e2⟩ := VRs.get (i := i) h3 (by simpa using e)
    exact ⟨x, by rw [h1]; simpa using e1, e2⟩
theorem VRs.app {S : Sta} {ι : List Addr} {H : Hp} : ∀ {us ws : List U} {vs xs : List V}, VRs S ι H us vs → VRs S ι H ws xs → VRs S ι H (us ++ ws) (vs ++ xs)
  | [], _, _, _, h, q => by
    have h' : _ = [] := h
    rw [h']
    exact q
  | u :: us, _, _, _, h, q => by
    obtain ⟨v, r, h1, h2, h3⟩ := h
    rw [h1]
    exact ⟨v, r ++ _, rfl, h2, VRs.app h3 q⟩
theorem VRs.one {S : Sta} {ι : List Addr} {H : Hp} {u : U} {v : V} (h : VR S ι H u v) : VRs S ι H [u] [v] := ⟨v, [], rfl, h, rfl⟩
theorem VRs.set {S : Sta} {ι : List Addr} {H : Hp} {u : U} {v : V} (q : VR S ι H u v) : ∀ {us : List U} {vs : List V} (i : Nat), VRs S ι H us vs → VRs S ι H (us.set i u) (vs.set i v)
  | [], _, _, h => by
    have h' : _ = [] := h
    rw [h']
    rfl
  | w :: us, _, 0, h => by
    obtain ⟨x, r, h1, h2, h3⟩ := h
    rw [h1]
    exact ⟨v, r, rfl, q, h3⟩
  | w :: us, _, i + 1, h => by
    obtain ⟨x, r, h1, h2, h3⟩ := h
    rw [h1]
    exact ⟨x, r.set i v, rfl, h2, VRs.set q i h3⟩
theorem VRs.drop {S : Sta} {ι : List Addr} {H : Hp} : ∀ {us : List U} {vs : List V} (n : Nat), VRs S ι H us vs → VRs S ι H (us.drop n) (vs.drop n)
  | _, _, 0, h => h
  | [], _, n + 1, h => by
    have h' : _ = [] := h
    rw [h']
    rfl
  | w :: us, _, n + 1, h => by
    obtain ⟨x, r, h1, h2, h3⟩ := h
    rw [h1]
    exact VRs.drop n h3
theorem VRs.take {S : Sta} {ι : List Addr} {H : Hp} : ∀ {us : List U} {vs : List V} (n : Nat), VRs S ι H us vs → VRs S ι H (us.take n) (vs.take n)
  | _, _, 0, h => by rw [List.take_zero, List.take_zero]; rfl
  | [], _, n + 1, h => by
    have h' : _ = [] := h
    rw [h']
    rfl
  | w :: us, _, n + 1, h => by
    obtain ⟨x, r, h1, h2, h3⟩ := h
    rw [h1]
    exact ⟨x, r.take n, rfl, h2, VRs.take n h3⟩
/-- an error's fields, in its own dict -/
def XD (S : Sta) (ι : List Addr) (H : Hp) (fs : List (String × U)) (d : Option Addr) : Prop := ∀ (f : String) (u : U), fs.lookup f = some u → ∃ x fvs v, d = some x ∧ H x = some (.xd fvs) ∧ fvs.lookup (Str.ofString f) = some v ∧ VR S ι H u v
theorem XD.mono {S : Sta} {ι ι1 : List Addr} {H H1 : Hp} {fs : List (String × U)} {d : Option Addr} (e : Ext ι H ι1 H1) (h : XD S ι H fs d) : XD S ι1 H1 fs d := fun f u q => by
  obtain ⟨x, fvs, v, h1, h2, h3, h4⟩ := h f u q
  exact ⟨x, fvs, v, h1, e.xd _ _ h2, h3, h4.mono e⟩
/-! ### the names' values -/
structure EnvR (S : Sta) (ht : Hot) (ι : List Addr) (H : Hp) (d : Env) (σ : St) : Prop where
  len : σ.length = d.length
  val : ∀ (i : Nat) (u : U), d[i]? = some (SV.val u) → ∃ v, σ[i]? = some (some v) ∧ VR S ι H u v
  exn : ∀ (i : Nat) (c : String) (fs : List (String × U)), d[i]? = some (SV.exn c fs) → ∃ a dd, ht = some (a, Value.ref (S.ca c), dd) ∧ σ[i]? = some (some (V.ref a)) ∧ XD S ι H fs dd
theorem EnvR.mono {S : Sta} {ht : Hot} {ι ι1 : List Addr} {H H1 : Hp} {d : Env} {σ : St} (e : Ext ι H ι1 H1) (h : EnvR S ht ι H d σ) : EnvR S ht ι1 H1 d σ := by
  refine ⟨h.len, fun i u q => ?_, fun i c fs q => ?_⟩
  · obtain ⟨v, h1, h2⟩ := h.val i u q
    exact ⟨v, h1, h2.mono e⟩
  · obtain ⟨a, dd, h1, h2, h3⟩ := h.exn i c fs q
    exact ⟨a, dd, h1, h2, h3.mono e⟩
theorem EnvR.slot {S : Sta} {ht : Hot} {ι : List Addr} {H : Hp} {d : Env} {σ : St} (h : EnvR S ht ι H d σ) {i : Nat} {u : U} (e : slot d i = some u) : ∃ v, σ[i]? = some (some v) ∧ VR S ι H u v := by
  unfold PV.slot at e
  split at e
  · rename_i w hw
    cases e
    exact h.val i _ hw
  · cases e
theorem EnvR.set {S : Sta} {ht : Hot} {ι : List Addr} {H : Hp} {d : Env} {σ : St} (h : EnvR S ht ι H d σ) {i : Nat} {u : U} {v : V} (hi : i < d.length) (r : VR S ι H u v) : EnvR S ht ι H (d.set i (.val u)) (σ.set i (some v)) := by
  refine ⟨by simp [h.len], fun j w q => ?_, fun j c fs q => ?_⟩
  · by_cases e : i = j
    · subst e
      rw [List.getElem?_set_self hi] at q
      cases q
      exact ⟨v, List.getElem?_set_self (by rw [h.len]; exact hi), r⟩
    · rw [List.getElem?_set_ne e] at q
      rw [List.getElem?_set_ne e]
      exact h.val j w q
  · by_cases e : i = j
    · subst e
      rw [List.getElem?_set_self hi] at q
      cases q
    · rw [List.getElem?_set_ne e] at q
      rw [List.getElem?_set_ne e]
      exact h.exn j c fs q
theorem EnvR.wipe {S : Sta} {ht : Hot} {ι : List Addr} {H : Hp} {d : Env} {σ : St} (h : EnvR S ht ι H d σ) : ∀ vs : List Nat, EnvR S ht ι H (wipeE d vs) (L2.wipe σ vs)
  | [] => h
  | v :: vs => by
    have ih := EnvR.wipe h vs
    show EnvR S ht ι H ((wipeE d vs).set v .no) ((L2.wipe σ vs).set v none)
    refine ⟨by simp [ih.len], fun j w q => ?_, fun j c fs q => ?_⟩
    · by_cases e : v = j
      · subst e
        by_cases hv : v < (wipeE d vs).length
        · rw [List.getElem?_set_self hv] at q; cases q
        · rw [List.getElem?_eq_none (by simpa using hv)] at q; cases q
      · rw [List.getElem?_set_ne e] at q
        rw [List.getElem?_set_ne e]
        exact ih.val j w q
    · by_cases e : v = j
      · subst e
        by_cases hv : v < (wipeE d vs).length
        · rw [List.getElem?_set_self hv] at q; cases q
        · rw [List.getElem?_eq_none (by simpa using hv)] at q; cases q
      · rw [List.getElem?_set_ne e] at q
        rw [List.getElem?_set_ne e]
        exact ih.exn j c fs q
/-! ### heaps that change -/
theorem Rel.lt {S : Sta} {L : List Nat} {ι : List Addr} {G : Gp} {H : Hp} (R : Rel S L ι G H) {i : Nat} {c : Cell} (h : G[i]? = some c) : ∃ a, ι[i]? = some a := by
  have hi := (List.getElem?_eq_some_iff.mp h).1
  rw [← R.len] at hi
  exact ⟨ι[i], by simp [hi]⟩
theorem Rel.here {S : Sta} {L : List Nat} {ι : List Addr} {G : Gp} {H : Hp} (R : Rel S L ι G H) {a : Addr} (h : a ∈ ι) : ∃ i c o, ι[i]? = some a ∧ G[i]? = some c ∧ H a = some o ∧ CR S L ι H i c o := by
  obtain ⟨i, hi⟩ := List.mem_iff_getElem?.mp h
  have hl := (List.getElem?_eq_some_iff.mp hi).1
  rw [R.len] at hl
  obtain ⟨o, h1, h2⟩ := R.at_ i G[i] a (by simp [hl]) hi
  exact ⟨i, G[i], o, hi, by simp [hl], h1, h2⟩
theorem CR.notTup {S : Sta} {L : List Nat} {ι : List Addr} {H : Hp} {i : Nat} {c : Cell} {o : HO} (h : CR S L ι H i c o) : (∀ vs, o ≠ .tup vs) ∧ (∀ fs, o ≠ .xd fs) := by
  cases c with
  | lst us =>
    obtain ⟨vs, e, _⟩ := h
    rw [e]
    exact ⟨fun _ z => (by cases z), fun _ z => (by cases z)⟩
  | dct ks =>
    obtain ⟨kvs, _, e | ⟨_, od, e⟩⟩ := h
    · rw [e.2]
      exact ⟨fun _ z => (by cases z), fun _ z => (by cases z)⟩
    · rw [e]
      exact ⟨fun _ z => (by cases z), fun _ z => (by cases z)⟩
  | ins c fs =>
    obtain ⟨dx, fvs, e, _⟩ := h
    rw [e]
    exact ⟨fun _ z => (by cases z), fun _ z => (by cases z)⟩
/-- what is not tracked yet is laid, known to the interpreter or not -/
theorem Ext.upd {ι : List Addr} {H : Hp} {p : Addr} {o : HO} (hp : H p = none) : Ext ι H ι (upd H p o) :=
  ⟨⟨[], by simp⟩, fun _ h => .inl h, fun a u h _ => by rw [upd_ne (ne_of_none h hp)]; exact h, fun a u w h => by rw [upd_ne (ne_of_none h hp)]; exact h, fun a u h => by rw [upd_ne (ne_of_none h hp)]; exact h, fun a u h => by rw [upd_ne (ne_of_none h hp)]; exact h⟩
theorem Ext.app {ι : List Addr} {H : Hp} {p : Addr} {o : HO} (hp : H p = none) : Ext ι H (ι ++ [p]) (L2.upd H p o) :=
  ⟨⟨[p], rfl⟩, fun a h => by
    rcases List.mem_append.mp h with h | h
    · exact .inl h
    · have e : a = p := by simpa using h
      rw [e]
      exact .inr hp, fun a u h _ => by rw [upd_ne (ne_of_none h hp)]; exact h, fun a u w h => by rw [upd_ne (ne_of_none h hp)]; exact h, fun a u h => by rw [upd_ne (ne_of_none h hp)]; exact h, fun a u h => by rw [upd_ne (ne_of_none h hp)]; exact h⟩
/-- something that the interpreter does not know of is laid -/
theorem Rel.upd {S : Sta} {L : List Nat} {ι : List Addr} {G : Gp} {H : Hp} (R : Rel S L ι G H) {p : Addr} {o : HO} (hp : H p = none) : Rel S L ι G (L2.upd H p o) := by
  refine ⟨R.len, R.nd, R.lk, fun i c a h1 h2 => ?_⟩
  obtain ⟨u, e1, e2⟩ := R.at_ i c a h1 h2
  exact ⟨u, by rw [upd_ne (ne_of_none e1 hp)]; exact e1, e2.mono (Ext.upd hp)⟩
/-- a new cell -/
theorem Rel.app {S : Sta} {L : List Nat} {ι : List Addr} {G : Gp} {H : Hp} (R : Rel S L ι G H) {p : Addr} {o : HO} {c : Cell} (hp : H p = none) (hc : CR S L ι H G.length c o) : Rel S L (ι ++ [p]) (G ++ [c]) (L2.upd H p o) := by
  have hn : p ∉ ι := fun h => by
    obtain ⟨_, _, _, _, _, e, _⟩ := R.here h
    rw [hp] at e; cases e
  refine ⟨by simp [R.len], ?_, fun i h => by rw [List.length_append]; exact Nat.lt_add_right _ (R.lk i h), fun i c' a h1 h2 => ?_⟩
  · refine List.nodup_append.mpr ⟨R.nd, by simp, fun a ha b hb e => ?_⟩
    have : b = p := by simpa using hb
    exact hn (by rw [← this, ← e]; exact ha)
  · by_cases hi : i < G.length
    · rw [List.getElem?_append_left hi] at h1
      rw [List.getElem?_append_left (by rw [R.len]; exact hi)] at h2
      obtain ⟨u, e1, e2⟩ := R.at_ i c' a h1 h2
      exact ⟨u, by rw [upd_ne (ne_of_none e1 hp)]; exact e1, e2.mono (Ext.app hp)⟩
    · have hl := (List.getElem?_eq_some_iff.mp h1).1
      have e : i = G.length := by
        rw [List.length_append, List.length_singleton] at hl
        omega
      subst e
      rw [List.getElem?_append_right (Nat.le_refl _)] at h1
      rw [← R.len, List.getElem?_append_right (Nat.le_refl _)] at h2
      simp at h1 h2
      subst h1 h2
      exact ⟨o, upd_same, hc.mono (Ext.app hp)⟩
theorem get_app {ι : List Addr} {G : Gp} {p : Addr} (h : ι.length = G.length) : (ι ++ [p])[G.length]? = some p := by
  rw [← h, List.getElem?_append_right (Nat.le_refl _)]
  simp
/-- a cell is written -/
theorem Ext.write {S : Sta} {L : List Nat} {ι : List Addr} {G : Gp} {H : Hp} (R : Rel S L ι G H) {i : Nat} {a : Addr} {c : Cell} {o o' : HO} (hi : ι[i]? = some a) (hc : G[i]? = some c) (ha : H a = some o) (hz : ∀ ob u, o ≠ .frz ob u) (hCR : CR S L ι H i c o) : Ext ι H ι (L2.upd H a o') := by
  have ne : ∀ b u, H b = some u → u ≠ o → b ≠ a := fun b u e d z => by
    rw [z, ha] at e
    cases e
    exact d rfl
  obtain ⟨n1, n2⟩ := hCR.notTup
  refine ⟨⟨[], by simp⟩, fun _ h => .inl h, fun b u h hn => ?_, fun b ob u h => ?_, fun b vs h => ?_, fun b fs h => ?_⟩
  · rw [upd_ne fun z => hn (by rw [z]; exact List.mem_of_getElem? hi)]
    exact h
  · rw [upd_ne (ne b _ h fun z => hz ob u z.symm)]
    exact h
  · rw [upd_ne (ne b _ h fun z => n1 vs z.symm)]
    exact h
  · rw [upd_ne (ne b _ h fun z => n2 fs z.symm)]
    exact h
theorem Rel.write {S : Sta} {L : List Nat} {ι : List Addr} {G : Gp} {H : Hp} (R : Rel S L ι G H) {i : Nat} {a : Addr} {c c' : Cell} {o' : HO} (hi : ι[i]? = some a) (hc : G[i]? = some c) (e : Ext ι H ι (L2.upd H a o')) (hCR' : CR S L ι H i c' o') : Rel S L ι (G.set i c') (L2.upd H a o') := by
  refine ⟨by simp [R.len], R.nd, fun i h => by rw [List.length_set]; exact R.lk i h, fun j d b h1 h2 => ?_⟩
  by_cases q : i = j
  · subst q
    rw [List.getElem?_set_self (List.getElem?_eq_some_iff.mp hc).1] at h1
    cases h1
    rw [hi] at h2
    cases h2
    exact ⟨o', upd_same, hCR'.mono e⟩
  · rw [List.getElem?_set_ne q] at h1
    obtain ⟨u, e1, e2⟩ := R.at_ j d b h1 h2
    refine ⟨u, ?_, e2.mono e⟩
    rw [upd_ne fun z => q ?_]
    · exact e1
    · subst z
      obtain ⟨l1, g1⟩ := List.getElem?_eq_some_iff.mp hi
      obtain ⟨l2, g2⟩ := List.getElem?_eq_some_iff.mp h2
      exact (List.getElem_inj R.nd).mp (g1.trans g2.symm)
end PV
set_option Elab.async false
set_option linter.all false
set_option maxRecDepth 100000
set_option maxHeartbeats 1000000
/-! PyS1: the interpreter's expressions are sound: what each construct's reading asks is given by the interpreter's run. -/
namespace PV
open PySem PySem.Spec L2
/-! ### runs that end -/
abbrev KXc := String → List (String × U) → Gp → Prop
def Sat {α : Type} (r : Res α) (P : α → Gp → Prop) (E : KXc) : Prop := match r with
  | .ok a G => P a G
  | .ex c fs G => E c fs G
  | .bad => False
theorem Sat.bind_eq {α β : Type} {r : Res α} {f : α → Gp → Res β} {P : β → Gp → Prop} {E : KXc} : Sat (r.bind f) P E = Sat r (fun a G => Sat (f a G) P E) E := by
  cases r <;> rfl
theorem Sat.bindD {α β : Type} {r : Res α} {f : α → Gp → Res β} {P : β → Gp → Prop} {E : KXc} (h : Sat (r.bind f) P E) : Sat r (fun a G => Sat (f a G) P E) E := by
  rw [← Sat.bind_eq]
  exact h
theorem Sat.ofO {α : Type} {o : Option α} {G : Gp} {P : α → Gp → Prop} {E : KXc} (h : Sat (Res.ofO o G) P E) : ∃ a, o = some a ∧ P a G := by
  cases o with
  | none => exact h.elim
  | some a => exact ⟨a, rfl, h⟩
theorem Sat.mono {α : Type} {r : Res α} {P P' : α → Gp → Prop} {E E' : KXc} (h : Sat r P E) (hp : ∀ a G, P a G → P' a G) (he : ∀ c fs G, E c fs G → E' c fs G) : Sat r P' E' := by
  cases r with
  | ok a G => exact hp a G h
  | ex c fs G => exact he c fs G h
  | bad => exact h
/-- what is wanted of the interpreter's end gives what is wanted of the model's -/
def OkK (S : Sta) (L : List Nat) (ι : List Addr) (H : Hp) (P : U → Gp → Prop) (Q : VK) : Prop :=
  ∀ u G1 v ι1 H1, P u G1 → Ext ι H ι1 H1 → Rel S L ι1 G1 H1 → VR S ι1 H1 u v → Q v H1
def ExK (S : Sta) (L : List Nat) (ι : List Addr) (H : Hp) (E : KXc) (W : XK) : Prop :=
  ∀ c fs G1 d ι1 H1, E c fs G1 → Ext ι H ι1 H1 → Rel S L ι1 G1 H1 → XD S ι1 H1 fs d → W (.ref (S.ca c)) d H1
theorem OkK.ext {S : Sta} {L : List Nat} {ι ι1 : List Addr} {H H1 : Hp} {P : U → Gp → Prop} {Q : VK} (k : OkK S L ι H P Q) (e : Ext ι H ι1 H1) : OkK S L ι1 H1 P Q :=
  fun u G1 v ι2 H2 p e2 R r => k u G1 v ι2 H2 p (e.trans e2) R r
theorem ExK.ext {S : Sta} {L : List Nat} {ι ι1 : List Addr} {H H1 : Hp} {E : KXc} {W : XK} (k : ExK S L ι H E W) (e : Ext ι H ι1 H1) : ExK S L ι1 H1 E W :=
  fun c fs G1 d ι2 H2 p e2 R r => k c fs G1 d ι2 H2 p (e.trans e2) R r
/-! ### semantic readings -/
def wE (X : Cx) (e : Expr) : TE := fun σ H Q => ∀ (pins : List (Addr × Obj)) (s : Shared), Inv X pins σ H s → wpAny (model X.prog X.w) X.A (eval e X.env) (EP X pins σ Q) X.xe s
def wT (X : Cx) (e : Expr) : TT := fun σ H Q => ∀ (whole : Sem Value) (pins : List (Addr × Obj)) (s : Shared), (whole = eval e X.env ∨ True) → Inv X pins σ H s → wpAny (model X.prog X.w) X.A (isTrue e X.env (eval e X.env)) (TP X pins σ Q) X.xe s
def wA (X : Cx) (es : List Expr) : TA := fun σ H Q => ∀ (pos : Pos) (pins : List (Addr × Obj)) (s : Shared), Inv X pins σ H s → wpAny (model X.prog X.w) X.A (spliced (backTo pos (starEach es X.env))) (AP X pins σ Q) X.xe s
def wO (X : Cx) (f : Value → Value → Sem Value) : R2 := fun x y H Q => ∀ (pins : List (Addr × Obj)) (s : Shared) (σ : L2.St) (v u : Value), Inv X pins σ H s → RelV x v → RelV y u → wpAny (model X.prog X.w) X.A (f v u) (EP X pins σ Q) X.xe s
theorem pe_w {X : Cx} {e : Expr} : PE X e (wE X e) := ⟨fun pins s σ H Q I h => h pins s I⟩
theorem pa_w {X : Cx} {es : List Expr} : PA X es (wA X es) := ⟨fun pos pins s σ H Q I h => h pos pins s I⟩
theorem pt_w {X : Cx} {e : Expr} : PT X e (wT X e) := ⟨fun pins s σ H Q I h => h (eval e X.env) pins s (.inl rfl) I⟩
theorem op_w {X : Cx} {f : Value → Value → Sem Value} : OpR X f (wO X f) := fun pins s σ H x y v u Q I rx ry h => h pins s σ v u I rx ry
theorem wE.of {X : Cx} {e : Expr} {t : TE} {σ : L2.St} {H : Hp} {Q : VK} (h : PE X e t) (q : t σ H Q) : wE X e σ H Q := fun pins s I => h.run pins s σ H Q I q
theorem wT.of {X : Cx} {e : Expr} {t : TT} {σ : L2.St} {H : Hp} {Q : Bool → Hp → Prop} (h : PT X e t) (q : t σ H Q) : wT X e σ H Q := fun _ pins s _ I => h.run pins s σ H Q I q
theorem wA.of {X : Cx} {es : List Expr} {t : TA} {σ : L2.St} {H : Hp} {Q : List V → Hp → Prop} (h : PA X es t) (q : t σ H Q) : wA X es σ H Q := fun pos pins s I => h.run pos pins s σ H Q I q
theorem wO.of {X : Cx} {f : Value → Value → Sem Value} {r : R2} {x y : V} {H : Hp} {Q : VK} (h : OpR X f r) (q : r x y H Q) : wO X f x y H Q := fun pins s σ v u I rx ry => h pins s σ H x y v u Q I rx ry q
/-! ### the judgement -/
/-- the expression e does what m does -/
def SE (X : Cx) (S : Sta) (ht : Hot) (C : Ctx) (W : WX) (e : Expr) (m : Ex) : Prop :=
  ∀ (L : List Nat) (ι : List Addr) (G : Gp) (H : Hp) (d : Env) (σ : L2.St) (P : U → Gp → Prop) (E : KXc) (Q : VK), Rel S L ι G H → EnvR S ht ι H d σ → Sat (ev C L m d G) P E → OkK S L ι H P Q → ExK S L ι H E (fun cls dd H' => W cls dd σ H') → wE X e σ H Q
def OkB (S : Sta) (L : List Nat) (ι : List Addr) (H : Hp) (P : Bool → Gp → Prop) (Q : Bool → Hp → Prop) : Prop := ∀ b G1 ι1 H1, P b G1 → Ext ι H ι1 H1 → Rel S L ι1 G1 H1 → Q b H1
def ST (X : Cx) (S : Sta) (ht : Hot) (C : Ctx) (W : WX) (e : Expr) (m : Ts) : Prop :=
  ∀ (L : List Nat) (ι : List Addr) (G : Gp) (H : Hp) (d : Env) (σ : L2.St) (P : Bool → Gp → Prop) (E : KXc) (Q : Bool → Hp → Prop), Rel S L ι G H → EnvR S ht ι H d σ → Sat (tst C L m d G) P E → OkB S L ι H P Q → ExK S L ι H E (fun cls dd H' => W cls dd σ H') → wT X e σ H Q
def OkA (S : Sta) (L : List Nat) (ι : List Addr) (H : Hp) (P : List U → Gp → Prop) (Q : List V → Hp → Prop) : Prop := ∀ us G1 vs ι1 H1, P us G1 → Ext ι H ι1 H1 → Rel S L ι1 G1 H1 → VRs S ι1 H1 us vs → Q vs H1
def SA (X : Cx) (S : Sta) (ht : Hot) (C : Ctx) (W : WX) (es : List Expr) (ms : List Ex) : Prop :=
  ∀ (L : List Nat) (ι : List Addr) (G : Gp) (H : Hp) (d : Env) (σ : L2.St) (P : List U → Gp → Prop) (E : KXc) (Q : List V → Hp → Prop), Rel S L ι G H → EnvR S ht ι H d σ → Sat (evs C L ms d G) P E → OkA S L ι H P Q → ExK S L ι H E (fun cls dd H' => W cls dd σ H') → wA X es σ H Q
section
variable {X : Cx} {S : Sta} {ht : Hot} {C : Ctx} {W : WX} {L : List Nat} {ι : List Addr} {G : Gp} {H : Hp} {P : U → Gp → Prop} {E : KXc} {Q : VK} {x y : U} {v w : V} {pos : Pos}
theorem lim_line {n : Nat} (h : n ≤ LIM) : n ≤ sizeLine := Nat.le_trans h (by rw [sizeLine_eq]; decide)
theorem lim_lt {n : Nat} (h : n < LIM) : n < sizeLine := Nat.lt_of_lt_of_le h (by rw [sizeLine_eq]; decide)
theorem VR.non_ {v : V} (h : VR S ι H .non v) : v = .non := h
theorem VR.bl_ {b : Bool} {v : V} (h : VR S ι H (.bl b) v) : v = .bl b := h
theorem VR.int_ {i : Int} {v : V} (h : VR S ι H (.int i) v) : v = .int i := h
theorem VR.str_ {z : Str} {v : V} (h : VR S ι H (.str z) v) : v = .str z := h
/-- a list's cell as it lies -/
theorem Rel.lst {i : Nat} {us : List U} (R : Rel S L ι G H) (h : G[i]? = some (.lst us)) {v : V} (r : VR S ι H (.ref i) v) : ∃ a vs, v = .ref a ∧ ι[i]? = some a ∧ H a = some (.lst vs) ∧ VRs S ι H us vs := by
  obtain ⟨a, h1, h2⟩ := r
  obtain ⟨o, h3, vs, e, h4⟩ := R.at_ i _ a h h1
  exact ⟨a, vs, h2, h1, by rw [h3, e], h4⟩
theorem Rel.dct {i : Nat} {ks : List (Key × U)} (R : Rel S L ι G H) (h : G[i]? = some (.dct ks)) {v : V} (r : VR S ι H (.ref i) v) : ∃ a kvs, v = .ref a ∧ ι[i]? = some a ∧ KR S ι H ks kvs ∧ ((i ∉ L ∧ H a = some (.dK kvs)) ∨ (i ∈ L ∧ ∃ od, H a = some (.frz od (.dK kvs)))) := by
  obtain ⟨a, h1, h2⟩ := r
  obtain ⟨o, h3, kvs, h4, h5⟩ := R.at_ i _ a h h1
  refine ⟨a, kvs, h2, h1, h4, ?_⟩
  rcases h5 with ⟨n, e⟩ | ⟨n, od, e⟩
  · exact .inl ⟨n, by rw [h3, e]⟩
  · exact .inr ⟨n, od, by rw [h3, e]⟩
theorem Rel.ins {i : Nat} {c : String} {fs : List (String × U)} (R : Rel S L ι G H) (h : G[i]? = some (.ins c fs)) {v : V} (r : VR S ι H (.ref i) v) : ∃ a dx fvs, v = .ref a ∧ ι[i]? = some a ∧ H a = some (.ins (S.ca c) dx fvs) ∧ FR S ι H fs fvs ∧ c ∈ S.cls := by
  obtain ⟨a, h1, h2⟩ := r
  obtain ⟨o, h3, dx, fvs, e, h4⟩ := R.at_ i _ a h h1
  exact ⟨a, dx, fvs, h2, h1, by rw [h3, e], h4⟩
/-- a new cell at the end -/
theorem Rel.new (R : Rel S L ι G H) {p : Addr} {o : HO} {c : Cell} (hp : H p = none) (hc : CR S L ι H G.length c o) {Q : VK} (k : OkK S L ι H P Q) (hP : P (.ref G.length) (G ++ [c])) : Q (.ref p) (L2.upd H p o) :=
  k _ _ _ _ _ hP (Ext.app hp) (R.app hp hc) ⟨p, get_app R.len, rfl⟩
theorem Rel.newL (R : Rel S L ι G H) {p : Addr} {us : List U} {vs : List V} (hp : H p = none) (hv : VRs S ι H us vs) {Q : VK} (k : OkK S L ι H P Q) (hP : P (.ref G.length) (G ++ [.lst us])) : Q (.ref p) (L2.upd H p (.lst vs)) :=
  R.new (c := .lst us) (o := .lst vs) hp ⟨vs, rfl, hv⟩ k hP
/-- a new tuple -/
theorem Rel.newT (R : Rel S L ι G H) {p : Addr} {us : List U} {vs : List V} (hp : H p = none) (hv : VRs S ι H us vs) {Q : VK} (k : OkK S L ι H P Q) (hP : P (.tup us) G) : Q (.ref p) (L2.upd H p (.tup vs)) :=
  k _ _ _ _ _ hP (Ext.upd hp) (R.upd hp) ⟨p, vs, rfl, SqT.of upd_same, hv.mono (Ext.upd hp)⟩
theorem OkK.same (k : OkK S L ι H P Q) (R : Rel S L ι G H) (hP : P x G) (r : VR S ι H x v) : Q v H := k _ _ _ _ _ hP (Ext.refl _ _) R r
theorem VRs.nil_ {vs : List V} (h : VRs S ι H [] vs) : vs = [] := h

/-! ### operators by values -/
theorem repS_len (x : Str) (n : Nat) : (repS x n).length = x.length * n := by
  have key : ∀ (n : Nat) (a : Array Nat), ((List.replicate n x.cps).foldl (· ++ ·) a).size = a.size + x.cps.size * n := by
    intro n
    induction n with
    | zero => intro a; rfl
    | succ n ih =>
      intro a
      rw [List.replicate_succ, List.foldl_cons, ih, Array.size_append, Nat.mul_succ]
      omega
  have := key n #[]
  rw [show (#[] : Array Nat).size = 0 from rfl, Nat.zero_add] at this
  exact this
/-- a text so many times -/
theorem op_rep_str : OpR X (binaryOp .Mult) (fun x y H Q => ∃ z k, x = .str z ∧ y = .int k ∧ 0 ≤ k ∧ k ≤ 1000 ∧ z.length * k.toNat ≤ sizeLine ∧ Q (.str (repS z k.toNat)) H) := by
  intro pins s σ H x y v u Q I rx ry h
  obtain ⟨z, k, rfl, rfl, h1, h2, h3, q⟩ := h
  obtain ⟨t, rfl⟩ := rx
  obtain ⟨t', rfl⟩ := ry
  have fin : ∀ tk tok, EP X pins σ Q (.str (repS z k.toNat) tok) { s with toks := tk } := fun tk tok => ⟨.str _, H, I.tok _, ⟨_, rfl⟩, q⟩
  have hz : z.length * k.toNat ≤ 16777216 := by rw [← sizeLine_eq]; exact h3
  have e0 : repS z 0 = Str.empty := rfl
  have hk : k = 0 ∨ k = 1 ∨ 2 ≤ k := by omega
  refine P.mul_str (by rw [Bool.or_eq_false_iff]; exact ⟨decide_eq_false (by omega), decide_eq_false (by omega)⟩) (fun h4 _ => ?_) (fun _ _ => ?_) ?_
  · have h5 : (z.length : Int) * k ≤ 16777216 := by
      have h6 : ((z.length * k.toNat : Nat) : Int) ≤ 16777216 := by
        generalize z.length * k.toNat = m at hz
        omega
      rw [Int.natCast_mul, Int.toNat_of_nonneg h1] at h6
      exact h6
    have h6 : (z.length : Int) ≤ (2 ^ 63 - 1) / k := by
      rw [Int.le_ediv_iff_mul_le (by omega)]
      omega
    omega
  · show decide (z.length * k.toNat > sizeLine) = false
    exact decide_eq_false (by omega)
  · rcases hk with hk | hk | hk
    · subst hk
      rw [if_pos (by decide)]
      exact ⟨by decide, fin _ _⟩
    · subst hk
      rw [if_neg (by decide), if_pos (by rfl)]
      have e1 : repS z (Int.toNat 1) = z := by
        show (⟨#[] ++ z.cps⟩ : Str) = z
        rw [Array.empty_append]
      have := fin s.toks t
      rw [e1] at this
      exact this
    · rw [if_neg (by omega)]
      have e2 : (k == 1) = false := by rw [beq_eq_false_iff_ne]; omega
      cases hx : z.length == 0 with
      | false =>
        rw [e2, if_neg (by simp)]
        refine ⟨?_, fin _ _⟩
        have := repS_len z k.toNat
        show (repS z k.toNat).length ≤ _
        omega
      | true =>
        rw [if_pos (by simp)]
        have hz0 : z = ⟨#[]⟩ := by
          obtain ⟨c⟩ := z
          have : c.size = 0 := by simpa [Str.length] using hx
          rw [Array.eq_empty_of_size_eq_zero this]
        have e3 : repS z k.toNat = z := by
          have := repS_len z k.toNat
          rw [hz0] at this ⊢
          have hl : (repS ⟨#[]⟩ k.toNat).cps.size = 0 := by simpa [Str.length] using this
          have hl2 := Array.eq_empty_of_size_eq_zero hl
          show Str.mk (repS ⟨#[]⟩ k.toNat).cps = _
          rw [hl2]
        have := fin s.toks t
        rw [e3] at this
        exact this
theorem binop_ok {op : Operator} (R : Rel S L ι G H) (hK : X.K = S.K) (rx : VR S ι H x v) (ry : VR S ι H y w) (h : Sat (binop op x y G) P E) (k : OkK S L ι H P Q) : wO X (binaryOp op) v w H Q := by
  unfold binop at h
  split at h
  · exact .of op_add ⟨_, _, rx, ry, k.same R h rfl⟩
  · exact .of op_sub ⟨_, _, rx, ry, k.same R h rfl⟩
  · split at h
    · rename_i hm
      refine .of op_mul ⟨_, _, rx, ry, ?_, k.same R h rfl⟩
      unfold mulOk at hm
      simpa [CMul, Bool.or_eq_true, Bool.and_eq_true] using hm
    · exact h.elim
  · split at h
    · rename_i hm
      exact .of op_rep_str ⟨_, _, rx, ry, hm.1, hm.2.1, lim_line hm.2.2, k.same R h rfl⟩
    · exact h.elim
  · split at h
    · rename_i hm
      exact .of op_fdivW ⟨_, _, rx, ry, wide_div hm.1 hm.2 (by decide) (by decide), k.same R h rfl⟩
    · exact h.elim
  · split at h
    · rename_i hm
      exact .of op_mod ⟨_, _, rx, ry, hm, k.same R h rfl⟩
    · exact h.elim
  · split at h
    · rename_i hm
      exact .of op_pow ⟨_, _, rx, ry, hm, k.same R h rfl⟩
    · exact h.elim
  · split at h
    · rename_i hm
      exact .of op_add_str ⟨_, _, rx, ry, lim_line hm, k.same R h rfl⟩
    · exact h.elim
  · split at h
    · rename_i us ws hm
      obtain ⟨a, vs, e1, q1, r1⟩ := rx
      obtain ⟨b, xs, e2, q2, r2⟩ := ry
      refine .of op_catA ⟨a, b, vs, xs, e1, e2, by rw [hK]; exact q1, by rw [hK]; exact q2, by rw [r1.length, r2.length]; exact lim_line hm, fun z => ?_, fun _ z => ?_, fun _ _ p hp => ?_⟩
      · refine k.same R h ⟨b, _, rfl, q2, ?_⟩
        have := r1.app r2
        rw [z] at this
        exact this
      · refine k.same R h ⟨a, _, rfl, q1, ?_⟩
        have := r1.app r2
        rw [z, List.append_nil] at this
        exact this
      · exact R.newT hp (r1.app r2) k h
    · exact h.elim
  · split at h
    · rename_i i j us ws hi hj
      split at h
      · rename_i hm
        obtain ⟨a, vs, e1, _, q1, r1⟩ := R.lst hi rx
        obtain ⟨b, xs, e2, _, q2, r2⟩ := R.lst hj ry
        exact .of op_cat ⟨a, b, vs, xs, e1, e2, q1, q2, by rw [r1.length, r2.length]; exact lim_line hm, fun p hp => R.newL hp (r1.app r2) k h⟩
      · exact h.elim
    · exact h.elim
  · exact h.elim

end
end PV
set_option Elab.async false
set_option linter.all false
set_option maxRecDepth 100000
set_option maxHeartbeats 1000000
/-! PyEq: == of the interpreter's values is the model's. -/
namespace PV
open PySem PySem.Spec PyProof.Rows L2
open PySem.SeqAt (RcAt EqAt)
open PySem.AutoSeq1 (wpAny_loadPart')
open PySem.MeetsSeq
section
variable {prog : Program} {w : World} {A : Around} {s : Shared}
/-- a dict's own == says nothing of what is no dict -/
theorem dict_declines {E : Value → Shared → Prop} {Q : Value → Shared → Prop} {d : Addr} {x : Value} {T : String} (hd : s.TypeIs (.ref d) "dict") (hx : s.TypeIs x T) (hsub : isSubtype (.type T) (.type "dict") = pure false) (h : Q .notImplemented s) :
    wpAny (model prog w) A (call (.builtin "dict.__eq__") [.ref d, x]) Q E s := by
  refine wpAny_call_entry PySem.F.slot_dict_eq hd PySem.F.entry_dict_eq ?_ (PySem.F.args_dict_eq_2 _ _)
  show wpAny _ _ (Builtin.Dict.dictSlotArgs "__eq__" ⟨[.ref d, x], []⟩ >>= _) _ _ s
  refine wpAny_bind ?_
  unfold Builtin.Dict.dictSlotArgs
  refine wpAny_bind (wpAny_notOrdered_dict hd ?_)
  show wpAny _ _ (pure (Value.ref d, x)) _ _ s
  refine wpAny_pure ?_
  refine wpAny_bind (wpAny_isInstance (T := T) hx hsub ?_)
  simp only [Bool.not_false, if_true]
  exact wpAny_bind (wpAny_rule (wpAny_pure ⟨_, rfl, h⟩))
end
abbrev DicO (dd : Option Addr) (es : Array DictEntry) (ep : Nat) (sl : Array (Option Value)) : Obj := { cls := .type "dict", dict := dd, data := .dict es ep, slots := sl }
theorem bool_dict_no (b : Bool) (l : Addr) (dd : Option Addr) (es : Array DictEntry) (ep : Nat) (sl : Array (Option Value)) :
    Meets (Builtin.«int.__eq__» ⟨[.bool b, .ref l], []⟩) (fun _ R s => s.heap.get? l = some (DicO dd es ep sl) ∧ R (.ok (.ret .notImplemented)) s) :=
  .of_wp fun prog w A R s h => by obtain ⟨hp, g, d, tk, os⟩ := s; obtain ⟨hl, h⟩ := h; wp_walk using wpAny_loadPart' hl, wpAny_load hl; exact ⟨_, rfl, h⟩
theorem int_dict_no (b : Int) (u : Tok) (l : Addr) (dd : Option Addr) (es : Array DictEntry) (ep : Nat) (sl : Array (Option Value)) :
    Meets (Builtin.«int.__eq__» ⟨[.int b u, .ref l], []⟩) (fun _ R s => s.heap.get? l = some (DicO dd es ep sl) ∧ R (.ok (.ret .notImplemented)) s) :=
  .of_wp fun prog w A R s h => by obtain ⟨hp, g, d, tk, os⟩ := s; obtain ⟨hl, h⟩ := h; wp_walk using wpAny_loadPart' hl, wpAny_load hl; exact ⟨_, rfl, h⟩
theorem str_dict_no (b : Str) (u : Tok) (l : Addr) (dd : Option Addr) (es : Array DictEntry) (ep : Nat) (sl : Array (Option Value)) :
    Meets (Builtin.«str.__eq__» ⟨[.str b u, .ref l], []⟩) (fun _ R s => s.heap.get? l = some (DicO dd es ep sl) ∧ R (.ok (.ret .notImplemented)) s) :=
  .of_wp fun prog w A R s h => by obtain ⟨hp, g, d, tk, os⟩ := s; obtain ⟨hl, h⟩ := h; wp_walk using wpAny_loadPart' hl, wpAny_load hl; exact ⟨_, rfl, h⟩
theorem list_dict_no (l b : Addr) (items : Array Value) (n : Nat) (dd dd2 : Option Addr) (sl sl2 : Array (Option Value)) (es : Array DictEntry) (ep : Nat) :
    Meets (Builtin.«list.__eq__» ⟨[.ref l, .ref b], []⟩) (fun _ R s => s.heap.get? l = some { cls := .type "list", dict := dd, data := .seq items n, slots := sl } ∧ s.heap.get? b = some (DicO dd2 es ep sl2) ∧ R (.ok (.ret .notImplemented)) s) :=
  .of_wp fun prog w A R s h => by obtain ⟨hp, g, d, tk, os⟩ := s; obtain ⟨hl, hb, h⟩ := h; have f1 := F.sub_dict_list; wp_walk using wpAny_loadPart' hl, wpAny_loadPart' hb; exact ⟨_, rfl, h⟩
theorem tuple_dict_no (l b : Addr) (items : Array Value) (n : Nat) (dd dd2 : Option Addr) (sl sl2 : Array (Option Value)) (es : Array DictEntry) (ep : Nat) :
    Meets (Builtin.«tuple.__eq__» ⟨[.ref l, .ref b], []⟩) (fun _ R s => s.heap.get? l = some { cls := .type "tuple", dict := dd, data := .seq items n, slots := sl } ∧ s.heap.get? b = some (DicO dd2 es ep sl2) ∧ R (.ok (.ret .notImplemented)) s) :=
  .of_wp fun prog w A R s h => by obtain ⟨hp, g, d, tk, os⟩ := s; obtain ⟨hl, hb, h⟩ := h; have f1 := F.sub_dict_tuple; wp_walk using wpAny_loadPart' hl, wpAny_loadPart' hb; exact ⟨_, rfl, h⟩
section
variable {A : Around} {s : Shared}
/-- what is asked of what is told to be unlike a dict -/
structure IsDic (s : Shared) (d : Addr) : Prop where
  ex : ∃ dd es ep sl, s.heap.get? d = some (DicO dd es ep sl)
theorem IsDic.ty (h : IsDic s d) : s.TypeIs (.ref d) "dict" := by
  obtain ⟨dd, es, ep, sl, e⟩ := h.ex
  exact ⟨_, e, rfl⟩
theorem RcAt.dict_none (hd : IsDic s d) (hu : A.units < cLine) : RcAt A s (.ref d) .none false := fun prog w E Q h =>
  SeqAt.rc_eq_decline_or (k := false) hd.ty rfl (by decide) F.sub_NoneType_dict F.slot_dict_eq F.slot_NoneType_eq_refl
    (fun _ hq => dict_declines hd.ty (T := "NoneType") rfl F.sub_NoneType_dict hq)
    (fun _ hq => call_gives F.slot_NoneType_eq_refl rfl F.entry_NoneType_eq (F.args_NoneType_eq_2 _ _) (SeqAt.NoneType___eq___none_ref_0 d) hq)
    (fun _ hq => wpAny_of_eq (rfl : isSame (.ref d) .none = pure false) hq) (.inr hu) h
theorem RcAt.none_dict (hd : IsDic s d) (hu : A.units < cLine) : RcAt A s .none (.ref d) false := fun prog w E Q h =>
  SeqAt.rc_eq_decline_or (k := false) rfl hd.ty (by decide) F.sub_dict_NoneType F.slot_NoneType_eq F.slot_dict_eq_refl
    (fun _ hq => call_gives F.slot_NoneType_eq rfl F.entry_NoneType_eq (F.args_NoneType_eq_2 _ _) (SeqAt.NoneType___eq___none_ref_0 d) hq)
    (fun _ hq => dict_declines hd.ty (T := "NoneType") rfl F.sub_NoneType_dict hq)
    (fun _ hq => wpAny_of_eq (rfl : isSame .none (.ref d) = pure false) hq) (.inr hu) h
theorem RcAt.dict_bool (b : Bool) (hd : IsDic s d) (hu : A.units < cLine) : RcAt A s (.ref d) (.bool b) false := fun prog w E Q h => by
  obtain ⟨dd, es, ep, sl, e⟩ := hd.ex
  exact SeqAt.rc_eq_decline_or (k := false) hd.ty rfl (by decide) F.sub_bool_dict F.slot_dict_eq F.slot_bool_eq_refl
    (fun _ hq => dict_declines hd.ty (T := "bool") rfl F.sub_bool_dict hq)
    (fun _ hq => call_meets F.slot_bool_eq_refl rfl F.entry_int_eq (F.args_int_eq_2 _ _) (bool_dict_no b d dd es ep sl) ⟨e, hq⟩)
    (fun _ hq => wpAny_of_eq (rfl : isSame (.ref d) (.bool b) = pure false) hq) (.inr hu) h
theorem RcAt.bool_dict (b : Bool) (hd : IsDic s d) (hu : A.units < cLine) : RcAt A s (.bool b) (.ref d) false := fun prog w E Q h => by
  obtain ⟨dd, es, ep, sl, e⟩ := hd.ex
  exact SeqAt.rc_eq_decline_or (k := false) rfl hd.ty (by decide) F.sub_dict_bool F.slot_bool_eq F.slot_dict_eq_refl
    (fun _ hq => call_meets F.slot_bool_eq rfl F.entry_int_eq (F.args_int_eq_2 _ _) (bool_dict_no b d dd es ep sl) ⟨e, hq⟩)
    (fun _ hq => dict_declines hd.ty (T := "bool") rfl F.sub_bool_dict hq)
    (fun _ hq => wpAny_of_eq (rfl : isSame (.bool b) (.ref d) = pure false) hq) (.inr hu) h
theorem RcAt.dict_int (b : Int) (u : Tok) (hd : IsDic s d) (hu : A.units < cLine) : RcAt A s (.ref d) (.int b u) false := fun prog w E Q h => by
  obtain ⟨dd, es, ep, sl, e⟩ := hd.ex
  exact SeqAt.rc_eq_decline_or (k := false) hd.ty rfl (by decide) F.sub_int_dict F.slot_dict_eq F.slot_int_eq_refl
    (fun _ hq => dict_declines hd.ty (T := "int") rfl F.sub_int_dict hq)
    (fun _ hq => call_meets F.slot_int_eq_refl rfl F.entry_int_eq (F.args_int_eq_2 _ _) (int_dict_no b u d dd es ep sl) ⟨e, hq⟩)
    (fun _ hq => wpAny_of_eq (rfl : isSame (.ref d) (.int b u) = pure false) hq) (.inr hu) h
theorem RcAt.int_dict (b : Int) (u : Tok) (hd : IsDic s d) (hu : A.units < cLine) : RcAt A s (.int b u) (.ref d) false := fun prog w E Q h => by
  obtain ⟨dd, es, ep, sl, e⟩ := hd.ex
  exact SeqAt.rc_eq_decline_or (k := false) rfl hd.ty (by decide) F.sub_dict_int F.slot_int_eq F.slot_dict_eq_refl
    (fun _ hq => call_meets F.slot_int_eq rfl F.entry_int_eq (F.args_int_eq_2 _ _) (int_dict_no b u d dd es ep sl) ⟨e, hq⟩)
    (fun _ hq => dict_declines hd.ty (T := "int") rfl F.sub_int_dict hq)
    (fun _ hq => wpAny_of_eq (rfl : isSame (.int b u) (.ref d) = pure false) hq) (.inr hu) h
theorem RcAt.dict_str (b : Str) (u : Tok) (hd : IsDic s d) (hu : A.units < cLine) : RcAt A s (.ref d) (.str b u) false := fun prog w E Q h => by
  obtain ⟨dd, es, ep, sl, e⟩ := hd.ex
  exact SeqAt.rc_eq_decline_or (k := false) hd.ty rfl (by decide) F.sub_str_dict F.slot_dict_eq F.slot_str_eq_refl
    (fun _ hq => dict_declines hd.ty (T := "str") rfl F.sub_str_dict hq)
    (fun _ hq => call_meets F.slot_str_eq_refl rfl F.entry_str_eq (F.args_str_eq_2 _ _) (str_dict_no b u d dd es ep sl) ⟨e, hq⟩)
    (fun _ hq => wpAny_of_eq (rfl : isSame (.ref d) (.str b u) = pure false) hq) (.inr hu) h
theorem RcAt.str_dict (b : Str) (u : Tok) (hd : IsDic s d) (hu : A.units < cLine) : RcAt A s (.str b u) (.ref d) false := fun prog w E Q h => by
  obtain ⟨dd, es, ep, sl, e⟩ := hd.ex
  exact SeqAt.rc_eq_decline_or (k := false) rfl hd.ty (by decide) F.sub_dict_str F.slot_str_eq F.slot_dict_eq_refl
    (fun _ hq => call_meets F.slot_str_eq rfl F.entry_str_eq (F.args_str_eq_2 _ _) (str_dict_no b u d dd es ep sl) ⟨e, hq⟩)
    (fun _ hq => dict_declines hd.ty (T := "str") rfl F.sub_str_dict hq)
    (fun _ hq => wpAny_of_eq (rfl : isSame (.str b u) (.ref d) = pure false) hq) (.inr hu) h
theorem IsDic.ne_list {l : Addr} {items : Array Value} (hd : IsDic s d) (hl : s.heap.IsList l items) : l ≠ d := fun q => by
  obtain ⟨dd, es, ep, sl, e⟩ := hd.ex
  obtain ⟨o, ho, hc, _⟩ := hl
  rw [q, e] at ho
  cases ho
  exact absurd hc (show ¬ (Value.type "dict" = Value.type "list") by decide)
theorem IsDic.ne_tuple {l : Addr} {items : Array Value} (hd : IsDic s d) (hl : s.heap.IsTuple l items) : l ≠ d := fun q => by
  obtain ⟨dd, es, ep, sl, e⟩ := hd.ex
  obtain ⟨o, ho, hc, _⟩ := hl
  rw [q, e] at ho
  cases ho
  exact absurd hc (show ¬ (Value.type "dict" = Value.type "tuple") by decide)
theorem same_no {E : Value → Shared → Prop} {M : Model} {Q : Bool → Shared → Prop} {a b : Addr} {oa ob : Obj} (h : a ≠ b) (ha : s.heap.get? a = some oa) (hb : s.heap.get? b = some ob) (hn : oa.cls ≠ .type "tuple" ∨ ob.cls ≠ .type "tuple") (q : Q false s) : wpAny M A (isSame (.ref a) (.ref b)) Q E s := by
  rcases hn with hn | hn
  · first
      | exact wpAny_isSame_ref_other h ha hb hn q
      | exact SeqAt.wpAny_isSame_ref_other h ha hb hn q
  · exact SeqAt.wpAny_isSame_ref_other' h ha hb hn q
theorem RcAt.list_dict {l : Addr} {items : Array Value} (hl : s.heap.IsList l items) (hd : IsDic s d) (hu : A.units < cLine) : RcAt A s (.ref l) (.ref d) false := fun prog w E Q h => by
  have hne := hd.ne_list hl
  obtain ⟨dd, es, ep, sl, e⟩ := hd.ex
  obtain ⟨⟨cls, dd1, data, sl1⟩, ho, hc, n, hdat⟩ := id hl
  simp only at hc hdat
  subst hc hdat
  exact SeqAt.rc_eq_decline_or (k := false) ⟨_, ho, rfl⟩ hd.ty (by decide) F.sub_dict_list F.slot_list_eq F.slot_dict_eq_refl
    (fun _ hq => call_meets F.slot_list_eq ⟨_, ho, rfl⟩ F.entry_list_eq (F.args_list_eq_2 _ _) (list_dict_no l d items n dd1 dd sl1 sl es ep) ⟨ho, e, hq⟩)
    (fun _ hq => dict_declines hd.ty (T := "list") ⟨_, ho, rfl⟩ F.sub_list_dict hq)
    (fun _ hq => same_no hne ho e (.inr (show Value.type "dict" ≠ Value.type "tuple" by decide)) hq) (.inr hu) h
theorem RcAt.dict_list {l : Addr} {items : Array Value} (hl : s.heap.IsList l items) (hd : IsDic s d) (hu : A.units < cLine) : RcAt A s (.ref d) (.ref l) false := fun prog w E Q h => by
  have hne := hd.ne_list hl
  obtain ⟨dd, es, ep, sl, e⟩ := hd.ex
  obtain ⟨⟨cls, dd1, data, sl1⟩, ho, hc, n, hdat⟩ := id hl
  simp only at hc hdat
  subst hc hdat
  exact SeqAt.rc_eq_decline_or (k := false) hd.ty ⟨_, ho, rfl⟩ (by decide) F.sub_list_dict F.slot_dict_eq F.slot_list_eq_refl
    (fun _ hq => dict_declines hd.ty (T := "list") ⟨_, ho, rfl⟩ F.sub_list_dict hq)
    (fun _ hq => call_meets F.slot_list_eq_refl ⟨_, ho, rfl⟩ F.entry_list_eq (F.args_list_eq_2 _ _) (list_dict_no l d items n dd1 dd sl1 sl es ep) ⟨ho, e, hq⟩)
    (fun _ hq => same_no (Ne.symm hne) e ho (.inl (show Value.type "dict" ≠ Value.type "tuple" by decide)) hq) (.inr hu) h
theorem RcAt.tuple_dict {l : Addr} {items : Array Value} (hl : s.heap.IsTuple l items) (hd : IsDic s d) (hu : A.units < cLine) : RcAt A s (.ref l) (.ref d) false := fun prog w E Q h => by
  have hne := hd.ne_tuple hl
  obtain ⟨dd, es, ep, sl, e⟩ := hd.ex
  obtain ⟨⟨cls, dd1, data, sl1⟩, ho, hc, n, hdat⟩ := id hl
  simp only at hc hdat
  subst hc hdat
  exact SeqAt.rc_eq_decline_or (k := false) ⟨_, ho, rfl⟩ hd.ty (by decide) F.sub_dict_tuple F.slot_tuple_eq F.slot_dict_eq_refl
    (fun _ hq => call_meets F.slot_tuple_eq ⟨_, ho, rfl⟩ F.entry_tuple_eq (F.args_tuple_eq_2 _ _) (tuple_dict_no l d items n dd1 dd sl1 sl es ep) ⟨ho, e, hq⟩)
    (fun _ hq => dict_declines hd.ty (T := "tuple") ⟨_, ho, rfl⟩ F.sub_tuple_dict hq)
    (fun _ hq => same_no hne ho e (.inr (show Value.type "dict" ≠ Value.type "tuple" by decide)) hq) (.inr hu) h
theorem RcAt.dict_tuple {l : Addr} {items : Array Value} (hl : s.heap.IsTuple l items) (hd : IsDic s d) (hu : A.units < cLine) : RcAt A s (.ref d) (.ref l) false := fun prog w E Q h => by
  have hne := hd.ne_tuple hl
  obtain ⟨dd, es, ep, sl, e⟩ := hd.ex
  obtain ⟨⟨cls, dd1, data, sl1⟩, ho, hc, n, hdat⟩ := id hl
  simp only at hc hdat
  subst hc hdat
  exact SeqAt.rc_eq_decline_or (k := false) hd.ty ⟨_, ho, rfl⟩ (by decide) F.sub_tuple_dict F.slot_dict_eq F.slot_tuple_eq_refl
    (fun _ hq => dict_declines hd.ty (T := "tuple") ⟨_, ho, rfl⟩ F.sub_tuple_dict hq)
    (fun _ hq => call_meets F.slot_tuple_eq_refl ⟨_, ho, rfl⟩ F.entry_tuple_eq (F.args_tuple_eq_2 _ _) (tuple_dict_no l d items n dd1 dd sl1 sl es ep) ⟨ho, e, hq⟩)
    (fun _ hq => same_no (Ne.symm hne) e ho (.inl (show Value.type "dict" ≠ Value.type "tuple" by decide)) hq) (.inr hu) h
end
end PV
set_option Elab.async false
set_option linter.all false
set_option maxRecDepth 100000
set_option maxHeartbeats 1000000
/-! PyEq2: eqU is the model's ==. -/
namespace PV
open PySem PySem.Spec L2
open PySem.SeqAt (RcAt EqAt)
open PySem.W (EqTree)
theorem eqAt_rc {A : Around} {s : Shared} {v y : Value} {b : Bool} (h : RcAt A s v y b) (hne : (v == y) = false) (hf : ∀ x t, v ≠ .float x t) : EqAt A s v y b := fun prog w E Q q => by
  unfold eqBool
  refine wpAny_holding ?_
  refine wpAny_ite_split (fun hab => absurd (hne ▸ hab) (by decide)) (fun _ => ?_)
  cases v with
  | float x t => exact absurd rfl (hf x t)
  | _ => cases y <;> exact wpAny_bind (h prog w E _ (wpAny_truthy_bool q))
theorem eqL_some {f : U → U → Option Bool} : ∀ {us ws : List U} {b : Bool}, eqL f us ws = some b →
    (∀ (j : Nat) u w, us[j]? = some u → ws[j]? = some w → ∃ c, f u w = some c) ∧ b = (((List.range (min us.length ws.length)).all fun j => match us[j]?, ws[j]? with
      | some u, some w => (f u w).getD false
      | _, _ => false) && us.length == ws.length)
  | [], [], b, h => by
    cases h
    exact ⟨fun j u w h => by simp at h, by simp⟩
  | [], _ :: _, b, h => by
    cases h
    exact ⟨fun j u w h => by simp at h, by simp⟩
  | _ :: _, [], b, h => by
    cases h
    exact ⟨fun j u w _ h => by simp at h, by simp⟩
  | u :: us, w :: ws, b, h => by
    have h' : ((f u w).bind fun b => (eqL f us ws).bind fun r => some (b && r)) = some b := h
    cases e1 : f u w with
    | none => rw [e1] at h'; cases h'
    | some c =>
      cases e2 : eqL f us ws with
      | none => rw [e1, e2] at h'; cases h'
      | some r =>
        rw [e1, e2] at h'
        cases h'
        obtain ⟨i1, i2⟩ := eqL_some e2
        refine ⟨fun j x y hx hy => ?_, ?_⟩
        · cases j with
          | zero =>
            simp at hx hy
            subst hx hy
            exact ⟨c, e1⟩
          | succ j => exact i1 j x y (by simpa using hx) (by simpa using hy)
        · rw [i2, List.length_cons, List.length_cons, Nat.succ_min_succ, List.range_succ_eq_map, List.all_cons, List.all_map]
          simp [e1, Bool.and_assoc, Function.comp_def]
theorem KR.look {S : Sta} {ι : List Addr} {H : Hp} {k : Key} : ∀ {ks : List (Key × U)} {vs : List (Key × V)}, KR S ι H ks vs →
    (lookK k ks = none ∧ valV vs k = none) ∨ ∃ u v, lookK k ks = some u ∧ valV vs k = some v ∧ VR S ι H u v
  | [], _, h => by
    have h' : _ = [] := h
    rw [h']
    exact .inl ⟨rfl, rfl⟩
  | (k', u) :: ks, _, h => by
    obtain ⟨v, r, h1, h2, h3⟩ := h
    rw [h1]
    unfold lookK valV
    rw [List.find?_cons, List.find?_cons]
    by_cases e : k' = k
    · simp only [e, decide_true, Option.map_some]
      exact .inr ⟨u, v, rfl, rfl, h2⟩
    · simp only [e, decide_false]
      exact KR.look h3
theorem KR.keys {S : Sta} {ι : List Addr} {H : Hp} : ∀ {ks : List (Key × U)} {vs : List (Key × V)}, KR S ι H ks vs → ks.map (·.1) = vs.map (·.1)
  | [], _, h => by
    have h' : _ = [] := h
    rw [h']
    rfl
  | (k', u) :: ks, _, h => by
    obtain ⟨v, r, h1, h2, h3⟩ := h
    rw [h1, List.map_cons, List.map_cons, KR.keys h3]
theorem KR.length {S : Sta} {ι : List Addr} {H : Hp} {ks : List (Key × U)} {vs : List (Key × V)} (h : KR S ι H ks vs) : ks.length = vs.length := by
  have := congrArg List.length h.keys
  simpa using this
theorem look_mem {k : Key} {u : U} : ∀ {ks : List (Key × U)}, (ks.map (·.1)).Nodup → (k, u) ∈ ks → lookK k ks = some u
  | [], _, h => by cases h
  | (k', w) :: ks, nd, h => by
    unfold lookK
    rw [List.find?_cons]
    rcases List.mem_cons.mp h with e | h
    · cases e
      simp
    · have hne : ¬ k' = k := fun e => (List.nodup_cons.mp nd).1 (List.mem_map.mpr ⟨(k, u), h, e.symm⟩)
      simp only [hne, decide_false]
      exact look_mem (List.nodup_cons.mp nd).2 h
theorem eqD_some {f : U → U → Option Bool} {ls : List (Key × U)} : ∀ {ks : List (Key × U)} {b : Bool}, eqD f ls ks = some b →
    (∀ k u w, (k, u) ∈ ks → lookK k ls = some w → ∃ c, f u w = some c) ∧ b = ks.all fun p => match lookK p.1 ls with
      | some w => (f p.2 w).getD false
      | none => false
  | [], b, h => by
    cases h
    exact ⟨fun k u w h => (by cases h), rfl⟩
  | (k, u) :: ks, b, h => by
    have h' : ((eqD f ls ks).bind fun r => match lookK k ls with
      | none => some false
      | some w => (f u w).bind fun b => some (b && r)) = some b := h
    cases e2 : eqD f ls ks with
    | none => rw [e2] at h'; cases h'
    | some r =>
      rw [e2] at h'
      obtain ⟨i1, i2⟩ := eqD_some e2
      cases e3 : lookK k ls with
      | none =>
        simp only [Option.bind_some, e3] at h'
        cases h'
        refine ⟨fun k' u' w hm hw => ?_, ?_⟩
        · rcases List.mem_cons.mp hm with e | hm
          · cases e
            rw [e3] at hw; cases hw
          · exact i1 k' u' w hm hw
        · rw [List.all_cons, e3]
          rfl
      | some w =>
        simp only [Option.bind_some, e3] at h'
        cases e4 : f u w with
        | none => rw [e4] at h'; cases h'
        | some c =>
          rw [e4] at h'
          cases h'
          refine ⟨fun k' u' w' hm hw => ?_, ?_⟩
          · rcases List.mem_cons.mp hm with e | hm
            · cases e
              rw [e3] at hw; cases hw
              exact ⟨c, e4⟩
            · exact i1 k' u' w' hm hw
          · rw [List.all_cons, e3, i2]
            simp [e4]
section
variable {X : Cx} {S : Sta} {L : List Nat} {ι : List Addr} {G : Gp} {H : Hp} {pins : List (Addr × Obj)} {σ : L2.St} {s : Shared}
theorem kNone_of (I : Inv X pins σ H s) {a : Addr} {o : Obj} (h : X.K.lookup a = some o) : H a = none := (I.bs a o (I.ok.mod.kin a o h)).2
/-- a cell is no tuple -/
theorem Rel.noTup (R : Rel S L ι G H) (hK : X.K = S.K) (I : Inv X pins σ H s) {i : Nat} {a : Addr} {vs : List V} (h : ι[i]? = some a) (q : SqT S.K H a vs) : False := by
  obtain ⟨j, c, o, _, _, h2, h3⟩ := R.here (List.mem_of_getElem? h)
  rcases q with (q | ⟨ob, q⟩) | ⟨ob, its, n, q, _⟩
  · rw [h2] at q
    cases q
    exact h3.notTup.1 vs rfl
  · rw [h2] at q
    cases q
    cases c with
    | lst us =>
      obtain ⟨vs', e, _⟩ := h3
      cases e
    | dct ks =>
      obtain ⟨kvs, _, e | ⟨_, od, e⟩⟩ := h3
      · cases e.2
      · cases e
    | ins c fs =>
      obtain ⟨dx, fvs, e, _⟩ := h3
      cases e
  · rw [← hK] at q
    have := kNone_of I q
    rw [h2] at this; cases this
/-- a dict as it lies, locked or not -/
theorem Rel.dctOk (R : Rel S L ι G H) (I : Inv X pins σ H s) {i : Nat} {ks : List (Key × U)} (h : G[i]? = some (.dct ks)) {v : V} (r : VR S ι H (.ref i) v) : ∃ a kvs, v = .ref a ∧ ι[i]? = some a ∧ KR S ι H ks kvs ∧ ObjOk X.prog X.w H s.heap a (.dK kvs) := by
  obtain ⟨a, kvs, e, h1, h2, h3⟩ := R.dct h r
  refine ⟨a, kvs, e, h1, h2, ?_⟩
  rcases h3 with ⟨_, z⟩ | ⟨_, od, z⟩
  · exact I.hok a _ z
  · exact (I.hok a _ z).2
theorem isDic_of {kvs : List (Key × V)} {P : Program} {w : World} {H : Hp} {a : Addr} (h : ObjOk P w H s.heap a (.dK kvs)) : IsDic s a := by
  obtain ⟨_, _, vs, _, o, es, ep, e1, e2, e3, _⟩ := h
  obtain ⟨oc, od, dt, sl⟩ := o
  simp only at e3
  subst e3
  have : oc = .type "dict" := e2.1
  subst this
  exact ⟨od, es, ep, sl, e1⟩
theorem kv_keys {kvs : List (Key × V)} {vs : List (Key × Value)} (r : L2.KV kvs vs) : kvs.map (·.1) = vs.map (·.1) := by
  unfold L2.KV at r
  induction r with
  | nil => rfl
  | cons x _ ih => rw [List.map_cons, List.map_cons, ih, x.1]
theorem KR.nodup {ks : List (Key × U)} {kvs : List (Key × V)} {P : Program} {w : World} {H' : Hp} {a : Addr} (h : KR S ι H ks kvs) (q : ObjOk P w H' s.heap a (.dK kvs)) : (ks.map (·.1)).Nodup := by
  obtain ⟨_, _, vs, r, o, es, ep, _, _, _, _, _, nd⟩ := q
  rw [h.keys, kv_keys r]
  exact nd
mutual
/-- what is one thing is equal -/
theorem eq_same (R : Rel S L ι G H) (hK : X.K = S.K) (I : Inv X pins σ H s) : ∀ (n : Nat) {x y : U} {v : V} {b : Bool}, VR S ι H x v → VR S ι H y v → eqU n G x y = some b → b = true
  | 0, _, _, _, _, _, _, h => by cases h
  | n + 1, x, y, v, b, rx, ry, h => by
    have h' : eqStep (eqU n G) G x y = some b := h
    cases x with
    | non => cases y with
      | non => cases h'; rfl
      | bl _ => cases rx; cases ry
      | int _ => cases rx; cases ry
      | str _ => cases rx; cases ry
      | tup _ => cases rx; obtain ⟨_, _, e, _⟩ := ry; cases e
      | ref _ => cases rx; obtain ⟨_, _, e⟩ := ry; cases e
    | bl a => cases y with
      | non => cases rx; cases ry
      | bl _ => cases rx; cases ry; cases h'; exact decide_eq_true rfl
      | int _ => cases rx; cases ry
      | str _ => cases rx; cases ry
      | tup _ => cases rx; obtain ⟨_, _, e, _⟩ := ry; cases e
      | ref _ => cases rx; obtain ⟨_, _, e⟩ := ry; cases e
    | int a => cases y with
      | non => cases rx; cases ry
      | bl _ => cases rx; cases ry
      | int _ => cases rx; cases ry; cases h'; exact decide_eq_true rfl
      | str _ => cases rx; cases ry
      | tup _ => cases rx; obtain ⟨_, _, e, _⟩ := ry; cases e
      | ref _ => cases rx; obtain ⟨_, _, e⟩ := ry; cases e
    | str a => cases y with
      | non => cases rx; cases ry
      | bl _ => cases rx; cases ry
      | int _ => cases rx; cases ry
      | str _ => cases rx; cases ry; cases h'; exact decide_eq_true rfl
      | tup _ => cases rx; obtain ⟨_, _, e, _⟩ := ry; cases e
      | ref _ => cases rx; obtain ⟨_, _, e⟩ := ry; cases e
    | tup us => cases y with
      | non => cases ry; obtain ⟨_, _, e, _⟩ := rx; cases e
      | bl _ => cases ry; obtain ⟨_, _, e, _⟩ := rx; cases e
      | int _ => cases ry; obtain ⟨_, _, e, _⟩ := rx; cases e
      | str _ => cases ry; obtain ⟨_, _, e, _⟩ := rx; cases e
      | tup ws =>
        obtain ⟨a, vs, e, q, r⟩ := rx
        obtain ⟨a', vs', e', q', r'⟩ := ry
        rw [e] at e'
        cases e'
        have ev : vs = vs' := I.tuple_inj (by rw [hK]; exact q) (by rw [hK]; exact q')
        subst ev
        have hl : us.length = ws.length := by rw [← r.length, ← r'.length]
        obtain ⟨k1, k2⟩ := eqL_some (show eqL (eqU n G) us ws = some b from h')
        rw [k2, hl]
        simp only [beq_self_eq_true, Bool.and_true, List.all_eq_true]
        intro j hj
        have hj' : j < ws.length := by simpa using hj
        have e1 : us[j]? = some (us[j]'(by omega)) := by simp [show j < us.length by omega]
        have e2 : ws[j]? = some ws[j] := by simp [hj']
        rw [e1, e2]
        obtain ⟨c, hc⟩ := k1 j _ _ e1 e2
        obtain ⟨x1, g1, r1⟩ := r.get e1
        obtain ⟨x2, g2, r2⟩ := r'.get e2
        rw [g1] at g2
        cases g2
        have := eq_same R hK I n r1 r2 hc
        simp only [hc, Option.getD_some, this]
      | ref j =>
        obtain ⟨a, vs, e, q, r⟩ := rx
        obtain ⟨a', h1, e'⟩ := ry
        rw [e] at e'
        cases e'
        exact (R.noTup hK I h1 q).elim
    | ref i => cases y with
      | non => cases ry; obtain ⟨_, _, e⟩ := rx; cases e
      | bl _ => cases ry; obtain ⟨_, _, e⟩ := rx; cases e
      | int _ => cases ry; obtain ⟨_, _, e⟩ := rx; cases e
      | str _ => cases ry; obtain ⟨_, _, e⟩ := rx; cases e
      | tup ws =>
        obtain ⟨a, vs, e, q, r⟩ := ry
        obtain ⟨a', h1, e'⟩ := rx
        rw [e] at e'
        cases e'
        exact (R.noTup hK I h1 q).elim
      | ref j =>
        have hij : i = j := by
          obtain ⟨a, h1, e⟩ := rx
          obtain ⟨a', h2, e'⟩ := ry
          rw [e] at e'
          cases e'
          obtain ⟨l1, g1⟩ := List.getElem?_eq_some_iff.mp h1
          obtain ⟨l2, g2⟩ := List.getElem?_eq_some_iff.mp h2
          exact (List.getElem_inj R.nd).mp (g1.trans g2.symm)
        subst hij
        cases hg : G[i]? with
        | none =>
          simp only [eqStep, hg] at h'
          cases h'
        | some c => cases c with
          | lst us =>
            simp only [eqStep, hg, if_true] at h'
            obtain ⟨a, vs, e, _, q, r⟩ := R.lst hg rx
            obtain ⟨k1, k2⟩ := eqL_some h'
            rw [k2]
            simp only [beq_self_eq_true, Bool.and_true, List.all_eq_true]
            intro j hj
            have hj' : j < us.length := by simpa using hj
            have e1 : us[j]? = some us[j] := by simp [hj']
            rw [e1]
            obtain ⟨c, hc⟩ := k1 j _ _ e1 e1
            obtain ⟨x1, g1, r1⟩ := r.get e1
            have := eq_same R hK I n r1 r1 hc
            simp only [hc, Option.getD_some, this]
          | dct ks =>
            simp only [eqStep, hg, if_true] at h'
            obtain ⟨a, kvs, e, _, r, ok⟩ := R.dctOk I hg rx
            obtain ⟨k1, k2⟩ := eqD_some h'
            have nd := KR.nodup r ok
            rw [k2, List.all_eq_true]
            rintro ⟨k, u⟩ hm
            have el := look_mem nd hm
            simp only [el]
            obtain ⟨c, hc⟩ := k1 k u u hm el
            rcases KR.look (k := k) r with ⟨z, _⟩ | ⟨u', v', z1, z2, r1⟩
            · rw [el] at z; cases z
            · rw [el] at z1
              cases z1
              have := eq_same R hK I n r1 r1 hc
              simp only [hc, Option.getD_some, this]
          | ins c fs =>
            simp only [eqStep, hg] at h'
            cases h'
end
/-- an atom as a value -/
inductive Atom : U → Value → Prop where
  | non : Atom .non .none
  | bl (b : Bool) : Atom (.bl b) (.bool b)
  | int (i : Int) (t : Tok) : Atom (.int i) (.int i t)
  | str (x : Str) (t : Tok) : Atom (.str x) (.str x t)
theorem leafB {n : Nat} {P : Program} {w : World} {v y : Value} {b b' : Bool} (h : ∀ A : Around, A.units + n < cLine → EqAt A s v y b') (e : b' = b) : EqTree P w s n v y b := by
  subst e
  exact .leaf h
theorem atom_atom {f : U → U → Option Bool} {n : Nat} {P : Program} {w : World} {x y : U} {v u : Value} {b : Bool} (hx : Atom x v) (hy : Atom y u) (h : eqStep f G x y = some b) : EqTree P w s n v u b := by
  cases hx with
  | non => cases hy with
    | non => cases h; exact .same
    | bl c => cases h; exact .leaf fun A _ => EqAt.none_bool c
    | int c t => cases h; exact .leaf fun A _ => EqAt.none_int c t
    | str c t => cases h; exact .leaf fun A _ => EqAt.none_str c t
  | bl a => cases hy with
    | non => cases h; exact .leaf fun A _ => EqAt.bool_none a
    | bl c => cases h; exact leafB (fun A _ => EqAt.bool_bool a c) (by cases a <;> cases c <;> rfl)
    | int c t => cases h; exact leafB (fun A _ => EqAt.bool_int a c t) (by rw [Bool.beq_eq_decide_eq]; rfl)
    | str c t => cases h; exact .leaf fun A _ => EqAt.bool_str a c t
  | int a t => cases hy with
    | non => cases h; exact .leaf fun A _ => EqAt.int_none a t
    | bl c => cases h; exact leafB (fun A _ => EqAt.int_bool a t c) (by rw [Bool.beq_eq_decide_eq]; rfl)
    | int c t' => cases h; exact leafB (fun A _ => EqAt.int_int a t c t') (by rw [Bool.beq_eq_decide_eq])
    | str c t' => cases h; exact .leaf fun A _ => EqAt.int_str a t c t'
  | str a t => cases hy with
    | non => cases h; exact .leaf fun A _ => EqAt.str_none a t
    | bl c => cases h; exact .leaf fun A _ => EqAt.str_bool a t c
    | int c t' => cases h; exact .leaf fun A _ => EqAt.str_int a t c t'
    | str c t' => cases h; exact leafB (fun A _ => EqAt.str_str a t c t') (by rw [Bool.beq_eq_decide_eq])
theorem atom_of {x : U} {v : V} {u : Value} (hx : (∃ us, x = .tup us) ∨ (∃ i, x = .ref i) ∨ (VR S ι H x v ∧ RelV v u ∧ ∀ us i, x ≠ .tup us ∧ x ≠ .ref i)) : (∃ us, x = .tup us) ∨ (∃ i, x = .ref i) ∨ Atom x u := by
  rcases hx with h | h | ⟨r, q, n⟩
  · exact .inl h
  · exact .inr (.inl h)
  · refine .inr (.inr ?_)
    cases x with
    | non => cases r; cases q; exact .non
    | bl b => cases r; cases q; exact .bl b
    | int i => cases r; obtain ⟨t, rfl⟩ := q; exact .int i t
    | str z => cases r; obtain ⟨t, rfl⟩ := q; exact .str z t
    | tup us => exact ((n us 0).1 rfl).elim
    | ref i => exact ((n [] i).2 rfl).elim
theorem kinds (x : U) {v : V} {u : Value} (r : VR S ι H x v) (q : RelV v u) : (∃ us, x = .tup us) ∨ (∃ i, x = .ref i) ∨ Atom x u := by
  refine atom_of (S := S) (ι := ι) (H := H) (v := v) ?_
  cases x with
  | tup us => exact .inl ⟨us, rfl⟩
  | ref i => exact .inr (.inl ⟨i, rfl⟩)
  | non => exact .inr (.inr ⟨r, q, fun _ _ => ⟨(fun z => by cases z), fun z => by cases z⟩⟩)
  | bl b => exact .inr (.inr ⟨r, q, fun _ _ => ⟨(fun z => by cases z), fun z => by cases z⟩⟩)
  | int b => exact .inr (.inr ⟨r, q, fun _ _ => ⟨(fun z => by cases z), fun z => by cases z⟩⟩)
  | str b => exact .inr (.inr ⟨r, q, fun _ _ => ⟨(fun z => by cases z), fun z => by cases z⟩⟩)
theorem atom_tup {n : Nat} {P : Program} {w : World} {y : U} {u : Value} {a : Addr} {its : Array Value} (hy : Atom y u) (hl : s.heap.IsTuple a its) : EqTree P w s n u (.ref a) false ∧ EqTree P w s n (.ref a) u false := by
  cases hy with
  | non => exact ⟨.leaf fun A hu => EqAt.none_tuple hl (by omega), .leaf fun A hu => EqAt.tuple_none hl (by omega)⟩
  | bl b => exact ⟨.leaf fun A hu => EqAt.bool_tuple b hl (by omega), .leaf fun A hu => EqAt.tuple_bool b hl (by omega)⟩
  | int i t => exact ⟨.leaf fun A hu => EqAt.int_tuple i t hl (by omega), .leaf fun A hu => EqAt.tuple_int i t hl (by omega)⟩
  | str z t => exact ⟨.leaf fun A hu => EqAt.str_tuple z t hl (by omega), .leaf fun A hu => EqAt.tuple_str z t hl (by omega)⟩
theorem atom_list {n : Nat} {P : Program} {w : World} {y : U} {u : Value} {a : Addr} {its : Array Value} (hy : Atom y u) (hl : s.heap.IsList a its) : EqTree P w s n u (.ref a) false ∧ EqTree P w s n (.ref a) u false := by
  cases hy with
  | non => exact ⟨.leaf fun A hu => EqAt.none_list hl (by omega), .leaf fun A hu => EqAt.list_none hl (by omega)⟩
  | bl b => exact ⟨.leaf fun A hu => EqAt.bool_list b hl (by omega), .leaf fun A hu => EqAt.list_bool b hl (by omega)⟩
  | int i t => exact ⟨.leaf fun A hu => EqAt.int_list i t hl (by omega), .leaf fun A hu => EqAt.list_int i t hl (by omega)⟩
  | str z t => exact ⟨.leaf fun A hu => EqAt.str_list z t hl (by omega), .leaf fun A hu => EqAt.list_str z t hl (by omega)⟩
theorem atom_dict {n : Nat} {P : Program} {w : World} {y : U} {u : Value} {a : Addr} (hy : Atom y u) (hl : IsDic s a) : EqTree P w s n u (.ref a) false ∧ EqTree P w s n (.ref a) u false := by
  cases hy with
  | non => exact ⟨.leaf fun A hu => eqAt_rc (RcAt.none_dict hl (by omega)) rfl (fun _ _ z => by cases z), .leaf fun A hu => eqAt_rc (RcAt.dict_none hl (by omega)) rfl (fun _ _ z => by cases z)⟩
  | bl b => exact ⟨.leaf fun A hu => eqAt_rc (RcAt.bool_dict b hl (by omega)) rfl (fun _ _ z => by cases z), .leaf fun A hu => eqAt_rc (RcAt.dict_bool b hl (by omega)) rfl (fun _ _ z => by cases z)⟩
  | int i t => exact ⟨.leaf fun A hu => eqAt_rc (RcAt.int_dict i t hl (by omega)) rfl (fun _ _ z => by cases z), .leaf fun A hu => eqAt_rc (RcAt.dict_int i t hl (by omega)) rfl (fun _ _ z => by cases z)⟩
  | str z t => exact ⟨.leaf fun A hu => eqAt_rc (RcAt.str_dict z t hl (by omega)) rfl (fun _ _ z => by cases z), .leaf fun A hu => eqAt_rc (RcAt.dict_str z t hl (by omega)) rfl (fun _ _ z => by cases z)⟩
theorem ref_beq {a b : Addr} (h : a ≠ b) : (Value.ref a == Value.ref b) = false := by
  cases e : (Value.ref a == Value.ref b) with
  | false => rfl
  | true =>
    have := eq_of_beq e
    cases this
    exact absurd rfl h
/-- a cell that == looks into: a list or a dict -/
inductive RefK (X : Cx) (S : Sta) (ι : List Addr) (H : Hp) (s : Shared) (a : Addr) : Cell → Prop where
  | lst {us : List U} {vs : List V} {its : List Value} (r : VRs S ι H us vs) (q : Vals vs its) (hl : s.heap.IsList a its.toArray) : RefK X S ι H s a (.lst us)
  | dct {ks : List (Key × U)} {kvs : List (Key × V)} (r : KR S ι H ks kvs) (ok : ObjOk X.prog X.w H s.heap a (.dK kvs)) : RefK X S ι H s a (.dct ks)
theorem refK (R : Rel S L ι G H) (I : Inv X pins σ H s) {i : Nat} {v : V} {u : Value} (r : VR S ι H (.ref i) v) (q : RelV v u) (hc : (∃ us, G[i]? = some (.lst us)) ∨ ∃ ks, G[i]? = some (.dct ks)) : ∃ a c, u = .ref a ∧ v = .ref a ∧ ι[i]? = some a ∧ G[i]? = some c ∧ RefK X S ι H s a c := by
  rcases hc with ⟨us, hc⟩ | ⟨ks, hc⟩
  · obtain ⟨a, vs, e, e1, h1, h2⟩ := R.lst hc r
    subst e
    cases q
    obtain ⟨its, rv, p, _⟩ := I.list (SqL.of h1)
    exact ⟨a, _, rfl, rfl, e1, hc, .lst h2 rv p.isList⟩
  · obtain ⟨a, kvs, e, e1, h1, h2⟩ := R.dctOk I hc r
    subst e
    cases q
    exact ⟨a, _, rfl, rfl, e1, hc, .dct h1 h2⟩
theorem eqStep_refs {f : U → U → Option Bool} {i j : Nat} {b : Bool} (h : eqStep f G (.ref i) (.ref j) = some b) : ((∃ us, G[i]? = some (.lst us)) ∨ ∃ ks, G[i]? = some (.dct ks)) ∧ ((∃ us, G[j]? = some (.lst us)) ∨ ∃ ks, G[j]? = some (.dct ks)) := by
  simp only [eqStep] at h
  cases h1 : G[i]? with
  | none => simp only [h1] at h; cases h
  | some c => cases h2 : G[j]? with
    | none => cases c <;> (simp only [h1, h2] at h; cases h)
    | some c' => cases c with
      | lst us => cases c' with
        | lst ws => exact ⟨.inl ⟨_, rfl⟩, .inl ⟨_, rfl⟩⟩
        | dct ws => exact ⟨.inl ⟨_, rfl⟩, .inr ⟨_, rfl⟩⟩
        | ins _ _ => simp only [h1, h2] at h; cases h
      | dct us => cases c' with
        | lst ws => exact ⟨.inr ⟨_, rfl⟩, .inl ⟨_, rfl⟩⟩
        | dct ws => exact ⟨.inr ⟨_, rfl⟩, .inr ⟨_, rfl⟩⟩
        | ins _ _ => simp only [h1, h2] at h; cases h
      | ins _ _ => simp only [h1, h2] at h; cases h
theorem plain_some {i : Nat} {b : Bool} (h : plainRef G i = some b) : b = false ∧ ((∃ us, G[i]? = some (.lst us)) ∨ ∃ ks, G[i]? = some (.dct ks)) := by
  unfold plainRef at h
  split at h
  · rename_i h1
    cases h
    exact ⟨rfl, .inl ⟨_, h1⟩⟩
  · rename_i h1
    cases h
    exact ⟨rfl, .inr ⟨_, h1⟩⟩
  · cases h
theorem vals_get {vs : List V} {its : List Value} {j : Nat} {v : V} (q : Vals vs its) (h : vs[j]? = some v) : ∃ u, its[j]? = some u ∧ RelV v u := Vals.get q h
/-- ITEMS: from eqL -/
theorem eqL_tree {n m : Nat} {us ws : List U} {vs xs : List V} {its its2 : List Value} {b : Bool} (ih : ∀ {x y : U} {v w : V} {u1 u2 : Value} {b : Bool}, eqU n G x y = some b → VR S ι H x v → VR S ι H y w → RelV v u1 → RelV w u2 → EqTree X.prog X.w s m u1 u2 b)
    (h : eqL (eqU n G) us ws = some b) (r1 : VRs S ι H us vs) (r2 : VRs S ι H ws xs) (q1 : Vals vs its) (q2 : Vals xs its2) :
    ∃ e : Nat → Bool, (∀ j (h1 : j < its.toArray.size) (h2 : j < its2.toArray.size), EqTree X.prog X.w s m its.toArray[j] its2.toArray[j] (e j)) ∧ b = ((List.range (min its.toArray.size its2.toArray.size)).all e && its.toArray.size == its2.toArray.size) := by
  obtain ⟨k1, k2⟩ := eqL_some h
  have l1 : its.length = us.length := by rw [← q1.length, r1.length]
  have l2 : its2.length = ws.length := by rw [← q2.length, r2.length]
  refine ⟨fun j => match us[j]?, ws[j]? with
      | some u, some w => (eqU n G u w).getD false
      | _, _ => false, fun j h1 h2 => ?_, ?_⟩
  · have h1' : j < its.length := by simpa using h1
    have h2' : j < its2.length := by simpa using h2
    have e1 : us[j]? = some (us[j]'(by omega)) := by simp [show j < us.length by omega]
    have e2 : ws[j]? = some (ws[j]'(by omega)) := by simp [show j < ws.length by omega]
    obtain ⟨c, hc⟩ := k1 j _ _ e1 e2
    obtain ⟨x1, g1, t1⟩ := r1.get e1
    obtain ⟨x2, g2, t2⟩ := r2.get e2
    obtain ⟨y1, f1, p1⟩ := vals_get q1 g1
    obtain ⟨y2, f2, p2⟩ := vals_get q2 g2
    have a1 : its.toArray[j] = y1 := by
      rw [List.getElem?_eq_getElem h1'] at f1
      simpa using f1
    have a2 : its2.toArray[j] = y2 := by
      rw [List.getElem?_eq_getElem h2'] at f2
      simpa using f2
    rw [a1, a2]
    simp only [e1, e2, hc, Option.getD_some]
    exact ih hc t1 t2 p1 p2
  · rw [k2]
    simp only [List.size_toArray, l1, l2]
/-- ENTRIES: from eqD -/
theorem eqD_tree {n m : Nat} {ks ls : List (Key × U)} {kvs lvs : List (Key × V)} {va vb : List (Key × Value)} {b : Bool} (ih : ∀ {x y : U} {v w : V} {u1 u2 : Value} {b : Bool}, eqU n G x y = some b → VR S ι H x v → VR S ι H y w → RelV v u1 → RelV w u2 → EqTree X.prog X.w s m u1 u2 b)
    (h : eqD (eqU n G) ls ks = some b) (r : KR S ι H ks kvs) (r' : KR S ι H ls lvs) (rka : L2.KV kvs va) (rkb : L2.KV lvs vb) (nd : (ks.map (·.1)).Nodup) (hl2 : ks.length = ls.length) :
    ∃ e : Key → Bool, (∀ k v y, (k, v) ∈ va → valueAt vb k = some y → EqTree X.prog X.w s m v y (e k)) ∧ b = (va.length == vb.length && va.all fun p => (valueAt vb p.1).isSome && e p.1) := by
  have l1 : va.length = ks.length := by rw [r.length]; exact (Paired.length rka).symm
  have l2 : vb.length = ls.length := by rw [r'.length]; exact (Paired.length rkb).symm
  obtain ⟨k1, k2⟩ := eqD_some h
  have val : ∀ k, (lookK k ks = none ∧ valueAt va k = none) ∨ ∃ u v x, lookK k ks = some u ∧ VR S ι H u v ∧ RelV v x ∧ valueAt va k = some x := fun k => by
    have q := rka.val k
    rcases KR.look (k := k) r with ⟨z1, z2⟩ | ⟨u, v, z1, z2, z3⟩
    · rw [z2] at q
      exact .inl ⟨z1, q.none_of⟩
    · rw [z2] at q
      obtain ⟨x, hx, rx⟩ := q.some_of
      exact .inr ⟨u, v, x, z1, z3, rx, hx⟩
  have val' : ∀ k, (lookK k ls = none ∧ valueAt vb k = none) ∨ ∃ u v x, lookK k ls = some u ∧ VR S ι H u v ∧ RelV v x ∧ valueAt vb k = some x := fun k => by
    have q := rkb.val k
    rcases KR.look (k := k) r' with ⟨z1, z2⟩ | ⟨u, v, z1, z2, z3⟩
    · rw [z2] at q
      exact .inl ⟨z1, q.none_of⟩
    · rw [z2] at q
      obtain ⟨x, hx, rx⟩ := q.some_of
      exact .inr ⟨u, v, x, z1, z3, rx, hx⟩
  have kv : (ks.map (·.1)) = va.map (·.1) := by rw [r.keys, kv_keys rka]
  have ndv : (va.map (·.1)).Nodup := by rw [← kv]; exact nd
  have inV : ∀ {k v}, (k, v) ∈ va → valueAt va k = some v := fun {k v} hm => by
    unfold valueAt
    clear l1 kv val rka
    induction va with
    | nil => cases hm
    | cons p ps ih2 =>
      rw [List.find?_cons]
      rcases List.mem_cons.mp hm with e | hm
      · rw [← e]
        simp
      · have hne : ¬ p.1 = k := fun e => (List.nodup_cons.mp ndv).1 (List.mem_map.mpr ⟨(k, v), hm, e.symm⟩)
        simp only [hne, decide_false]
        exact ih2 (List.nodup_cons.mp ndv).2 hm
  have key : ∀ k v y, (k, v) ∈ va → valueAt vb k = some y → EqTree X.prog X.w s m v y (match lookK k ks, lookK k ls with
      | some u, some w => (eqU n G u w).getD false
      | _, _ => false) := fun k v y hm hv => by
    have hv0 := inV hm
    rcases val k with ⟨_, z⟩ | ⟨u, v1, x, z1, z2, z3, z4⟩
    · rw [hv0] at z; cases z
    · rw [hv0] at z4
      cases z4
      rcases val' k with ⟨_, z⟩ | ⟨u', v1', x', t1, t2, t3, t4⟩
      · rw [hv] at z; cases z
      · rw [hv] at t4
        cases t4
        have hmk : (k, u) ∈ ks := by
          unfold lookK at z1
          cases ef : ks.find? fun kv => decide (kv.1 = k) with
          | none => rw [ef] at z1; cases z1
          | some p =>
            rw [ef] at z1
            have h1 := List.mem_of_find?_eq_some ef
            have h2 := List.find?_some ef
            obtain ⟨pk, pu⟩ := p
            cases z1
            have h3 : pk = k := by simpa using h2
            rw [← h3]
            exact h1
        obtain ⟨c, hc⟩ := k1 k u u' hmk t1
        simp only [z1, t1, hc, Option.getD_some]
        exact ih hc z2 t2 z3 t3
  have eb : b = (va.length == vb.length && va.all fun p => (valueAt vb p.1).isSome && (match lookK p.1 ks, lookK p.1 ls with
      | some u, some w => (eqU n G u w).getD false
      | _, _ => false)) := by
    rw [k2, l1, l2, hl2]
    simp only [beq_self_eq_true, Bool.true_and]
    have e1 : (va.all fun p => (valueAt vb p.1).isSome && (match lookK p.1 ks, lookK p.1 ls with
      | some u, some w => (eqU n G u w).getD false
      | _, _ => false)) = ((va.map (·.1)).all fun k => (valueAt vb k).isSome && (match lookK k ks, lookK k ls with
      | some u, some w => (eqU n G u w).getD false
      | _, _ => false)) := by rw [List.all_map]; rfl
    rw [e1, ← kv, List.all_map, Bool.eq_iff_iff, List.all_eq_true, List.all_eq_true]
    refine ⟨fun h p hp => ?_, fun h p hp => ?_⟩
    · have h1 := h p hp
      obtain ⟨k, u⟩ := p
      have h2 := look_mem nd hp
      show ((valueAt vb k).isSome && _) = true
      simp only at h1
      rcases val' k with ⟨z, _⟩ | ⟨u', v1', x', t1, t2, t3, t4⟩
      · rw [z] at h1; cases h1
      · rw [t1] at h1
        simp only [h2, t1, t4, Option.isSome_some, Bool.true_and]
        exact h1
    · have h1 := h p hp
      obtain ⟨k, u⟩ := p
      have h2 := look_mem nd hp
      have h1' : ((valueAt vb k).isSome && (match lookK k ks, lookK k ls with
        | some u, some w => (eqU n G u w).getD false
        | _, _ => false)) = true := h1
      simp only
      rcases val' k with ⟨z, z'⟩ | ⟨u', v1', x', t1, t2, t3, t4⟩
      · rw [z'] at h1'; cases h1'
      · rw [t1]
        simp only [h2, t1, t4, Option.isSome_some, Bool.true_and] at h1'
        exact h1'
  exact ⟨_, key, eb⟩
/-- eqU is the model's == : its tree -/
theorem eq_tree (R : Rel S L ι G H) (hK : X.K = S.K) (I : Inv X pins σ H s) : ∀ (n : Nat) {x y : U} {v w : V} {u1 u2 : Value} {b : Bool}, eqU n G x y = some b → VR S ι H x v → VR S ι H y w → RelV v u1 → RelV w u2 → EqTree X.prog X.w s n u1 u2 b
  | 0, _, _, _, _, _, _, _, h, _, _, _, _ => by cases h
  | n + 1, x, y, v, w, u1, u2, b, h, rx, ry, q1, q2 => by
    have hw := h
    have h' : eqStep (eqU n G) G x y = some b := h
    rcases kinds x rx q1 with ⟨us, rfl⟩ | ⟨i, rfl⟩ | ax
    · obtain ⟨a, vs, e, qa, ra⟩ := rx
      subst e
      cases q1
      obtain ⟨its, rv, p, _⟩ := I.tuple (by rw [hK]; exact qa)
      rcases kinds y ry q2 with ⟨ws, rfl⟩ | ⟨j, rfl⟩ | ay
      · obtain ⟨a', vs', e', qb, rb⟩ := id ry
        subst e'
        cases q2
        obtain ⟨its2, rv2, p2, _⟩ := I.tuple (by rw [hK]; exact qb)
        by_cases ea : a = a'
        · subst ea
          have := eq_same (x := .tup us) R hK I (n + 1) ⟨a, vs, rfl, qa, ra⟩ ry hw
          subst this
          exact .same
        · obtain ⟨e, k1, k2⟩ := eqL_tree (X := X) (m := n) (fun h r1 r2 t1 t2 => eq_tree R hK I n h r1 r2 t1 t2) (show eqL (eqU n G) us ws = some b from h') ra rb rv rv2
          rw [k2]
          exact .tuples ea p p2 k1
      · have hp : plainRef G j = some b := h'
        obtain ⟨hb, hc⟩ := plain_some hp
        subst hb
        obtain ⟨a', c, e1, e2, _, _, k⟩ := refK R I ry q2 hc
        subst e1
        cases k with
        | lst r q hl => exact .leaf fun A hu => EqAt.tuple_list p hl (by omega)
        | dct r ok => exact .leaf fun A hu => eqAt_rc (RcAt.tuple_dict p (isDic_of ok) (by omega)) (ref_beq ((isDic_of ok).ne_tuple p)) (fun _ _ z => by cases z)
      · have := (atom_tup (n := n + 1) (P := X.prog) (w := X.w) ay p).2
        cases ay <;> (cases h'; exact this)
    · rcases kinds y ry q2 with ⟨ws, rfl⟩ | ⟨j, rfl⟩ | ay
      · obtain ⟨a', vs', e', qb, rb⟩ := id ry
        subst e'
        cases q2
        obtain ⟨its2, rv2, p2, _⟩ := I.tuple (by rw [hK]; exact qb)
        have hp : plainRef G i = some b := h'
        obtain ⟨hb, hc⟩ := plain_some hp
        subst hb
        obtain ⟨a, c, e1, e2, _, _, k⟩ := refK R I rx q1 hc
        subst e1
        cases k with
        | lst r q hl => exact .leaf fun A hu => EqAt.list_tuple hl p2 (by omega)
        | dct r ok => exact .leaf fun A hu => eqAt_rc (RcAt.dict_tuple p2 (isDic_of ok) (by omega)) (ref_beq (Ne.symm ((isDic_of ok).ne_tuple p2))) (fun _ _ z => by cases z)
      · obtain ⟨h1, h2⟩ := eqStep_refs h'
        obtain ⟨a, c, e1, e2, e3, e4, k⟩ := refK R I rx q1 h1
        obtain ⟨a', c', e1', e2', e3', e4', k'⟩ := refK R I ry q2 h2
        subst e1 e1' e2 e2'
        by_cases ea : a = a'
        · subst ea
          have := eq_same R hK I (n + 1) rx ry hw
          subst this
          exact .same
        · cases k with
          | lst r q hl => cases k' with
            | lst r' q' hl' =>
              rename_i us vs its ws xs its2
              simp only [eqStep, e4, e4'] at h'
              have l1 : its.length = us.length := by rw [← q.length, r.length]
              have l2 : its2.length = ws.length := by rw [← q'.length, r'.length]
              by_cases hl2 : us.length = ws.length
              · rw [if_pos hl2] at h'
                obtain ⟨e, k1, k2⟩ := eqL_tree (X := X) (m := n) (fun h r1 r2 t1 t2 => eq_tree R hK I n h r1 r2 t1 t2) h' r r' q q'
                have hs : its.toArray.size = its2.toArray.size := by simp [l1, l2, hl2]
                rw [k2, ← hs]
                simp only [Nat.min_self, beq_self_eq_true, Bool.and_true]
                exact .lists ea hl hl' hs k1
              · rw [if_neg hl2] at h'
                cases h'
                exact .listsLen ea hl hl' (by simp [l1, l2, hl2])
            | dct r' ok' =>
              simp only [eqStep, e4, e4'] at h'
              cases h'
              exact .leaf fun A hu => eqAt_rc (RcAt.list_dict hl (isDic_of ok') (by omega)) (ref_beq ea) (fun _ _ z => by cases z)
          | dct r ok => cases k' with
            | lst r' q' hl' =>
              simp only [eqStep, e4, e4'] at h'
              cases h'
              exact .leaf fun A hu => eqAt_rc (RcAt.dict_list hl' (isDic_of ok) (by omega)) (ref_beq ea) (fun _ _ z => by cases z)
            | dct r' ok' =>
              rename_i ks kvs ls lvs
              simp only [eqStep, e4, e4'] at h'
              obtain ⟨_, ya, va, rka, da⟩ := id ok
              obtain ⟨_, yb, vb, rkb, db⟩ := id ok'
              have l1 : va.length = ks.length := by rw [r.length]; exact (Paired.length rka).symm
              have l2 : vb.length = ls.length := by rw [r'.length]; exact (Paired.length rkb).symm
              have nd := KR.nodup r ok
              by_cases hl2 : ks.length = ls.length
              · rw [if_pos hl2] at h'
                obtain ⟨e, key, eb⟩ := eqD_tree (X := X) (m := n) (fun h r1 r2 t1 t2 => eq_tree R hK I n h r1 r2 t1 t2) h' r r' rka rkb nd hl2
                rw [eb]
                exact .dicts ea ya yb da db key
              · rw [if_neg hl2] at h'
                cases h'
      · have hp : plainRef G i = some b := by cases ay <;> exact h'
        obtain ⟨hb, hc⟩ := plain_some hp
        subst hb
        obtain ⟨a, c, e1, e2, _, _, k⟩ := refK R I rx q1 hc
        subst e1
        cases k with
        | lst r q hl => exact (atom_list ay hl).2
        | dct r ok => exact (atom_dict ay (isDic_of ok)).2
    · rcases kinds y ry q2 with ⟨ws, rfl⟩ | ⟨j, rfl⟩ | ay
      · obtain ⟨a', vs', e', qb, rb⟩ := id ry
        subst e'
        cases q2
        obtain ⟨its2, rv2, p2, _⟩ := I.tuple (by rw [hK]; exact qb)
        have := (atom_tup (n := n + 1) (P := X.prog) (w := X.w) ax p2).1
        cases ax <;> (cases h'; exact this)
      · have hp : plainRef G j = some b := by cases ax <;> exact h'
        obtain ⟨hb, hc⟩ := plain_some hp
        subst hb
        obtain ⟨a, c, e1, e2, _, _, k⟩ := refK R I ry q2 hc
        subst e1
        cases k with
        | lst r q hl => exact (atom_list ax hl).1
        | dct r ok => exact (atom_dict ax (isDic_of ok)).1
      · exact atom_atom ax ay h'
end
end PV
set_option Elab.async false
set_option linter.all false
set_option maxRecDepth 100000
set_option maxHeartbeats 1000000
/-! PyIn: x in a list or a tuple, item by item, for data with dicts too. -/
namespace PV
open PySem PySem.Spec L2
open PySem.SeqAt (EqIn)
open PySem.AutoSeq1 (wpAny_loadPart')
open PySem.MeetsSeq PySem.MeetsSeq2 PySem.MeetsSeq3 PySem.SeqRoads2
/-- the items, compared one by one until one is equal -/
inductive InC (prog : Program) (w : World) (A : Around) (s : Shared) (x : Value) : List Value → Bool → Prop
  | nil : InC prog w A s x [] false
  | hit {y : Value} {ys : List Value} : EqIn prog w A s y x true → InC prog w A s x (y :: ys) true
  | miss {y : Value} {ys : List Value} {b : Bool} : EqIn prog w A s y x false → InC prog w A s x ys b → InC prog w A s x (y :: ys) b
section
variable {prog : Program} {w : World}
theorem inLoop (l : Addr) (items : Array Value) (n : Nat) (dd : Option Addr) (sl : Array (Option Value)) (x : Value) (b : Bool) : ∀ k i : Nat, items.size - i = k → MeetsIn prog w (Builtin.«list.__contains__.loop» ⟨[.ref l, x, rawInt i], []⟩)
      (fun A R s => s.heap.get? l = some { cls := .type "list", dict := dd, data := .seq items n, slots := sl } ∧ InC prog w A.in1 s x (items.toList.drop i) b ∧ R (.ok (.ret (.bool b))) s)
  | 0, i, hk, A, R, s, h => by
    obtain ⟨hp, g, d, tk, os⟩ := s
    obtain ⟨hl, hc, h⟩ := h
    have e0 : items.toList.drop i = [] := List.drop_eq_nil_of_le (by simp; omega)
    have e1 : items[((i : Nat) : Int).toNat]? = none := by simp; omega
    rw [e0] at hc
    cases hc
    wp_walk using wpAny_loadPart' hl
    rw [e1]
    wp_walk
    exact h
  | k + 1, i, hk, A, R, s, h => by
    obtain ⟨hp, g, d, tk, os⟩ := s
    obtain ⟨hl, hc, h⟩ := h
    have lt : i < items.size := by omega
    have e1 : items[((i : Nat) : Int).toNat]? = some items[i] := by simp [lt]
    have e0 : items.toList.drop i = items[i] :: items.toList.drop (i + 1) := by simp [List.drop_eq_getElem_cons, lt]
    have ec : ((i : Int) + 1) = ((i + 1 : Nat) : Int) := by push_cast; rfl
    rw [e0] at hc
    wp_walk using wpAny_loadPart' hl
    rw [e1]
    cases hc with
    | hit q =>
      refine wpAny_bind (q _ _ ?_)
      wp_walk
      exact h
    | miss q hr =>
      refine wpAny_bind (q _ _ ?_)
      wp_walk
      rw [ec]
      exact ⟨plainId_quiet plain_contains_loop _, codeAny_builtin entry_contains_loop (by
        rw [Around.under_plainId plain_contains_loop _]
        exact inLoop l items n dd sl x b k (i + 1) (by omega) A R _ ⟨hl, hr, h⟩)⟩
theorem inList (l : Addr) (items : Array Value) (n : Nat) (dd : Option Addr) (sl : Array (Option Value)) (x : Value) (b : Bool) : MeetsIn prog w (Builtin.«list.__contains__» ⟨[.ref l, x], []⟩)
      (fun A R s => s.heap.get? l = some { cls := .type "list", dict := dd, data := .seq items n, slots := sl } ∧ InC prog w A.in1 s x items.toList b ∧ R (.ok (.ret (.bool b))) s) := by
  intro A R s h
  obtain ⟨hp, g, d, tk, os⟩ := s
  obtain ⟨hl, hc, h⟩ := h
  wp_walk using wpAny_loadPart' hl
  exact ⟨plainId_quiet plain_contains_loop _, codeAny_builtin entry_contains_loop (by
    rw [Around.under_plainId plain_contains_loop _]
    exact inLoop l items n dd sl x b _ 0 rfl A R _ ⟨hl, by simpa using hc, h⟩)⟩
theorem inTuple (l : Addr) (items : Array Value) (n : Nat) (dd : Option Addr) (sl : Array (Option Value)) (x : Value) (k : Bool) : MeetsIn prog w (Builtin.«tuple.__contains__» ⟨[.ref l, x], []⟩)
      (fun A R s => s.heap.get? l = some { cls := .type "tuple", dict := dd, data := .seq items n, slots := sl } ∧ InC prog w A.in1 s x items.toList k ∧ R (.ok (.ret (.bool k))) s) :=
  .of_wp fun A R s h => by
    obtain ⟨hp, g, d, tk, os⟩ := s
    obtain ⟨hl, hc, h⟩ := h
    wp_walk using wpAny_loadPart' hl, wpAny_forIn_array _ (fun rest b s' => b.1 = none ∧ s' = ⟨hp, g, d, tk, os⟩ ∧ InC prog w A.in1 ⟨hp, g, d, tk, os⟩ x rest k) _
    case turn =>
      rintro y rest b s' ⟨hb, rfl, hc⟩
      cases hc with
      | hit q =>
        refine wpAny_bind (q _ _ ?_)
        wp_walk
        exact ⟨_, rfl, h⟩
      | miss q hr =>
        refine wpAny_bind (q _ _ ?_)
        wp_walk
        exact ⟨rfl, rfl, hr⟩
    case fin =>
      rintro ⟨b1, b2⟩ s' ⟨hb, rfl, hc⟩
      cases hc
      simp only at hb
      subst hb
      wp_walk
      exact ⟨_, rfl, h⟩
    case h => exact ⟨rfl, rfl, hc⟩
variable {A : Around} {E : Value → Shared → Prop} {s : Shared}
theorem holds_in {T id : String} {B : Builtin} {c x : Value} {S : Spec} {Q : Bool → Shared → Prop} (hT : s.TypeIs c T) (slot : Slot T "__contains__" id) (entry : entryFor table id = some B) (args : argsOk id ⟨[c, x], []⟩)
    (g : MeetsIn prog w (B ⟨[c, x], []⟩) S) (h : S A (wants (fun v s' => ∃ b, v = .bool b ∧ Q b s') E) s) : wpAny (model prog w) A (contains c x) Q E s := by
  refine wpAny_contains_slot hT slot (wpAny_mono (call_meetsIn slot hT entry args g h) (fun v s' hv => ?_) fun _ _ e => e)
  obtain ⟨b, rfl, q⟩ := hv
  exact wpAny_truthy_bool q
theorem has_list {l : Addr} {items : Array Value} {x : Value} {b : Bool} {Q : Bool → Shared → Prop} (hl : s.heap.IsList l items) (hc : InC prog w A.in1 s x items.toList b) (h : Q b s) : wpAny (model prog w) A (contains (.ref l) x) Q E s := by
  obtain ⟨⟨cls, dd, data, sl⟩, ho, hcl, n, hd⟩ := id hl
  simp only at hcl hd
  subst hcl hd
  exact holds_in ⟨_, ho, rfl⟩ F.slot_list_contains F.entry_list_contains (F.args_list_contains_2 _ _) (inList l items n dd sl x b) ⟨ho, hc, _, rfl, h⟩
theorem has_tuple {l : Addr} {items : Array Value} {x : Value} {b : Bool} {Q : Bool → Shared → Prop} (hl : s.heap.IsTuple l items) (hc : InC prog w A.in1 s x items.toList b) (h : Q b s) : wpAny (model prog w) A (contains (.ref l) x) Q E s := by
  obtain ⟨⟨cls, dd, data, sl⟩, ho, hcl, n, hd⟩ := id hl
  simp only at hcl hd
  subst hcl hd
  exact holds_in ⟨_, ho, rfl⟩ F.slot_tuple_contains F.entry_tuple_contains (F.args_tuple_contains_2 _ _) (inTuple l items n dd sl x b) ⟨ho, hc, _, rfl, h⟩
end
/-! ### != -/
section
variable {prog : Program} {w : World}
theorem neLoop (l b : Addr) (items items2 : Array Value) (n n2 : Nat) (dd dd2 : Option Addr) (sl sl2 : Array (Option Value)) (hsz : items.size = items2.size) (e : Nat → Bool) : ∀ k i : Nat, items.size - i = k → MeetsIn prog w (Builtin.«list.__eq__.loop» ⟨[.ref l, .ref b, rawInt i, rawInt 3], []⟩)
      (fun A R s => s.heap.get? l = some { cls := .type "list", dict := dd, data := .seq items n, slots := sl } ∧ s.heap.get? b = some { cls := .type "list", dict := dd2, data := .seq items2 n2, slots := sl2 } ∧
        (∀ j (h1 : j < items.size) (h2 : j < items2.size), EqIn prog w A.in1 s items[j] items2[j] (e j)) ∧ R (.ok (.ret (.bool (!((List.range items.size).drop i).all e)))) s)
  | 0, i, hk, A, R, s, h => by
    obtain ⟨hp, g, d, tk, os⟩ := s
    obtain ⟨hl, hb, he, h⟩ := h
    have e1 : items[((i : Nat) : Int).toNat]? = none := by simp; omega
    have e2 : items2[((i : Nat) : Int).toNat]? = none := by simp; omega
    have e0 : (List.range items.size).drop i = [] := List.drop_eq_nil_of_le (by simp; omega)
    rw [e0] at h
    wp_walk using wpAny_loadPart' hl, wpAny_loadPart' hb
    rw [e1, e2]
    wp_walk using wpAny_loadPart' hl, wpAny_loadPart' hb
    show R (.ok (.ret (.bool (items.size != items2.size)))) _
    rw [hsz]
    simpa using h
  | k + 1, i, hk, A, R, s, h => by
    obtain ⟨hp, g, d, tk, os⟩ := s
    obtain ⟨hl, hb, he, h⟩ := h
    have lt : i < items.size := by omega
    have lt2 : i < items2.size := by omega
    have e1 : items[((i : Nat) : Int).toNat]? = some items[i] := by simp [lt]
    have e2 : items2[((i : Nat) : Int).toNat]? = some items2[i] := by simp [lt2]
    have e0 : (List.range items.size).drop i = i :: (List.range items.size).drop (i + 1) := by simp [List.drop_eq_getElem_cons, lt]
    have ec : ((i : Int) + 1) = ((i + 1 : Nat) : Int) := by push_cast; rfl
    rw [e0, List.all_cons] at h
    wp_walk using wpAny_loadPart' hl, wpAny_loadPart' hb
    rw [e1, e2]
    refine wpAny_bind (he i lt lt2 _ _ ?_)
    cases q : e i with
    | true =>
      rw [q, Bool.true_and] at h
      wp_walk
      rw [ec]
      exact ⟨plainId_quiet plain_eq_loop _, codeAny_builtin entry_eq_loop (by
        rw [Around.under_plainId plain_eq_loop _]
        exact neLoop l b items items2 n n2 dd dd2 sl sl2 hsz e k (i + 1) (by omega) A R _ ⟨hl, hb, he, h⟩)⟩
    | false =>
      rw [q, Bool.false_and] at h
      wp_walk using wpAny_loadPart' hl, wpAny_loadPart' hb
      rw [e1, e2]
      wp_walk
      exact h
theorem neList (l b : Addr) (items items2 : Array Value) (n n2 : Nat) (dd dd2 : Option Addr) (sl sl2 : Array (Option Value)) (hsz : items.size = items2.size) (e : Nat → Bool) : MeetsIn prog w (Builtin.«list.__ne__» ⟨[.ref l, .ref b], []⟩)
      (fun A R s => s.heap.get? l = some { cls := .type "list", dict := dd, data := .seq items n, slots := sl } ∧ s.heap.get? b = some { cls := .type "list", dict := dd2, data := .seq items2 n2, slots := sl2 } ∧
        (∀ j (h1 : j < items.size) (h2 : j < items2.size), EqIn prog w A.in1 s items[j] items2[j] (e j)) ∧ R (.ok (.ret (.bool (!(List.range items.size).all e)))) s) := by
  intro A R s h
  obtain ⟨hp, g, d, tk, os⟩ := s
  obtain ⟨hl, hb, he, h⟩ := h
  have f := AutoSeq1.sub_list_list
  have hn : ¬ (items.size != items2.size) = true := by simp [hsz]
  wp_walk using wpAny_loadPart' hl, wpAny_loadPart' hb
  exact ⟨plainId_quiet plain_eq_loop _, codeAny_builtin entry_eq_loop (by
    rw [Around.under_plainId plain_eq_loop _]
    exact neLoop l b items items2 n n2 dd dd2 sl sl2 hsz e _ 0 rfl A R _ ⟨hl, hb, he, by simpa using h⟩)⟩
theorem neTuple (l b : Addr) (items items2 : Array Value) (n n2 : Nat) (dd dd2 : Option Addr) (sl sl2 : Array (Option Value)) (e : Nat → Bool) : MeetsIn prog w (Builtin.«tuple.__ne__» ⟨[.ref l, .ref b], []⟩)
      (fun A R s => s.heap.get? l = some { cls := .type "tuple", dict := dd, data := .seq items n, slots := sl } ∧ s.heap.get? b = some { cls := .type "tuple", dict := dd2, data := .seq items2 n2, slots := sl2 } ∧
        (∀ j (h1 : j < items.size) (h2 : j < items2.size), EqIn prog w A.in1 s items[j] items2[j] (e j)) ∧ R (.ok (.ret (.bool (!((List.range (min items.size items2.size)).all e && items.size == items2.size))))) s) :=
  .of_wp fun A R s h => by
    obtain ⟨hp, g, d, tk, os⟩ := s
    obtain ⟨hl, hb, he, h⟩ := h
    have f := AutoSeq1.sub_tuple_tuple
    have hZ : (items.toList.zip items2.toList).length = min items.size items2.size := by simp
    wp_walk using wpAny_loadPart' hl, wpAny_loadPart' hb, wpAny_forIn_list _ (fun rest b s' => b.1 = none ∧ s' = ⟨hp, g, d, tk, os⟩ ∧ ∃ i, rest = (items.toList.zip items2.toList).drop i ∧
      R (.ok (.ret (.bool (!(((List.range (min items.size items2.size)).drop i).all e && items.size == items2.size))))) ⟨hp, g, d, tk, os⟩) _
    case turn =>
      rintro ⟨y, x⟩ rest b s' ⟨hb', rfl, i, hz, hR⟩
      have lt : i < (items.toList.zip items2.toList).length := by
        rcases Nat.lt_or_ge i (items.toList.zip items2.toList).length with q | q
        · exact q
        · rw [List.drop_of_length_le q] at hz; cases hz
      have hm : i < min items.size items2.size := hZ ▸ lt
      have h1 : i < items.size := by omega
      have h2 : i < items2.size := by omega
      rw [List.drop_eq_getElem_cons lt] at hz
      injection hz with hyx hrest
      have hy : y = items[i] := by have := congrArg Prod.fst hyx; simpa using this
      have hx : x = items2[i] := by have := congrArg Prod.snd hyx; simpa using this
      subst hy hx
      rw [List.drop_eq_getElem_cons (by simpa using hm), List.all_cons, List.getElem_range] at hR
      refine wpAny_bind (he i h1 h2 _ _ ?_)
      cases q : e i with
      | true =>
        rw [q, Bool.true_and] at hR
        wp_walk
        exact ⟨rfl, rfl, i + 1, hrest, hR⟩
      | false =>
        rw [q] at hR
        wp_walk
        exact ⟨_, rfl, by simpa using hR⟩
    case fin =>
      rintro ⟨b1, b2⟩ s' ⟨hb', rfl, i, hz, hR⟩
      simp only at hb'
      subst hb'
      have ge : min items.size items2.size ≤ i := by
        rcases Nat.lt_or_ge i (items.toList.zip items2.toList).length with q | q
        · rw [List.drop_eq_getElem_cons q] at hz; cases hz
        · exact hZ ▸ q
      rw [List.drop_of_length_le (by simpa using ge)] at hR
      wp_walk
      exact ⟨_, rfl, by simpa [Builtin.Tuple.tupleCompareSizes, bne] using hR⟩
    case h => exact ⟨rfl, rfl, 0, rfl, by simpa using h⟩
variable {A : Around} {E : Value → Shared → Prop} {s : Shared}
theorem rne_lists {l b : Addr} {items items2 : Array Value} {e : Nat → Bool} {Q : Value → Shared → Prop} (hl : s.heap.IsList l items) (hb : s.heap.IsList b items2) (hsz : items.size = items2.size) (hu : A.units < cLine)
    (he : ∀ j (h1 : j < items.size) (h2 : j < items2.size), EqIn prog w A.in1 s items[j] items2[j] (e j)) (h : Q (.bool (!(List.range items.size).all e)) s) : wpAny (model prog w) A (richCompare .NotEq (.ref l) (.ref b)) Q E s := by
  obtain ⟨⟨cls, dd, data, sl⟩, ho, hc, n, hd⟩ := id hl
  obtain ⟨⟨cls2, dd2, data2, sl2⟩, ho2, hc2, n2, hd2⟩ := id hb
  simp only at hc hd hc2 hd2
  subst hc hd hc2 hd2
  have q : wpAny (model prog w) A (call (.builtin "list.__ne__") [.ref l, .ref b]) (fun v s => v ≠ .notImplemented ∧ Q v s) E s := call_meetsIn F.slot_list_ne ⟨_, ho, rfl⟩ F.entry_list_ne (F.args_list_ne_2 _ _) (neList l b items items2 n n2 dd dd2 sl sl2 hsz e) ⟨ho, ho2, he, (fun x => nomatch x), h⟩
  exact wpAny_richCompare_same_room (T := "list") (op := .NotEq) ⟨_, ho, rfl⟩ ⟨_, ho2, rfl⟩ F.slot_list_ne q hu
theorem rne_tuples {l b : Addr} {items items2 : Array Value} {e : Nat → Bool} {Q : Value → Shared → Prop} (hl : s.heap.IsTuple l items) (hb : s.heap.IsTuple b items2) (hu : A.units < cLine)
    (he : ∀ j (h1 : j < items.size) (h2 : j < items2.size), EqIn prog w A.in1 s items[j] items2[j] (e j)) (h : Q (.bool (!((List.range (min items.size items2.size)).all e && items.size == items2.size))) s) : wpAny (model prog w) A (richCompare .NotEq (.ref l) (.ref b)) Q E s := by
  obtain ⟨⟨cls, dd, data, sl⟩, ho, hc, n, hd⟩ := id hl
  obtain ⟨⟨cls2, dd2, data2, sl2⟩, ho2, hc2, n2, hd2⟩ := id hb
  simp only at hc hd hc2 hd2
  subst hc hd hc2 hd2
  have q : wpAny (model prog w) A (call (.builtin "tuple.__ne__") [.ref l, .ref b]) (fun v s => v ≠ .notImplemented ∧ Q v s) E s := call_meetsIn F.slot_tuple_ne ⟨_, ho, rfl⟩ F.entry_tuple_ne (F.args_tuple_ne_2 _ _) (neTuple l b items items2 n n2 dd dd2 sl sl2 e) ⟨ho, ho2, he, (fun x => nomatch x), h⟩
  exact wpAny_richCompare_same_room (T := "tuple") (op := .NotEq) ⟨_, ho, rfl⟩ ⟨_, ho2, rfl⟩ F.slot_tuple_ne q hu
open PySem.W in
theorem rne_dicts {K : Type} [DecidableEq K] {knd : KeyKind prog w K} {a b : Addr} {ka kb : List (K × Value)} {r : Bool} {Q : Value → Shared → Prop} (ha : (a == sysModules) = false) (hb : (b == sysModules) = false)
    (da : s.heap.DictOf knd a ka) (db : s.heap.DictOf knd b kb) (hu : A.units < cLine) (hits : ka.length = kb.length → KeqHitsIn prog w A.in1 s kb ka r) (h : Q (.bool (!(ka.length == kb.length && r))) s) : wpAny (model prog w) A (richCompare .NotEq (.ref a) (.ref b)) Q E s := by
  refine wpAny_richCompare_same_room (op := .NotEq) da.typeIs db.typeIs PySem.F.slot_dict_ne (wpAny_call_entry PySem.F.slot_dict_ne da.typeIs PySem.F.entry_dict_ne ?_ (PySem.F.args_dict_ne_2 _ _)) hu
  refine wpAny_bind (show wpAny _ _ (Builtin.Dict.dictSlotArgs "__ne__" ⟨[.ref a, .ref b], []⟩) _ _ s from ?_)
  unfold Builtin.Dict.dictSlotArgs
  refine wpAny_bind (wpAny_notOrdered_dict da.typeIs (show wpAny _ _ (pure (Value.ref a, Value.ref b)) _ _ s from wpAny_pure ?_))
  refine wpAny_bind (wpAny_isInstance (T := "dict") db.typeIs PySem.F.sub_dict_dict ?_)
  rw [Bool.not_true, if_neg Bool.false_ne_true]
  refine wpAny_bind (wpAny_pure (wpAny_bind (wpAny_pure (wpAny_bind (keq_samePairsIn ha hb da db hits ?_)))))
  exact wpAny_pure ⟨_, rfl, (fun x => nomatch x), by simpa using h⟩
end
end PV
set_option Elab.async false
set_option linter.all false
set_option maxRecDepth 100000
set_option maxHeartbeats 1000000
/-! PyCmp: the interpreter's comparisons are the model's. -/
namespace PV
open PySem PySem.Spec L2
open PySem.SeqAt (RcAt EqAt EqIn rcIn_lists rcIn_tuples)
open PySem.W (EqTree KeqHitsIn keq_eqIn)
section
variable {X : Cx} {S : Sta} {L : List Nat} {ι : List Addr} {G : Gp} {H : Hp} {pins : List (Addr × Obj)} {σ : L2.St} {s : Shared} {A : Around}
/-- a comparison answers b -/
def Rc (P : Program) (w : World) (A : Around) (s : Shared) (op : CmpOp) (v u : Value) (b : Bool) : Prop := ∀ (E Q : Value → Shared → Prop), Q (.bool b) s → wpAny (model P w) A (compareOp op v u) Q E s
theorem rc_at {P : Program} {w : World} {v u : Value} {b : Bool} (h : RcAt A s v u b) : Rc P w A s .Eq v u b := fun E Q q => h P w E Q q
theorem rcB {P : Program} {w : World} {v u : Value} {b b' : Bool} (h : RcAt A s v u b') (e : b' = b) : Rc P w A s .Eq v u b := by
  subst e
  exact rc_at h
theorem atom_rc {f : U → U → Option Bool} {P : Program} {w : World} {x y : U} {v u : Value} {b : Bool} (hx : Atom x v) (hy : Atom y u) (h : eqStep f G x y = some b) : Rc P w A s .Eq v u b := by
  cases hx with
  | non => cases hy with
    | non => cases h; exact rc_at RcAt.none_none
    | bl c => cases h; exact rc_at (RcAt.none_bool c)
    | int c t => cases h; exact rc_at (RcAt.none_int c t)
    | str c t => cases h; exact rc_at (RcAt.none_str c t)
  | bl a => cases hy with
    | non => cases h; exact rc_at (RcAt.bool_none a)
    | bl c => cases h; exact rcB (RcAt.bool_bool a c) (by cases a <;> cases c <;> rfl)
    | int c t => cases h; exact rcB (RcAt.bool_int a c t) (by rw [Bool.beq_eq_decide_eq]; rfl)
    | str c t => cases h; exact rc_at (RcAt.bool_str a c t)
  | int a t => cases hy with
    | non => cases h; exact rc_at (RcAt.int_none a t)
    | bl c => cases h; exact rcB (RcAt.int_bool a t c) (by rw [Bool.beq_eq_decide_eq]; rfl)
    | int c t' => cases h; exact rcB (RcAt.int_int a t c t') (by rw [Bool.beq_eq_decide_eq])
    | str c t' => cases h; exact rc_at (RcAt.int_str a t c t')
  | str a t => cases hy with
    | non => cases h; exact rc_at (RcAt.str_none a t)
    | bl c => cases h; exact rc_at (RcAt.str_bool a t c)
    | int c t' => cases h; exact rc_at (RcAt.str_int a t c t')
    | str c t' => cases h; exact rcB (RcAt.str_str a t c t') (by rw [Bool.beq_eq_decide_eq])
theorem rc_tup {P : Program} {w : World} {y : U} {u : Value} {a : Addr} {its : Array Value} (hy : Atom y u) (hl : s.heap.IsTuple a its) (hu : A.units < cLine) : Rc P w A s .Eq u (.ref a) false ∧ Rc P w A s .Eq (.ref a) u false := by
  cases hy with
  | non => exact ⟨rc_at (RcAt.none_tuple hl hu), rc_at (RcAt.tuple_none hl hu)⟩
  | bl b => exact ⟨rc_at (RcAt.bool_tuple b hl hu), rc_at (RcAt.tuple_bool b hl hu)⟩
  | int i t => exact ⟨rc_at (RcAt.int_tuple i t hl hu), rc_at (RcAt.tuple_int i t hl hu)⟩
  | str z t => exact ⟨rc_at (RcAt.str_tuple z t hl hu), rc_at (RcAt.tuple_str z t hl hu)⟩
theorem rc_ref {P : Program} {w : World} {y : U} {u : Value} {a : Addr} {c : Cell} (hy : Atom y u) (k : RefK X S ι H s a c) (hu : A.units < cLine) : Rc P w A s .Eq u (.ref a) false ∧ Rc P w A s .Eq (.ref a) u false := by
  cases k with
  | lst r q hl => cases hy with
    | non => exact ⟨rc_at (RcAt.none_list hl hu), rc_at (RcAt.list_none hl hu)⟩
    | bl b => exact ⟨rc_at (RcAt.bool_list b hl hu), rc_at (RcAt.list_bool b hl hu)⟩
    | int i t => exact ⟨rc_at (RcAt.int_list i t hl hu), rc_at (RcAt.list_int i t hl hu)⟩
    | str z t => exact ⟨rc_at (RcAt.str_list z t hl hu), rc_at (RcAt.list_str z t hl hu)⟩
  | dct r ok => cases hy with
    | non => exact ⟨rc_at (RcAt.none_dict (isDic_of ok) hu), rc_at (RcAt.dict_none (isDic_of ok) hu)⟩
    | bl b => exact ⟨rc_at (RcAt.bool_dict b (isDic_of ok) hu), rc_at (RcAt.dict_bool b (isDic_of ok) hu)⟩
    | int i t => exact ⟨rc_at (RcAt.int_dict i t (isDic_of ok) hu), rc_at (RcAt.dict_int i t (isDic_of ok) hu)⟩
    | str z t => exact ⟨rc_at (RcAt.str_dict z t (isDic_of ok) hu), rc_at (RcAt.dict_str z t (isDic_of ok) hu)⟩
/-- two tuples, two lists, two dicts: == and != -/
theorem two_tup (R : Rel S L ι G H) (hK : X.K = S.K) (I : Inv X pins σ H s) {n : Nat} {us ws : List U} {v w : V} {u1 u2 : Value} {b : Bool} (h : eqL (eqU n G) us ws = some b) (rx : VR S ι H (.tup us) v) (ry : VR S ι H (.tup ws) w) (q1 : RelV v u1) (q2 : RelV w u2) (hu : A.units + (n + 1) < cLine) : Rc X.prog X.w A s .Eq u1 u2 b ∧ Rc X.prog X.w A s .NotEq u1 u2 (!b) := by
  obtain ⟨a, vs, e, qa, ra⟩ := rx
  subst e
  cases q1
  obtain ⟨its, rv, p, _⟩ := I.tuple (by rw [hK]; exact qa)
  obtain ⟨a', vs', e', qb, rb⟩ := ry
  subst e'
  cases q2
  obtain ⟨its2, rv2, p2, _⟩ := I.tuple (by rw [hK]; exact qb)
  obtain ⟨e, k1, k2⟩ := eqL_tree (X := X) (m := n) (fun h r1 r2 t1 t2 => eq_tree R hK I n h r1 r2 t1 t2) h ra rb rv rv2
  rw [k2]
  exact ⟨fun E Q q => rcIn_tuples p p2 (by omega) (fun j h1 h2 => (k1 j h1 h2).at A.in1 (by show A.units + 1 + n < cLine; omega)) q,
    fun E Q q => rne_tuples p p2 (by omega) (fun j h1 h2 => (k1 j h1 h2).at A.in1 (by show A.units + 1 + n < cLine; omega)) q⟩
theorem two_lst (R : Rel S L ι G H) (hK : X.K = S.K) (I : Inv X pins σ H s) {n : Nat} {us ws : List U} {a a' : Addr} {b : Bool} (h : eqL (eqU n G) us ws = some b) (hl : us.length = ws.length) (k : RefK X S ι H s a (.lst us)) (k' : RefK X S ι H s a' (.lst ws)) (hu : A.units + (n + 1) < cLine) : Rc X.prog X.w A s .Eq (.ref a) (.ref a') b ∧ Rc X.prog X.w A s .NotEq (.ref a) (.ref a') (!b) := by
  cases k with
  | lst r q hp => cases k' with
    | lst r' q' hp' =>
      rename_i vs its xs its2
      have l1 : its.length = us.length := by rw [← q.length, r.length]
      have l2 : its2.length = ws.length := by rw [← q'.length, r'.length]
      obtain ⟨e, k1, k2⟩ := eqL_tree (X := X) (m := n) (fun h r1 r2 t1 t2 => eq_tree R hK I n h r1 r2 t1 t2) h r r' q q'
      have hs : its.toArray.size = its2.toArray.size := by simp [l1, l2, hl]
      rw [k2, ← hs]
      simp only [Nat.min_self, beq_self_eq_true, Bool.and_true]
      exact ⟨fun E Q q => rcIn_lists hp hp' hs (by omega) (fun j h1 h2 => (k1 j h1 h2).at A.in1 (by show A.units + 1 + n < cLine; omega)) q,
        fun E Q q => rne_lists hp hp' hs (by omega) (fun j h1 h2 => (k1 j h1 h2).at A.in1 (by show A.units + 1 + n < cLine; omega)) q⟩
theorem two_dct (R : Rel S L ι G H) (hK : X.K = S.K) (I : Inv X pins σ H s) {n : Nat} {ks ls : List (Key × U)} {a a' : Addr} {b : Bool} (h : eqD (eqU n G) ls ks = some b) (hl : ks.length = ls.length) (k : RefK X S ι H s a (.dct ks)) (k' : RefK X S ι H s a' (.dct ls)) (hu : A.units + (n + 1) < cLine) : Rc X.prog X.w A s .Eq (.ref a) (.ref a') b ∧ Rc X.prog X.w A s .NotEq (.ref a) (.ref a') (!b) := by
  cases k with
  | dct r ok => cases k' with
    | dct r' ok' =>
      have nd := KR.nodup r ok
      obtain ⟨_, ya, va, rka, da⟩ := ok
      obtain ⟨_, yb, vb, rkb, db⟩ := ok'
      obtain ⟨e, key, eb⟩ := eqD_tree (X := X) (m := n) (fun h r1 r2 t1 t2 => eq_tree R hK I n h r1 r2 t1 t2) h r r' rka rkb nd hl
      have hits := KeqHitsIn.of (prog := X.prog) (w := X.w) (A := A.in1) (s := s) (kb := vb) (e := e) va fun k v y hm hv => (key k v y hm hv).at A.in1 (by show A.units + 1 + n < cLine; omega)
      rw [eb]
      exact ⟨fun E Q q => keq_eqIn ya yb da db (by omega) (fun _ => hits) q, fun E Q q => rne_dicts ya yb da db (by omega) (fun _ => hits) q⟩
/-- == at the top -/
theorem eq_top (R : Rel S L ι G H) (hK : X.K = S.K) (I : Inv X pins σ H s) (n : Nat) {x y : U} {v w : V} {u1 u2 : Value} {b : Bool} (h : eqU (n + 1) G x y = some b) (rx : VR S ι H x v) (ry : VR S ι H y w) (q1 : RelV v u1) (q2 : RelV w u2) (hu : A.units + (n + 1) < cLine) : Rc X.prog X.w A s .Eq u1 u2 b := by
  have h' : eqStep (eqU n G) G x y = some b := h
  rcases kinds x rx q1 with ⟨us, rfl⟩ | ⟨i, rfl⟩ | ax
  · rcases kinds y ry q2 with ⟨ws, rfl⟩ | ⟨j, rfl⟩ | ay
    · exact (two_tup R hK I h' rx ry q1 q2 hu).1
    · obtain ⟨a, vs, e, qa, ra⟩ := rx
      subst e
      cases q1
      obtain ⟨its, rv, p, _⟩ := I.tuple (by rw [hK]; exact qa)
      have hp : plainRef G j = some b := h'
      obtain ⟨hb, hc⟩ := plain_some hp
      subst hb
      obtain ⟨a', c, e1, e2, _, _, k⟩ := refK R I ry q2 hc
      subst e1
      cases k with
      | lst r q hl => exact rc_at (RcAt.tuple_list p hl (by omega))
      | dct r ok => exact rc_at (RcAt.tuple_dict p (isDic_of ok) (by omega))
    · obtain ⟨a, vs, e, qa, ra⟩ := rx
      subst e
      cases q1
      obtain ⟨its, rv, p, _⟩ := I.tuple (by rw [hK]; exact qa)
      have := (rc_tup (P := X.prog) (w := X.w) (A := A) ay p (by omega)).2
      cases ay <;> (cases h'; exact this)
  · rcases kinds y ry q2 with ⟨ws, rfl⟩ | ⟨j, rfl⟩ | ay
    · obtain ⟨a', vs', e', qb, rb⟩ := ry
      subst e'
      cases q2
      obtain ⟨its2, rv2, p2, _⟩ := I.tuple (by rw [hK]; exact qb)
      have hp : plainRef G i = some b := h'
      obtain ⟨hb, hc⟩ := plain_some hp
      subst hb
      obtain ⟨a, c, e1, e2, _, _, k⟩ := refK R I rx q1 hc
      subst e1
      cases k with
      | lst r q hl => exact rc_at (RcAt.list_tuple hl p2 (by omega))
      | dct r ok => exact rc_at (RcAt.dict_tuple p2 (isDic_of ok) (by omega))
    · obtain ⟨h1, h2⟩ := eqStep_refs h'
      obtain ⟨a, c, e1, e2, e3, e4, k⟩ := refK R I rx q1 h1
      obtain ⟨a', c', e1', e2', e3', e4', k'⟩ := refK R I ry q2 h2
      subst e1 e1' e2 e2'
      cases id k with
      | lst r q hl => cases id k' with
        | lst r' q' hl' =>
          rename_i us vs its ws xs its2
          simp only [eqStep, e4, e4'] at h'
          by_cases hl2 : us.length = ws.length
          · rw [if_pos hl2] at h'
            exact (two_lst R hK I h' hl2 k k' hu).1
          · rw [if_neg hl2] at h'
            cases h'
            have l1 : its.length = us.length := by rw [← q.length, r.length]
            have l2 : its2.length = ws.length := by rw [← q'.length, r'.length]
            exact rc_at (RcAt.lists_lengths hl hl' (by simp [l1, l2, hl2]) (by omega))
        | dct r' ok' =>
          simp only [eqStep, e4, e4'] at h'
          cases h'
          exact rc_at (RcAt.list_dict hl (isDic_of ok') (by omega))
      | dct r ok => cases id k' with
        | lst r' q' hl' =>
          simp only [eqStep, e4, e4'] at h'
          cases h'
          exact rc_at (RcAt.dict_list hl' (isDic_of ok) (by omega))
        | dct r' ok' =>
          rename_i ks kvs ls lvs
          simp only [eqStep, e4, e4'] at h'
          by_cases hl2 : ks.length = ls.length
          · rw [if_pos hl2] at h'
            exact (two_dct R hK I h' hl2 k k' hu).1
          · rw [if_neg hl2] at h'
            cases h'
    · have hp : plainRef G i = some b := by cases ay <;> exact h'
      obtain ⟨hb, hc⟩ := plain_some hp
      subst hb
      obtain ⟨a, c, e1, e2, _, _, k⟩ := refK R I rx q1 hc
      subst e1
      exact (rc_ref ay k (by omega)).2
  · rcases kinds y ry q2 with ⟨ws, rfl⟩ | ⟨j, rfl⟩ | ay
    · obtain ⟨a', vs', e', qb, rb⟩ := ry
      subst e'
      cases q2
      obtain ⟨its2, rv2, p2, _⟩ := I.tuple (by rw [hK]; exact qb)
      have := (rc_tup (P := X.prog) (w := X.w) (A := A) ax p2 (by omega)).1
      cases ax <;> (cases h'; exact this)
    · have hp : plainRef G j = some b := by cases ax <;> exact h'
      obtain ⟨hb, hc⟩ := plain_some hp
      subst hb
      obtain ⟨a, c, e1, e2, _, _, k⟩ := refK R I ry q2 hc
      subst e1
      exact (rc_ref ax k (by omega)).1
    · exact atom_rc ax ay h'
end
end PV
set_option Elab.async false
set_option linter.all false
set_option maxRecDepth 100000
set_option maxHeartbeats 1000000
/-! PyCmp2: every comparison of the interpreter is the model's. -/
namespace PV
open PySem PySem.Spec L2
open PySem.SeqAt (RcAt EqAt EqIn RcNeAt)
section
variable {X : Cx} {S : Sta} {L : List Nat} {ι : List Addr} {G : Gp} {H : Hp} {pins : List (Addr × Obj)} {σ : L2.St} {s : Shared} {A : Around}
theorem rn_at {P : Program} {w : World} {v u : Value} {b : Bool} (h : RcNeAt A s v u b) : Rc P w A s .NotEq v u b := fun E Q q => h P w E Q q
theorem rnB {P : Program} {w : World} {v u : Value} {b b' : Bool} (h : RcNeAt A s v u b') (e : b' = b) : Rc P w A s .NotEq v u b := by
  subst e
  exact rn_at h
theorem atom_rn {f : U → U → Option Bool} {P : Program} {w : World} {x y : U} {v u : Value} {b : Bool} (hx : Atom x v) (hy : Atom y u) (h : eqStep f G x y = some b) : Rc P w A s .NotEq v u (!b) := by
  cases hx with
  | non => cases hy with
    | non => cases h; exact rn_at RcNeAt.none_none
    | bl c => cases h; exact rn_at (RcNeAt.none_bool c)
    | int c t => cases h; exact rn_at (RcNeAt.none_int c t)
    | str c t => cases h; exact rn_at (RcNeAt.none_str c t)
  | bl a => cases hy with
    | non => cases h; exact rn_at (RcNeAt.bool_none a)
    | bl c => cases h; exact rnB (RcNeAt.bool_bool a c) (by cases a <;> cases c <;> rfl)
    | int c t => cases h; exact rnB (RcNeAt.bool_int a c t) (by rw [Bool.beq_eq_decide_eq]; rfl)
    | str c t => cases h; exact rn_at (RcNeAt.bool_str a c t)
  | int a t => cases hy with
    | non => cases h; exact rn_at (RcNeAt.int_none a t)
    | bl c => cases h; exact rnB (RcNeAt.int_bool a t c) (by rw [Bool.beq_eq_decide_eq]; rfl)
    | int c t' => cases h; exact rnB (RcNeAt.int_int a t c t') (by rw [Bool.beq_eq_decide_eq])
    | str c t' => cases h; exact rn_at (RcNeAt.int_str a t c t')
  | str a t => cases hy with
    | non => cases h; exact rn_at (RcNeAt.str_none a t)
    | bl c => cases h; exact rn_at (RcNeAt.str_bool a t c)
    | int c t' => cases h; exact rn_at (RcNeAt.str_int a t c t')
    | str c t' => cases h; exact rnB (RcNeAt.str_str a t c t') (by rw [Bool.beq_eq_decide_eq])
theorem rn_tup {P : Program} {w : World} {y : U} {u : Value} {a : Addr} {its : Array Value} (hy : Atom y u) (hl : s.heap.IsTuple a its) (hu : A.units < cLine) : Rc P w A s .NotEq u (.ref a) true ∧ Rc P w A s .NotEq (.ref a) u true := by
  cases hy with
  | non => exact ⟨rn_at (RcNeAt.none_tuple hl hu), rn_at (RcNeAt.tuple_none hl hu)⟩
  | bl b => exact ⟨rn_at (RcNeAt.bool_tuple b hl hu), rn_at (RcNeAt.tuple_bool b hl hu)⟩
  | int i t => exact ⟨rn_at (RcNeAt.int_tuple i t hl hu), rn_at (RcNeAt.tuple_int i t hl hu)⟩
  | str z t => exact ⟨rn_at (RcNeAt.str_tuple z t hl hu), rn_at (RcNeAt.tuple_str z t hl hu)⟩
theorem rn_ref {P : Program} {w : World} {y : U} {u : Value} {a : Addr} {c : Cell} (hy : Atom y u) (k : RefK X S ι H s a c) (hd : ∀ ks, c ≠ .dct ks) (hu : A.units < cLine) : Rc P w A s .NotEq u (.ref a) true ∧ Rc P w A s .NotEq (.ref a) u true := by
  cases k with
  | lst r q hl => cases hy with
    | non => exact ⟨rn_at (RcNeAt.none_list hl hu), rn_at (RcNeAt.list_none hl hu)⟩
    | bl b => exact ⟨rn_at (RcNeAt.bool_list b hl hu), rn_at (RcNeAt.list_bool b hl hu)⟩
    | int i t => exact ⟨rn_at (RcNeAt.int_list i t hl hu), rn_at (RcNeAt.list_int i t hl hu)⟩
    | str z t => exact ⟨rn_at (RcNeAt.str_list z t hl hu), rn_at (RcNeAt.list_str z t hl hu)⟩
  | dct r ok => exact absurd rfl (hd _)
theorem dct_of {i : Nat} {c : Cell} (h : G[i]? = some c) (hd : isDct G (.ref i) = false) : ∀ ks, c ≠ .dct ks := fun ks e => by
  subst e
  simp only [isDct, h] at hd
  cases hd
theorem isDct_dct {i : Nat} {ks : List (Key × U)} (h : G[i]? = some (.dct ks)) : isDct G (.ref i) = true := by simp only [isDct, h]
theorem isDct_lst {i : Nat} {us : List U} (h : G[i]? = some (.lst us)) : isDct G (.ref i) = false := by simp only [isDct, h]
/-- != at the top -/
theorem ne_top (R : Rel S L ι G H) (hK : X.K = S.K) (I : Inv X pins σ H s) (n : Nat) {x y : U} {v w : V} {u1 u2 : Value} {b : Bool} (h : eqU (n + 1) G x y = some b) (hd : isDct G x = isDct G y) (rx : VR S ι H x v) (ry : VR S ι H y w) (q1 : RelV v u1) (q2 : RelV w u2) (hu : A.units + (n + 1) < cLine) : Rc X.prog X.w A s .NotEq u1 u2 (!b) := by
  have h' : eqStep (eqU n G) G x y = some b := h
  rcases kinds x rx q1 with ⟨us, rfl⟩ | ⟨i, rfl⟩ | ax
  · rcases kinds y ry q2 with ⟨ws, rfl⟩ | ⟨j, rfl⟩ | ay
    · exact (two_tup R hK I h' rx ry q1 q2 hu).2
    · obtain ⟨a, vs, e, qa, ra⟩ := rx
      subst e
      cases q1
      obtain ⟨its, rv, p, _⟩ := I.tuple (by rw [hK]; exact qa)
      have hp : plainRef G j = some b := h'
      obtain ⟨hb, hc⟩ := plain_some hp
      subst hb
      obtain ⟨a', c, e1, e2, _, e4, k⟩ := refK R I ry q2 hc
      subst e1
      have nd := dct_of e4 hd.symm
      cases k with
      | lst r q hl => exact rn_at (RcNeAt.tuple_list p hl (by omega))
      | dct r ok => exact absurd rfl (nd _)
    · obtain ⟨a, vs, e, qa, ra⟩ := rx
      subst e
      cases q1
      obtain ⟨its, rv, p, _⟩ := I.tuple (by rw [hK]; exact qa)
      have := (rn_tup (P := X.prog) (w := X.w) (A := A) ay p (by omega)).2
      cases ay <;> (cases h'; exact this)
  · rcases kinds y ry q2 with ⟨ws, rfl⟩ | ⟨j, rfl⟩ | ay
    · obtain ⟨a', vs', e', qb, rb⟩ := ry
      subst e'
      cases q2
      obtain ⟨its2, rv2, p2, _⟩ := I.tuple (by rw [hK]; exact qb)
      have hp : plainRef G i = some b := h'
      obtain ⟨hb, hc⟩ := plain_some hp
      subst hb
      obtain ⟨a, c, e1, e2, _, e4, k⟩ := refK R I rx q1 hc
      subst e1
      have nd := dct_of e4 hd
      cases k with
      | lst r q hl => exact rn_at (RcNeAt.list_tuple hl p2 (by omega))
      | dct r ok => exact absurd rfl (nd _)
    · obtain ⟨h1, h2⟩ := eqStep_refs h'
      obtain ⟨a, c, e1, e2, e3, e4, k⟩ := refK R I rx q1 h1
      obtain ⟨a', c', e1', e2', e3', e4', k'⟩ := refK R I ry q2 h2
      subst e1 e1' e2 e2'
      cases id k with
      | lst r q hl => cases id k' with
        | lst r' q' hl' =>
          rename_i us vs its ws xs its2
          simp only [eqStep, e4, e4'] at h'
          by_cases hl2 : us.length = ws.length
          · rw [if_pos hl2] at h'
            exact (two_lst R hK I h' hl2 k k' hu).2
          · rw [if_neg hl2] at h'
            cases h'
            have l1 : its.length = us.length := by rw [← q.length, r.length]
            have l2 : its2.length = ws.length := by rw [← q'.length, r'.length]
            exact rn_at (RcNeAt.lists_lengths hl hl' (by simp [l1, l2, hl2]) (by omega))
        | dct r' ok' =>
          rw [isDct_lst e4, isDct_dct e4'] at hd
          cases hd
      | dct r ok => cases id k' with
        | lst r' q' hl' =>
          rw [isDct_dct e4, isDct_lst e4'] at hd
          cases hd
        | dct r' ok' =>
          rename_i ks kvs ls lvs
          simp only [eqStep, e4, e4'] at h'
          by_cases hl2 : ks.length = ls.length
          · rw [if_pos hl2] at h'
            exact (two_dct R hK I h' hl2 k k' hu).2
          · rw [if_neg hl2] at h'
            cases h'
    · have hp : plainRef G i = some b := by cases ay <;> exact h'
      obtain ⟨hb, hc⟩ := plain_some hp
      subst hb
      obtain ⟨a, c, e1, e2, _, e4, k⟩ := refK R I rx q1 hc
      subst e1
      exact (rn_ref ay k (dct_of e4 (by cases ay <;> exact hd)) (by omega)).2
  · rcases kinds y ry q2 with ⟨ws, rfl⟩ | ⟨j, rfl⟩ | ay
    · obtain ⟨a', vs', e', qb, rb⟩ := ry
      subst e'
      cases q2
      obtain ⟨its2, rv2, p2, _⟩ := I.tuple (by rw [hK]; exact qb)
      have := (rn_tup (P := X.prog) (w := X.w) (A := A) ax p2 (by omega)).1
      cases ax <;> (cases h'; exact this)
    · have hp : plainRef G j = some b := by cases ax <;> exact h'
      obtain ⟨hb, hc⟩ := plain_some hp
      subst hb
      obtain ⟨a, c, e1, e2, _, e4, k⟩ := refK R I ry q2 hc
      subst e1
      exact (rn_ref ax k (dct_of e4 (by cases ax <;> exact hd.symm)) (by omega)).1
    · exact atom_rn ax ay h'
/-- the chain of x in us -/
theorem inC_of (R : Rel S L ι G H) (hK : X.K = S.K) (I : Inv X pins σ H s) (n : Nat) {x : U} {v : V} {u : Value} (rx : VR S ι H x v) (q : RelV v u) (hu : A.units + n < cLine) : ∀ {us : List U} {vs : List V} {its : List Value} {b : Bool}, VRs S ι H us vs → Vals vs its → inL (eqU n G) x us = some b → InC X.prog X.w A s u its b
  | [], _, _, _, r, t, h => by
    have e : _ = [] := r
    subst e
    cases t
    cases h
    exact .nil
  | y :: us, _, _, b, r, t, h => by
    obtain ⟨w, vs, e, r1, r2⟩ := r
    subst e
    cases t with
    | cons t1 t2 =>
      have h' : (match eqU n G y x with
        | some true => some true
        | some false => inL (eqU n G) x us
        | none => none) = some b := h
      cases e : eqU n G y x with
      | none => rw [e] at h'; cases h'
      | some c =>
        have tr := (eq_tree R hK I n e r1 rx t1 q).at A hu
        rw [e] at h'
        cases c with
        | true => cases h'; exact .hit tr
        | false => exact .miss tr (inC_of R hK I n rx q hu r2 t2 h')
/-- has: x in y -/
theorem mem_ok {P' : Bool → Prop} (R : Rel S L ι G H) (hK : X.K = S.K) (hu : X.A.units + 32 < cLine) {x y : U} {v w : V} {b : Bool} (rx : VR S ι H x v) (ry : VR S ι H y w) (h : memU G x y = some b) {Q Q' : VK} (q : Q (.bl b) H) (q' : Q' (.bl (!b)) H) : wO X (compareOp .In) v w H Q ∧ wO X (compareOp .NotIn) v w H Q' := by
  have fin : ∀ (pins : List (Addr × Obj)) (s : Shared) (σ : L2.St) (u u' : Value), Inv X pins σ H s → (∀ Q : Bool → Shared → Prop, Q b s → wpAny (model X.prog X.w) X.A (contains u' u) Q X.xe s) →
      wpAny (model X.prog X.w) X.A (compareOp .In u u') (EP X pins σ Q) X.xe s ∧ wpAny (model X.prog X.w) X.A (compareOp .NotIn u u') (EP X pins σ Q') X.xe s := fun pins s σ u u' I g =>
    ⟨wpAny_bind (g _ (wpAny_pure ⟨.bl b, H, I, rfl, q⟩)), wpAny_bind (g _ (wpAny_pure ⟨.bl (!b), H, I, rfl, q'⟩))⟩
  have seqT : ∀ us, y = .tup us → inL (eqU DEP G) x us = some b → ∀ (pins : List (Addr × Obj)) (s : Shared) (σ : L2.St) (u u' : Value), Inv X pins σ H s → RelV v u → RelV w u' →
      wpAny (model X.prog X.w) X.A (compareOp .In u u') (EP X pins σ Q) X.xe s ∧ wpAny (model X.prog X.w) X.A (compareOp .NotIn u u') (EP X pins σ Q') X.xe s := by
    intro us e hl pins s σ u u' I r1 r2
    subst e
    obtain ⟨a, vs, e, qa, ra⟩ := ry
    subst e
    cases r2
    obtain ⟨its, rv, p, _⟩ := I.tuple (by rw [hK]; exact qa)
    exact fin pins s σ u _ I fun Q h => has_tuple p (inC_of R hK I DEP rx r1 (by show X.A.units + 1 + 12 < cLine; omega) ra rv hl) h
  unfold memU at h
  split at h
  · exact ⟨fun pins s σ u u' I r1 r2 => (seqT _ rfl h pins s σ u u' I r1 r2).1, fun pins s σ u u' I r1 r2 => (seqT _ rfl h pins s σ u u' I r1 r2).2⟩
  · split at h
    · rename_i t
      split at h
      · rename_i c hc
        cases h
        have et : t = ⟨#[c]⟩ := by
          obtain ⟨a⟩ := t
          rw [Str.mk.injEq]
          exact Array.ext' hc
        subst et
        exact ⟨.of op_in_sign ⟨_, _, rx, ry, q⟩, .of op_notIn_sign ⟨_, _, rx, ry, q'⟩⟩
      · cases h
    · cases h
  · split at h
    · rename_i i us hi
      have key : ∀ (pins : List (Addr × Obj)) (s : Shared) (σ : L2.St) (u u' : Value), Inv X pins σ H s → RelV v u → RelV w u' →
          wpAny (model X.prog X.w) X.A (compareOp .In u u') (EP X pins σ Q) X.xe s ∧ wpAny (model X.prog X.w) X.A (compareOp .NotIn u u') (EP X pins σ Q') X.xe s := by
        intro pins s σ u u' I r1 r2
        obtain ⟨a, vs, e, _, h1, ra⟩ := R.lst hi ry
        subst e
        cases r2
        obtain ⟨its, rv, p, _⟩ := I.list (SqL.of h1)
        exact fin pins s σ u _ I fun Q g => has_list p.isList (inC_of R hK I DEP rx r1 (by show X.A.units + 1 + 12 < cLine; omega) ra rv h) g
      exact ⟨fun pins s σ u u' I r1 r2 => (key pins s σ u u' I r1 r2).1, fun pins s σ u u' I r1 r2 => (key pins s σ u u' I r1 r2).2⟩
    · rename_i i ks hi
      split at h
      · rename_i k hk
        cases h
        obtain ⟨a, kvs, e, _, rk, hz⟩ := R.dct hi ry
        subst e
        have rd : Rd H a (.dK kvs) := by
          rcases hz with ⟨_, z⟩ | ⟨_, od, z⟩
          · exact .inl z
          · exact .inr ⟨od, z⟩
        have ek : v = kV k := by
          cases x with
          | int i => cases hk; cases rx; rfl
          | str z => cases hk; cases rx; rfl
          | _ => cases hk
        have g : DGet H a v (valV kvs k) := .inl ⟨kvs, k, rd, ek, rfl⟩
        have eb : (lookK k ks).isSome = (valV kvs k).isSome := by
          rcases KR.look (k := k) rk with ⟨z1, z2⟩ | ⟨u, v, z1, z2, _⟩
          · rw [z1, z2] <;> rfl
          · rw [z1, z2] <;> rfl
        rw [eb] at q q'
        refine ⟨fun pins s σ u u' I r1 r2 => ?_, fun pins s σ u u' I r1 r2 => ?_⟩
        · cases r2
          exact d_in (by omega) I g r1 fun s' I' => ⟨.bl _, H, I', rfl, q⟩
        · cases r2
          exact d_notIn (by omega) I g r1 fun s' I' => ⟨.bl _, H, I', rfl, q'⟩
      · cases h
    · cases h
  · cases h
end
section
variable {X : Cx} {S : Sta} {L : List Nat} {ι : List Addr} {G : Gp} {H : Hp}
theorem VR.isNon {x : U} {v : V} (r : VR S ι H x v) : decide (v = .non) = isNon x := by
  cases x with
  | non => cases r; rfl
  | bl _ => cases r; rfl
  | int _ => cases r; rfl
  | str _ => cases r; rfl
  | tup _ => obtain ⟨a, _, e, _⟩ := r; subst e; rfl
  | ref _ => obtain ⟨a, _, e⟩ := r; subst e; rfl
theorem cmpop_ok {op : CmpOp} (R : Rel S L ι G H) (hK : X.K = S.K) (hu : X.A.units + 32 < cLine) {x y : U} {v w : V} {b : Bool} (rx : VR S ι H x v) (ry : VR S ι H y w) (h : cmpop op x y G = some b) {Q : VK} (q : Q (.bl b) H) : wO X (compareOp op) v w H Q := by
  unfold cmpop at h
  split at h
  · exact fun pins s σ u u' I r1 r2 => eq_top R hK I 11 h rx ry r1 r2 (by omega) _ _ ⟨.bl _, H, I, rfl, q⟩
  · unfold neU at h
    split at h
    · rename_i hd
      cases e : eqU DEP G x y with
      | none => rw [e] at h; cases h
      | some c =>
        rw [e] at h
        cases h
        exact fun pins s σ u u' I r1 r2 => ne_top R hK I 11 e hd rx ry r1 r2 (by omega) _ _ ⟨.bl _, H, I, rfl, q⟩
    · cases h
  · split at h
    · cases h
      exact .of op_isN ⟨ry, by rw [rx.isNon]; exact q⟩
    · cases h
  · split at h
    · cases h
      exact .of op_notN ⟨ry, by rw [rx.isNon]; exact q⟩
    · cases h
  · exact (mem_ok (P' := fun _ => True) (Q' := fun _ _ => True) R hK hu rx ry h q trivial).1
  · cases e : memU G x y with
    | none => rw [e] at h; cases h
    | some c =>
      rw [e] at h
      cases h
      exact (mem_ok (P' := fun _ => True) (Q := fun _ _ => True) R hK hu rx ry e trivial q).2
  all_goals
    split at h
    · cases h
      first
      | exact .of op_lt ⟨_, _, rx, ry, q⟩
      | exact .of op_le ⟨_, _, rx, ry, q⟩
      | exact .of op_gt ⟨_, _, rx, ry, q⟩
      | exact .of op_ge ⟨_, _, rx, ry, q⟩
    · cases h
end
end PV
set_option Elab.async false
set_option linter.all false
set_option maxRecDepth 100000
set_option maxHeartbeats 1000000
/-! PyS2: subscripts, slices, builtins, methods of the built-in types: by values. -/
namespace PV
open PySem PySem.Spec L2
open PyProof.Rows (subscriptTail)
def wI (X : Cx) : R2 := fun x y H Q => ∀ (value slice : Expr) (pins : List (Addr × Obj)) (s : Shared) (σ : L2.St) (v u : Value), Inv X pins σ H s → RelV x v → RelV y u →
    subscripted slice false v u = operate [v, u] (getItem v u) → wpAny (model X.prog X.w) X.A (subscriptTail value slice v u) (EP X pins σ Q) X.xe s
theorem ix_w {X : Cx} : IxR X (wI X) := fun value slice pins s σ H x y v u Q I rx ry q hs => q value slice pins s σ v u I rx ry hs
theorem wI.of {X : Cx} {r : R2} {x y : V} {H : Hp} {Q : VK} (h : IxR X r) (q : r x y H Q) : wI X x y H Q := fun value slice pins s σ v u I rx ry hs => h value slice pins s σ H x y v u Q I rx ry q hs
def wSl (X : Cx) : V → Option Int → Option Int → Hp → VK → Prop := fun x lo hi H Q => ∀ (pins : List (Addr × Obj)) (s : Shared) (σ : L2.St) (v vl vu : Value) (sl : Addr), Inv X pins σ H s → RelV x v → s.heap.IsSliceOf sl vl vu .none → IsPart vl lo → IsPart vu hi →
    ∃ T id, typeLookup (.type T) "__getitem__" = pure (some (.builtin id)) ∧ s.TypeIs v T ∧ wpAny (model X.prog X.w) X.A (getItem v (.ref sl)) (EP X pins σ Q) X.xe s
theorem sl_w {X : Cx} : SlR X (wSl X) := fun pins s σ H x v vl vu lo hi sl Q I rx hs pl pu q => q pins s σ v vl vu sl I rx hs pl pu
theorem wSl.of {X : Cx} {r : V → Option Int → Option Int → Hp → VK → Prop} {x : V} {lo hi : Option Int} {H : Hp} {Q : VK} (h : SlR X r) (q : r x lo hi H Q) : wSl X x lo hi H Q := fun pins s σ v vl vu sl I rx hs pl pu => h pins s σ H x v vl vu lo hi sl Q I rx hs pl pu q
def wC (X : Cx) (f : Value) : List V → Hp → VK → Prop := fun xs H Q => ∀ (pins : List (Addr × Obj)) (s : Shared) (σ : L2.St) (us : List Value), Inv X pins σ H s → Vals xs us → wpAny (model X.prog X.w) X.A (call f us) (EP X pins σ Q) X.xe s
theorem cr_w {X : Cx} {f : Value} : CallR X f (wC X f) := fun pins s σ H xs us Q I r q => q pins s σ us I r
theorem wC.of {X : Cx} {f : Value} {r : List V → Hp → VK → Prop} {xs : List V} {H : Hp} {Q : VK} (h : CallR X f r) (q : r xs H Q) : wC X f xs H Q := fun pins s σ us I rr => h pins s σ H xs us Q I rr q
def wM (X : Cx) (id : String) : V → List V → Hp → VK → Prop := fun x xs H Q => ∀ (pins : List (Addr × Obj)) (s : Shared) (σ : L2.St) (v : Value) (us : List Value), Inv X pins σ H s → RelV x v → Vals xs us → wpAny (model X.prog X.w) X.A (call (.builtin id) (v :: us)) (EP X pins σ Q) X.xe s
theorem mt_w {X : Cx} {id : String} : MtR X id (wM X id) := fun pins s σ H x xs v us Q I rx rs q => q pins s σ v us I rx rs
theorem wM.of {X : Cx} {id : String} {r : V → List V → Hp → VK → Prop} {x : V} {xs : List V} {H : Hp} {Q : VK} (h : MtR X id r) (q : r x xs H Q) : wM X id x xs H Q := fun pins s σ v us I rx rs => h pins s σ H x xs v us Q I rx rs q
section
variable {X : Cx} {S : Sta} {C : Ctx} {L : List Nat} {ι : List Addr} {G : Gp} {H : Hp} {P : U → Gp → Prop} {E : KXc} {Q : VK}
theorem atI_len {α β : Type} {xs : List α} {ys : List β} (h : xs.length = ys.length) (R : α → β → Prop) (hr : ∀ (j : Nat) a, xs[j]? = some a → ∃ b, ys[j]? = some b ∧ R a b) {i : Int} {a : α} (e : atI xs i = some a) : ∃ b, atI ys i = some b ∧ R a b := by
  unfold atI at *
  rw [← h]
  cases q : ixN xs.length i with
  | none => rw [q] at e; cases e
  | some j =>
    rw [q] at e
    obtain ⟨b, h1, h2⟩ := hr j a e
    exact ⟨b, h1, h2⟩
theorem VRs.atI {us : List U} {vs : List V} (r : VRs S ι H us vs) {i : Int} {u : U} (e : L2.atI us i = some u) : ∃ v, L2.atI vs i = some v ∧ VR S ι H u v :=
  atI_len r.length.symm _ (fun j a h => r.get h) e
theorem keyOf_kV {x : U} {v : V} {k : Key} (h : keyOf x = some k) (r : VR S ι H x v) : v = kV k := by
  cases x with
  | int i => cases h; cases r; rfl
  | str z => cases h; cases r; rfl
  | _ => cases h
/-- a[b] -/
theorem subU_ok (R : Rel S L ι G H) (hK : X.K = S.K) (hu : X.A.units + 32 < cLine) {x y z : U} {v w : V} (rx : VR S ι H x v) (ry : VR S ι H y w) (h : subU G x y = some z) (q : ∀ u, VR S ι H z u → Q u H) : wI X v w H Q := by
  have dic : ∀ (r : Nat) (ks : List (Key × U)) (k : Key), x = .ref r → G[r]? = some (.dct ks) → w = kV k → lookK k ks = some z → wI X v w H Q := by
    intro r ks k ex hr ew el value slice pins s σ v' u' I rx' ry' hs
    subst ex
    obtain ⟨a, kvs, e, _, rk, hz⟩ := R.dct hr rx
    subst e
    have rd : Rd H a (.dK kvs) := by
      rcases hz with ⟨_, z⟩ | ⟨_, od, z⟩
      · exact .inl z
      · exact .inr ⟨od, z⟩
    rcases KR.look (k := k) rk with ⟨z1, _⟩ | ⟨u, v1, z1, z2, z3⟩
    · rw [el] at z1; cases z1
    · rw [el] at z1
      cases z1
      have g : DGet H a w (some v1) := .inl ⟨kvs, k, rd, ew, z2.symm⟩
      cases rx'
      exact PyProof.Rows.tail_any (dict_typeIs I g) PySem.F.slot_dict_getitem.lookup (d_getItem (by omega) I g ry' fun w' s' I' r' => ⟨v1, H, I', r', q _ z3⟩) hs
  unfold subU at h
  split at h
  · obtain ⟨a, vs, e, q1, r1⟩ := rx
    obtain ⟨u, e2, r2⟩ := r1.atI h
    exact .of ix_tup ⟨a, vs, _, u, e, ry, by rw [hK]; exact q1, e2, q u r2⟩
  · split at h
    · rename_i hz
      rename_i z' k
      cases e : L2.atI z'.cps.toList k with
      | none => rw [e] at h; cases h
      | some c =>
        rw [e] at h
        cases h
        exact .of ix_str ⟨_, _, c, rx, ry, lim_line hz, e, q _ rfl⟩
    · cases h
  · split at h
    · rename_i us hi
      obtain ⟨a, vs, e, _, q1, r1⟩ := R.lst hi rx
      obtain ⟨u, e2, r2⟩ := r1.atI h
      exact .of ix_list ⟨a, vs, _, u, e, ry, SqL.of q1, e2, q u r2⟩
    · rename_i ks hi
      exact dic _ ks (.inl _) rfl hi ry h
    · cases h
  · split at h
    · rename_i ks hi
      exact dic _ ks (.inr _) rfl hi ry h
    · cases h
  · cases h
theorem cut_rel {us : List U} {vs : List V} (r : VRs S ι H us vs) (lo hi : Option Int) : VRs S ι H (cut us lo hi) (cutV vs lo hi) := by
  unfold cut cutV
  rw [r.length]
  exact (r.drop _).take _
/-- a[lo:hi] -/
theorem slcU_ok (R : Rel S L ι G H) (hK : X.K = S.K) {x : U} {v : V} {lo hi : Option Int} (rx : VR S ι H x v) (h : Sat (slcU x lo hi G) P E) (k : OkK S L ι H P Q) : wSl X v lo hi H Q := by
  unfold slcU at h
  split at h
  · split at h
    · exact h.elim
    · rename_i hw
      obtain ⟨a, vs, e, q1, r1⟩ := rx
      exact .of sl_tup ⟨a, vs, e, by rw [hK]; exact q1, by rw [r1.length]; exact hw, fun p hp => R.newT hp (cut_rel r1 lo hi) k h⟩
  · split at h
    · rename_i hz
      exact .of sl_str ⟨_, rx, lim_line hz, k.same R h rfl⟩
    · exact h.elim
  · split at h
    · rename_i us hi'
      obtain ⟨a, vs, e, _, q1, r1⟩ := R.lst hi' rx
      exact .of sl_list ⟨a, vs, e, SqL.of q1, fun p hp => R.newL hp (cut_rel r1 lo hi) k h⟩
    · exact h.elim
  · exact h.elim
/-! ### builtins -/
theorem allBl_rel : ∀ {us : List U} {vs : List V} {bs : List Bool}, VRs S ι H us vs → allBl us = some bs → vs = bs.map V.bl
  | [], _, _, r, h => by
    have e : _ = [] := r
    cases h
    rw [e]
    rfl
  | u :: us, _, bs, r, h => by
    obtain ⟨v, vs, e, r1, r2⟩ := r
    cases u with
    | bl b =>
      cases q : allBl us with
      | none => simp only [allBl, q] at h; cases h
      | some cs =>
        simp only [allBl, q, Option.map_some] at h
        cases h
        rw [e, allBl_rel r2 q, r1.bl_]
        rfl
    | _ => cases h
theorem allStr_rel : ∀ {us : List U} {vs : List V} {bs : List Str}, VRs S ι H us vs → allStr us = some bs → vs = bs.map V.str
  | [], _, _, r, h => by
    have e : _ = [] := r
    cases h
    rw [e]
    rfl
  | u :: us, _, bs, r, h => by
    obtain ⟨v, vs, e, r1, r2⟩ := r
    cases u with
    | str b =>
      cases q : allStr us with
      | none => simp only [allStr, q] at h; cases h
      | some cs =>
        simp only [allStr, q, Option.map_some] at h
        cases h
        rw [e, allStr_rel r2 q, r1.str_]
        rfl
    | _ => cases h
theorem listAt_rel (R : Rel S L ι G H) {u : U} {v : V} {us : List U} (r : VR S ι H u v) (h : listAt G u = some us) : ∃ a vs, v = .ref a ∧ H a = some (.lst vs) ∧ VRs S ι H us vs := by
  unfold listAt at h
  split at h
  · split at h
    · rename_i ws hi
      cases h
      obtain ⟨a, vs, e, _, q1, r1⟩ := R.lst hi r
      exact ⟨a, vs, e, q1, r1⟩
    · cases h
  · cases h
theorem lenU_ok (R : Rel S L ι G H) (hK : X.K = S.K) {u : U} {v : V} {n : Nat} (r : VR S ι H u v) (h : lenU G u = some n) (q : Q (.int n) H) : wC X (.builtin "len") [v] H Q := by
  unfold lenU at h
  split at h
  · split at h
    · rename_i hz
      cases h
      cases r
      exact .of call_len ⟨_, _, rfl, ⟨lim_line hz, rfl⟩, q⟩
    · cases h
  · cases h
    obtain ⟨a, vs, e, q1, r1⟩ := r
    subst e
    exact .of call_len ⟨_, _, rfl, .inr ⟨vs, by rw [hK]; exact q1, r1.length.symm⟩, q⟩
  · split at h
    · rename_i us hi
      cases h
      obtain ⟨a, vs, e, _, q1, r1⟩ := R.lst hi r
      subst e
      exact .of call_len ⟨_, _, rfl, .inl ⟨vs, SqL.of q1, r1.length.symm⟩, q⟩
    · rename_i ks hi
      cases h
      obtain ⟨a, kvs, e, _, rk, hz⟩ := R.dct hi r
      subst e
      have rd : Rd H a (.dK kvs) := by
        rcases hz with ⟨_, z⟩ | ⟨_, od, z⟩
        · exact .inl z
        · exact .inr ⟨od, z⟩
      intro pins s σ us I rr
      obtain ⟨u, rfl, ru⟩ := rr.one
      cases ru
      rw [rk.length] at q
      exact d_len I rd fun t s' I' => ⟨.int _, H, I', ⟨t, rfl⟩, q⟩
    · cases h
  · cases h
/-- the built-in functions' values -/
def bifV : String → Option Value
  | "len" => some (.builtin "len")
  | "all" => some (.builtin "all")
  | "any" => some (.builtin "any")
  | "int" => some (.type "int")
  | _ => none
theorem bifU_ok {f : String} {fv : Value} {hot : Bool} (hf : bifV f = some fv) (R : Rel S L ι G H) (hK : X.K = S.K) (hh : hot = false → X.calm = true) {us : List U} {vs : List V} (r : VRs S ι H us vs) (h : Sat (bifU hot f us G) P E) (k : OkK S L ι H P Q) : wC X fv vs H Q := by
  unfold bifU at h
  split at h
  · exact h.elim
  rename_i hc
  split at h
  · cases hf
    obtain ⟨v, vs', e, r1, r2⟩ := r
    have e2 : _ = [] := r2
    subst e e2
    split at h
    · rename_i n hn
      exact lenU_ok R hK r1 hn (k.same R h rfl)
    · exact h.elim
  · cases hf
    have hcalm : X.calm = true := hh (by
      cases hot
      · rfl
      · exact absurd rfl hc)
    obtain ⟨v, vs', e, r1, r2⟩ := r
    have e2 : _ = [] := r2
    subst e e2
    split at h
    · rename_i bs hb
      cases ha : listAt G _ with
      | none => rw [ha] at hb; cases hb
      | some ws =>
        rw [ha] at hb
        obtain ⟨a, xs, e, q1, q2⟩ := listAt_rel R r1 ha
        have eb := allBl_rel q2 hb
        subst e eb
        exact .of (cr_all hcalm) ⟨a, bs, rfl, SqL.of q1, k.same R h rfl⟩
    · exact h.elim
  · cases hf
    have hcalm : X.calm = true := hh (by
      cases hot
      · rfl
      · exact absurd rfl hc)
    obtain ⟨v, vs', e, r1, r2⟩ := r
    have e2 : _ = [] := r2
    subst e e2
    split at h
    · rename_i bs hb
      cases ha : listAt G _ with
      | none => rw [ha] at hb; cases hb
      | some ws =>
        rw [ha] at hb
        obtain ⟨a, xs, e, q1, q2⟩ := listAt_rel R r1 ha
        have eb := allBl_rel q2 hb
        subst e eb
        exact .of (cr_any hcalm) ⟨a, bs, rfl, SqL.of q1, k.same R h rfl⟩
    · exact h.elim
  · cases hf
    obtain ⟨v, vs', e, r1, r2⟩ := r
    have e2 : _ = [] := r2
    subst e e2
    cases r1
    exact .of call_int1 (.inl ⟨_, rfl, k.same R h rfl⟩)
  · cases hf
    obtain ⟨v, vs', e, r1, r2⟩ := r
    have e2 : _ = [] := r2
    subst e e2
    cases r1
    exact .of call_int1 (.inr ⟨_, rfl, k.same R h rfl⟩)
  · exact h.elim
/-! ### isinstance -/
theorem kits (K : PySem.W.Frag) {a t : String} {b : Bool} (ht : bltT.contains t = true) (h : kitB a t = some b) : PySem.W.kitOne K (.type a) (.type t) = some b := kit_ty h
theorem isi_tab : ∀ t ∈ bltT, kitB "NoneType" t = some false ∧ kitB "bool" t = some (t == "bool" || t == "int") ∧ kitB "int" t = some (t == "int") ∧ kitB "str" t = some (t == "str") ∧ kitB "tuple" t = some (t == "tuple") ∧ kitB "list" t = some (t == "list") ∧ kitB "dict" t = some (t == "dict") := by decide +kernel
theorem tyX_sqT {K : PySem.W.Frag} {a : Addr} {vs : List V} (h : SqT K H a vs) : TyX K H (.ref a) (.type "tuple") := by
  rcases h with (h | ⟨o, h⟩) | ⟨o, its, n, h, hc, _⟩
  · exact .base (.tup h)
  · exact .fTuple h
  · exact .kTuple h hc
theorem isiB_ok (R : Rel S L ι G H) (hK : X.K = S.K) {u : U} {v : V} {t : String} {b : Bool} (r : VR S ι H u v) (h : isiB G u t = some b) (q : Q (.bl b) H) : wC X (.builtin "isinstance") [v, .ty t] H Q := by
  unfold isiB at h
  split at h
  case isFalse => cases h
  rename_i ht
  obtain ⟨t1, t2, t3, t4, t5, t6, t7⟩ := isi_tab t (by simpa using ht)
  have fin : ∀ a, TyX X.K H v (.type a) → kitB a t = some b → wC X (.builtin "isinstance") [v, .ty t] H Q := fun a ty e => .of call_isi ⟨v, .ty t, .type a, .type t, b, rfl, .ty t, ty, kit_ty e, q⟩
  split at h
  · cases h; cases r; exact fin "NoneType" (.base .non) t1
  · cases h; cases r; exact fin "bool" (.base (.bl _)) t2
  · cases h; cases r; exact fin "int" (.base (.int _)) t3
  · cases h; cases r; exact fin "str" (.base (.str _)) t4
  · cases h
    obtain ⟨a, vs, e, q1, r1⟩ := r
    subst e
    exact fin "tuple" (tyX_sqT (by rw [hK]; exact q1)) t5
  · split at h
    · rename_i us hi
      cases h
      obtain ⟨a, vs, e, _, q1, r1⟩ := R.lst hi r
      subst e
      exact fin "list" (.base (.lst q1)) t6
    · rename_i ks hi
      cases h
      obtain ⟨a, kvs, e, _, rk, hz⟩ := R.dct hi r
      subst e
      rcases hz with ⟨_, z⟩ | ⟨_, od, z⟩
      · exact fin "dict" (.base (.dK z)) t7
      · exact fin "dict" (.fDict z) t7
    · cases h
/-! ### methods of the built-in types -/
theorem bmT_ok {m T id : String} (hm : bmV m = some (T, id)) (R : Rel S L ι G H) {o : U} {v : V} (ro : VR S ι H o v) (h : bmT G o m = true) : tyV X.K T v H := by
  unfold bmT at h
  split at h
  · rename_i e
    rw [hm] at e
    cases e
    cases ro
    exact eq_of_beq h
  · rename_i e
    rw [hm] at e
    cases e
    split at h
    · rename_i xs hi
      obtain ⟨a, ys, e, hι, q1, r1⟩ := R.lst hi ro
      subst e
      exact .inl ⟨eq_of_beq h, ys, SqL.of q1⟩
    · cases h
  · cases h
theorem seqAt_rel (R : Rel S L ι G H) {u : U} {v : V} {us : List U} (r : VR S ι H u v) (h : seqAt G u = some us) : ∃ a vs, v = .ref a ∧ (H a = some (.lst vs) ∨ SqT S.K H a vs) ∧ VRs S ι H us vs := by
  unfold seqAt at h
  split at h
  · cases h
    obtain ⟨a, vs, e, q1, r1⟩ := r
    exact ⟨a, vs, e, .inr q1, r1⟩
  · obtain ⟨a, vs, e, q1, r1⟩ := listAt_rel R r h
    exact ⟨a, vs, e, .inl q1, r1⟩
theorem bmU_ok {m T id : String} (hm : bmV m = some (T, id)) (R : Rel S L ι G H) (hK : X.K = S.K) {o : U} {v : V} {us : List U} {vs : List V} (ro : VR S ι H o v) (r : VRs S ι H us vs) (h : Sat (bmU L o m us G) P E) (k : OkK S L ι H P Q) : wM X id v vs H Q := by
  unfold bmU at h
  split at h
  · cases hm
    split at h
    · rename_i xs hi
      split at h
      · rename_i hl
        obtain ⟨a, ys, e, hι, q1, r1⟩ := R.lst hi ro
        obtain ⟨w, vs', e', r2, r3⟩ := r
        have e2 : _ = [] := r3
        subst e e' e2
        refine .of mt_append ⟨a, ys, w, rfl, rfl, q1, by rw [r1.length]; exact lim_lt hl, ?_⟩
        have hx : Ext ι H ι (L2.upd H a (.lst (ys ++ [w]))) := Ext.write R hι hi q1 (fun _ _ z => nomatch z) ⟨ys, rfl, r1⟩
        exact k _ _ _ _ _ h hx (R.write hι hi hx ⟨_, rfl, r1.app (.one r2)⟩) rfl
      · exact h.elim
    · exact h.elim
  · cases hm
    obtain ⟨w, vs', e', r2, r3⟩ := r
    have e2 : _ = [] := r3
    subst e' e2
    cases ro
    split at h
    · rename_i ys hy
      split at h
      · rename_i hz
        cases ha : seqAt G _ with
        | none => rw [ha] at hy; cases hy
        | some ws =>
          rw [ha] at hy
          obtain ⟨a, xs, e, q1, q2⟩ := seqAt_rel R r2 ha
          have eb := allStr_rel q2 hy
          subst e eb
          refine .of mt_join ⟨_, a, ys, rfl, rfl, ?_, Nat.le_trans hz (by decide), k.same R h rfl⟩
          rcases q1 with q1 | q1
          · exact .inl (SqL.of q1)
          · exact .inr (by rw [hK]; exact q1)
      · exact h.elim
    · exact h.elim
  · cases hm
    have e2 : _ = [] := r
    subst e2
    cases ro
    split at h
    · rename_i hz
      exact .of mt_upper ⟨_, rfl, rfl, Nat.le_trans hz (by decide), k.same R h rfl⟩
    · exact h.elim
  · exact h.elim
end
end PV
set_option Elab.async false
set_option linter.all false
set_option maxRecDepth 100000
set_option maxHeartbeats 1000000
/-! PyS3: the expressions that call no def. -/
namespace PV
open PySem PySem.Spec L2
/-! ### what is seen of the text -/
def isStar : Expr → Bool
  | .Starred _ _ => true
  | _ => false
theorem star_cons {e : Expr} {es : List Expr} {env : PySem.Env} (h : isStar e = false) : starEach (e :: es) env = (false, eval e env) :: starEach es env := by
  cases e with
  | Starred _ _ => cases h
  | _ => rfl
theorem star_any : ∀ {es : List Expr} {env : PySem.Env} {pos : Pos}, (es.any isStar) = false → (backTo pos (starEach es env)).any (·.1) = false
  | [], _, _, _ => rfl
  | e :: es, env, pos, h => by
    rw [List.any_cons, Bool.or_eq_false_iff] at h
    rw [star_cons h.1]
    exact star_any (pos := pos) h.2
def isSl : Expr → Bool
  | .Slice _ _ _ _ => true
  | _ => false
theorem plainIx {b : Expr} (h : isSl b = false) : PlainIx b := fun o i => by
  cases b with
  | Slice _ _ _ _ => cases h
  | _ => rfl
def noSup : Expr → Bool
  | .Call (.Name _ _) [] [] _ => false
  | _ => true
theorem base_ok {o : Expr} {f : Str} {env : PySem.Env} (h : noSup o = true) : attributeBase o f env (eval o env) = eval o env := by
  cases o with
  | Call fn as ks p => cases fn with
    | Name _ _ => cases as with
      | nil => cases ks with
        | nil => cases h
        | cons _ _ => rfl
      | cons _ _ => rfl
    | _ => rfl
  | _ => rfl
def plainT : Expr → Bool
  | .UnaryOp .Not _ _ => false
  | .BoolOp _ _ _ => false
  | .IfExp _ _ _ _ => false
  | .Compare _ _ _ _ => false
  | _ => true
theorem plain_test {e : Expr} {env : PySem.Env} (h : plainT e = true) (whole : Sem Value) : PySem.isTrue e env whole = (do let v ← whole; standAt e.pos; holding [v] (PySem.truthy v)) := by
  cases e with
  | UnaryOp op _ _ => cases op with
    | Not => cases h
    | _ => rfl
  | BoolOp _ _ _ => cases h
  | IfExp _ _ _ _ => cases h
  | Compare _ _ _ _ => cases h
  | _ => rfl
def notSet : Expr → Bool
  | .Set _ _ _ => false
  | _ => true
theorem not_folded {e : Expr} {env : PySem.Env} (h : notSet e = true) (x : Value) : foldedSetIterable e env x = pure x := by
  cases e with
  | Set _ _ _ => cases h
  | _ => rfl
theorem not_marked {op : CmpOp} {b : Expr} (h : notSet b = true) : behindInMarks op b = false := by
  cases b with
  | Set _ _ _ => cases h
  | _ => rfl
theorem not_marks {op op' : CmpOp} {b c : Expr} (h : notSet c = true) : lastMarks [op, op'] [b, c] = false := not_marked h
def visB (sc : Scope) (z : Str) : Bool := match sc.names.lookup z with
  | some .local => true
  | some .cell => true
  | some .free => true
  | _ => false
theorem vis_of {sc : Scope} {z : Str} (h : visB sc z = true) : Vis sc z := by
  unfold visB at h
  unfold Vis
  split at h
  · exact .inl (by assumption)
  · exact .inr (.inl (by assumption))
  · exact .inr (.inr (by assumption))
  · cases h
def glB (sc : Scope) (z : Str) : Bool := match sc.names.lookup z with
  | some .globalImplicit => true
  | _ => false
theorem gl_of {X : Cx} {z : Str} (h : glB X.env.scope z = true) : Gl X z := by
  unfold glB at h
  unfold Gl Env.kindOf
  split at h
  · assumption
  · cases h
/-! ### tests of values -/
def wTr (X : Cx) : V → Hp → (Bool → Hp → Prop) → Prop := fun x H Q => ∀ (pins : List (Addr × Obj)) (s : Shared) (σ : L2.St) (v : Value), Inv X pins σ H s → RelV x v → wpAny (model X.prog X.w) X.A (PySem.truthy v) (TP X pins σ Q) X.xe s
theorem tr_w {X : Cx} : TruR X (wTr X) := fun pins s σ H x v Q I rx q => q pins s σ v I rx
theorem wTr.of {X : Cx} {r : V → Hp → (Bool → Hp → Prop) → Prop} {x : V} {H : Hp} {Q : Bool → Hp → Prop} (h : TruR X r) (q : r x H Q) : wTr X x H Q := fun pins s σ v I rx => h pins s σ H x v Q I rx q
section
variable {X : Cx} {S : Sta} {ht : Hot} {C : Ctx} {W : WX} {L : List Nat} {ι : List Addr} {G : Gp} {H : Hp} {P : U → Gp → Prop} {E : KXc} {pos : Pos}
theorem truthy_ok (R : Rel S L ι G H) (hK : X.K = S.K) {x : U} {v : V} {b : Bool} (rx : VR S ι H x v) (h : truthy G x = some b) {Q : Bool → Hp → Prop} (q : Q b H) : wTr X v H Q := by
  have fin : ∀ k, TruV X.K v H k → k = b → wTr X v H Q := fun k t e => .of tru_ok ⟨k, t, by rw [e]; exact q⟩
  unfold PV.truthy at h
  split at h
  · cases h; cases rx; exact fin _ rfl rfl
  · cases h; cases rx; exact fin _ rfl rfl
  · cases h; cases rx; exact fin _ rfl rfl
  · split at h
    · rename_i hl
      cases h
      cases rx
      refine fin _ ⟨lim_line hl, rfl⟩ ?_
      rename_i z
      rw [Bool.eq_iff_iff, bne_iff_ne, bne_iff_ne]
      omega
    · cases h
  · cases h
    obtain ⟨a, vs, e, q1, r1⟩ := rx
    subst e
    refine fin _ (.inr (.inl ⟨vs, by rw [hK]; exact q1, rfl⟩)) ?_
    rename_i us
    have := r1.length
    cases us <;> cases vs <;> simp_all
  · split at h
    · rename_i us hi
      cases h
      obtain ⟨a, vs, e, _, q1, r1⟩ := R.lst hi rx
      subst e
      refine fin _ (.inl ⟨vs, SqL.of q1, rfl⟩) ?_
      have := r1.length
      cases us <;> cases vs <;> simp_all
    · rename_i ks hi
      cases h
      obtain ⟨a, kvs, e, _, rk, hz⟩ := R.dct hi rx
      subst e
      have rd : Rd H a (.dK kvs) := by
        rcases hz with ⟨_, z⟩ | ⟨_, od, z⟩
        · exact .inl z
        · exact .inr ⟨od, z⟩
      intro pins s σ v I rv
      cases rv
      have el := rk.length
      have eb : (!ks.isEmpty) = !kvs.isEmpty := by cases ks <;> cases kvs <;> simp_all
      rw [eb] at q
      exact d_truth I rd fun s' I' => ⟨H, I', q⟩
    · cases h
/-- a value's test -/
theorem st_plain {e : Expr} {m : Ex} (hK : X.K = S.K) (hp : plainT e = true) (he : SE X S ht C W e m) : ST X S ht C W e (.e m) := by
  intro L ι G H d σ P E Q R En h k kx
  refine .of (pt_truthR pe_w tr_w (plain_test hp)) (he L ι G H d σ _ E _ R En h.bindD (fun x G1 v ι1 H1 h1 e1 R1 r1 => ?_) kx)
  obtain ⟨b, e2, hP⟩ := Sat.ofO h1
  exact truthy_ok R1 hK r1 e2 (k b G1 ι1 H1 hP e1 R1)
theorem st_not {e : Expr} {m : Ts} (he : ST X S ht C W e m) : ST X S ht C W (.UnaryOp .Not e pos) (.not m) := by
  intro L ι G H d σ P E Q R En h k kx
  exact .of (pt_not pt_w) (he L ι G H d σ _ E _ R En h.bindD (fun b G1 ι1 H1 h1 e1 R1 => k (!b) G1 ι1 H1 h1 e1 R1) kx)
/-! ### and, or as tests: whatever the whole is -/
def wW (X : Cx) (e : Expr) : TT := fun σ H Q => ∀ (whole : Sem Value) (pins : List (Addr × Obj)) (s : Shared), Inv X pins σ H s → wpAny (model X.prog X.w) X.A (PySem.isTrue e X.env whole) (TP X pins σ Q) X.xe s
theorem pw_w {e : Expr} : PW X e (wW X e) := ⟨fun whole pins s σ H Q I h => h whole pins s I⟩
theorem wW.of {e : Expr} {t : TT} {σ : L2.St} {H : Hp} {Q : Bool → Hp → Prop} (h : PW X e t) (q : t σ H Q) : wW X e σ H Q := fun whole pins s I => h.run whole pins s σ H Q I q
theorem wW.wT {e : Expr} {σ : L2.St} {H : Hp} {Q : Bool → Hp → Prop} (h : wW X e σ H Q) : wT X e σ H Q := fun _ pins s _ I => h _ pins s I
theorem OkB.ext {L : List Nat} {ι ι1 : List Addr} {H H1 : Hp} {P : Bool → Gp → Prop} {Q : Bool → Hp → Prop} (k : OkB S L ι H P Q) (e : Ext ι H ι1 H1) : OkB S L ι1 H1 P Q := fun b G1 ι2 H2 p e2 R => k b G1 ι2 H2 p (e.trans e2) R
/-- every one of them does what its fellow does -/
def STL (X : Cx) (S : Sta) (ht : Hot) (C : Ctx) (W : WX) : List Expr → List Ts → Prop
  | [], [] => True
  | e :: es, m :: ms => ST X S ht C W e m ∧ STL X S ht C W es ms
  | _, _ => False
theorem sw_and : ∀ {es : List Expr} {ms : List Ts}, STL X S ht C W es ms → ∀ {L : List Nat} {ι : List Addr} {G : Gp} {H : Hp} {d : Env} {σ : L2.St} {P : Bool → Gp → Prop} {E : KXc} {Q : Bool → Hp → Prop}, Rel S L ι G H → EnvR S ht ι H d σ → Sat (tstA C L true ms d G) P E → OkB S L ι H P Q → ExK S L ι H E (fun cls dd H' => W cls dd σ H') → wW X (.BoolOp .And es pos) σ H Q
  | [], [], _, _, _, _, _, _, _, _, _, _, _, _, h, _, _ => h.elim
  | [e], [m], hl, L, ι, G, H, d, σ, P, E, Q, R, En, h, k, kx => wW.of (pw_and1 pt_w) (hl.1 L ι G H d σ P E Q R En h k kx)
  | e :: e' :: es, m :: m' :: ms, hl, L, ι, G, H, d, σ, P, E, Q, R, En, h, k, kx => by
    refine wW.of (pw_and pt_w pw_w) (hl.1 L ι G H d σ _ E _ R En (Sat.bindD h) (fun c G1 ι1 H1 h1 e1 R1 => ?_) kx)
    cases c with
    | true => exact sw_and (es := e' :: es) (ms := m' :: ms) hl.2 R1 (En.mono e1) h1 (k.ext e1) (kx.ext e1)
    | false => exact k false G1 ι1 H1 h1 e1 R1
  | [], _ :: _, hl, _, _, _, _, _, _, _, _, _, _, _, _, _, _ => hl.elim
  | _ :: _, [], hl, _, _, _, _, _, _, _, _, _, _, _, _, _, _ => hl.elim
  | [_], _ :: _ :: _, hl, _, _, _, _, _, _, _, _, _, _, _, _, _, _ => hl.2.elim
  | _ :: _ :: _, [_], hl, _, _, _, _, _, _, _, _, _, _, _, _, _, _ => hl.2.elim
theorem sw_or : ∀ {es : List Expr} {ms : List Ts}, STL X S ht C W es ms → ∀ {L : List Nat} {ι : List Addr} {G : Gp} {H : Hp} {d : Env} {σ : L2.St} {P : Bool → Gp → Prop} {E : KXc} {Q : Bool → Hp → Prop}, Rel S L ι G H → EnvR S ht ι H d σ → Sat (tstA C L false ms d G) P E → OkB S L ι H P Q → ExK S L ι H E (fun cls dd H' => W cls dd σ H') → wW X (.BoolOp .Or es pos) σ H Q
  | [], [], _, _, _, _, _, _, _, _, _, _, _, _, h, _, _ => h.elim
  | [e], [m], hl, L, ι, G, H, d, σ, P, E, Q, R, En, h, k, kx => wW.of (pw_or1 pt_w) (hl.1 L ι G H d σ P E Q R En h k kx)
  | e :: e' :: es, m :: m' :: ms, hl, L, ι, G, H, d, σ, P, E, Q, R, En, h, k, kx => by
    refine wW.of (pw_or pt_w pw_w) (hl.1 L ι G H d σ _ E _ R En (Sat.bindD h) (fun c G1 ι1 H1 h1 e1 R1 => ?_) kx)
    cases c with
    | true => exact k true G1 ι1 H1 h1 e1 R1
    | false => exact sw_or (es := e' :: es) (ms := m' :: ms) hl.2 R1 (En.mono e1) h1 (k.ext e1) (kx.ext e1)
  | [], _ :: _, hl, _, _, _, _, _, _, _, _, _, _, _, _, _, _ => hl.elim
  | _ :: _, [], hl, _, _, _, _, _, _, _, _, _, _, _, _, _, _ => hl.elim
  | [_], _ :: _ :: _, hl, _, _, _, _, _, _, _, _, _, _, _, _, _, _ => hl.2.elim
  | _ :: _ :: _, [_], hl, _, _, _, _, _, _, _, _, _, _, _, _, _, _ => hl.2.elim
theorem st_and {es : List Expr} {ms : List Ts} (h : STL X S ht C W es ms) : ST X S ht C W (.BoolOp .And es pos) (.and ms) := fun L ι G H d σ P E Q R En q k kx => (sw_and h R En q k kx).wT
theorem st_or {es : List Expr} {ms : List Ts} (h : STL X S ht C W es ms) : ST X S ht C W (.BoolOp .Or es pos) (.or ms) := fun L ι G H d σ P E Q R En q k kx => (sw_or h R En q k kx).wT
/-! ### values -/
theorem se_nm {i : Nat} {z : Str} (hN : X.N[i]? = some z) (hv : visB X.env.scope z = true) (hd : (z == ("__debug__" : Str)) = false) (hcd : (z == ("__classdict__" : Str)) = false) : SE X S ht C W (.Name z pos) (.nm i) := by
  intro L ι G H d σ P E Q R En h k kx
  obtain ⟨u, e, hP⟩ := Sat.ofO h
  obtain ⟨v, e1, r⟩ := En.slot e
  exact .of (pe_var hN (vis_of hv) hd hcd) ⟨v, e1, k.same R hP r⟩
theorem se_cI {i : Int} {j : Nat} : SE X S ht C W (.Constant (.int i) j pos) (.cI i) := fun L ι G H d σ P E Q R En h k kx => .of pe_int (k.same R h rfl)
theorem se_cB {i : Bool} {j : Nat} : SE X S ht C W (.Constant (.bool i) j pos) (.cB i) := fun L ι G H d σ P E Q R En h k kx => .of pe_bl (k.same R h rfl)
theorem se_cN {j : Nat} : SE X S ht C W (.Constant .none j pos) .cN := fun L ι G H d σ P E Q R En h k kx => .of pe_non (k.same R h rfl)
theorem se_cS {z : String} {j : Nat} : SE X S ht C W (.Constant (.str (Str.ofString z)) j pos) (.cS z) := fun L ι G H d σ P E Q R En h k kx => .of pe_str (k.same R h rfl)
theorem se_gl {x : String} {u : U} {v : V} {uV : Value} {z : Str} (hg : glB X.env.scope z = true) (hm : X.mg z = some uV) (r : RelV v uV) (hv : ∀ ι H, VR S ι H u v) (hd : (z == ("__debug__" : Str)) = false) : SE X S ht C W (.Name z pos) (.gl x u) :=
  fun L ι G H d σ P E Q R En h k kx => .of (pe_glob (gl_of hg) hm r hd) (k.same R h (hv ι H))
theorem se_bin {op : Operator} {ea eb : Expr} {a b : Ex} (hK : X.K = S.K) (ha : SE X S ht C W ea a) (hb : SE X S ht C W eb b) : SE X S ht C W (.BinOp ea op eb pos) (.bin op a b) := by
  intro L ι G H d σ P E Q R En h k kx
  refine .of (pe_op op_w pe_w pe_w) (ha L ι G H d σ _ E _ R En h.bindD (fun x G1 v ι1 H1 h1 e1 R1 r1 => ?_) kx)
  refine hb L ι1 G1 H1 d σ _ E _ R1 (En.mono e1) h1.bindD (fun y G2 w ι2 H2 h2 e2 R2 r2 => ?_) (kx.ext e1)
  exact binop_ok R2 hK (r1.mono e2) r2 h2 (k.ext (e1.trans e2))
theorem se_neg {ea : Expr} {a : Ex} (ha : SE X S ht C W ea a) : SE X S ht C W (.UnaryOp .USub ea pos) (.neg a) := by
  intro L ι G H d σ P E Q R En h k kx
  refine .of (pe_un un_neg pe_w) (ha L ι G H d σ _ E _ R En h.bindD (fun x G1 v ι1 H1 h1 e1 R1 r1 => ?_) kx)
  cases x with
  | int i => exact ⟨i, r1, k _ _ _ _ _ h1 e1 R1 rfl⟩
  | _ => exact h1.elim
theorem se_cmp {op : CmpOp} {ea eb : Expr} {a b : Ex} (hK : X.K = S.K) (hu : X.A.units + 32 < cLine) (hs : notSet eb = true) (ha : SE X S ht C W ea a) (hb : SE X S ht C W eb b) : SE X S ht C W (.Compare ea [op] [eb] pos) (.cmp op a b) := by
  intro L ι G H d σ P E Q R En h k kx
  refine .of (pe_cmpR op_w pe_w pe_w (not_marked hs)) (ha L ι G H d σ _ E _ R En h.bindD (fun x G1 v ι1 H1 h1 e1 R1 r1 => ?_) kx)
  refine hb L ι1 G1 H1 d σ _ E _ R1 (En.mono e1) h1.bindD (fun y G2 w ι2 H2 h2 e2 R2 r2 => ?_) (kx.ext e1)
  obtain ⟨z, e3, hP⟩ := Sat.ofO h2
  cases q : cmpop op x y G2 with
  | none => rw [q] at e3; cases e3
  | some c =>
    rw [q] at e3
    cases e3
    exact cmpop_ok R2 hK hu (r1.mono e2) r2 q (k _ _ _ _ _ hP (e1.trans e2) R2 rfl)
theorem st_cmp {op : CmpOp} {ea eb : Expr} {a b : Ex} (hK : X.K = S.K) (hu : X.A.units + 32 < cLine) (hs : notSet eb = true) (ha : SE X S ht C W ea a) (hb : SE X S ht C W eb b) : ST X S ht C W (.Compare ea [op] [eb] pos) (.e (.cmp op a b)) := by
  intro L ι G H d σ P E Q R En h k kx
  refine .of (pt_cmpR op_w pe_w pe_w (not_marked hs)) (ha L ι G H d σ _ E _ R En h.bindD.bindD (fun x G1 v ι1 H1 h1 e1 R1 r1 => ?_) kx)
  refine hb L ι1 G1 H1 d σ _ E _ R1 (En.mono e1) (Sat.bindD h1) (fun y G2 w ι2 H2 h2 e2 R2 r2 => ?_) (kx.ext e1)
  obtain ⟨z, e3, hP⟩ := Sat.ofO h2
  cases q : cmpop op x y G2 with
  | none => rw [q] at e3; cases e3
  | some c =>
    rw [q] at e3
    cases e3
    obtain ⟨c', e4, hP⟩ := Sat.ofO hP
    cases e4
    exact cmpop_ok R2 hK hu (r1.mono e2) r2 q ⟨c, rfl, k _ _ _ _ hP (e1.trans e2) R2⟩
theorem se_cmp2 {op op' : CmpOp} {ea eb ec : Expr} {a b c : Ex} (hK : X.K = S.K) (hu : X.A.units + 32 < cLine) (hs : notSet ec = true) (ha : SE X S ht C W ea a) (hb : SE X S ht C W eb b) (hc : SE X S ht C W ec c) : SE X S ht C W (.Compare ea [op, op'] [eb, ec] pos) (.cmp2 op op' a b c) := by
  intro L ι G H d σ P E Q R En h k kx
  refine .of (pe_chain op_w op_w pe_w pe_w pe_w (not_marks hs)) (ha L ι G H d σ _ E _ R En h.bindD (fun x G1 v ι1 H1 h1 e1 R1 r1 => ?_) kx)
  refine hb L ι1 G1 H1 d σ _ E _ R1 (En.mono e1) h1.bindD (fun y G2 w ι2 H2 h2 e2 R2 r2 => ?_) (kx.ext e1)
  cases q : cmpop op x y G2 with
  | none => rw [q] at h2; exact h2.elim
  | some t =>
    rw [q] at h2
    refine cmpop_ok R2 hK hu (r1.mono e2) r2 q ⟨t, rfl, ?_⟩
    cases t with
    | false => exact k _ _ _ _ _ h2 (e1.trans e2) R2 rfl
    | true =>
      refine hc L ι2 G2 H2 d σ _ E _ R2 (En.mono (e1.trans e2)) (Sat.bindD h2) (fun z G3 w3 ι3 H3 h3 e3 R3 r3 => ?_) (kx.ext (e1.trans e2))
      obtain ⟨z', e4, hP⟩ := Sat.ofO h3
      cases q' : cmpop op' y z G3 with
      | none => rw [q'] at e4; cases e4
      | some t' =>
        rw [q'] at e4
        cases e4
        exact cmpop_ok R3 hK hu (r2.mono e3) r3 q' (k _ _ _ _ _ hP ((e1.trans e2).trans e3) R3 rfl)
theorem st_cmp2 {op op' : CmpOp} {ea eb ec : Expr} {a b c : Ex} (hK : X.K = S.K) (hu : X.A.units + 32 < cLine) (hs : notSet ec = true) (ha : SE X S ht C W ea a) (hb : SE X S ht C W eb b) (hc : SE X S ht C W ec c) : ST X S ht C W (.Compare ea [op, op'] [eb, ec] pos) (.e (.cmp2 op op' a b c)) := by
  intro L ι G H d σ P E Q R En h k kx
  refine .of (pt_chain op_w op_w pe_w pe_w pe_w (not_marks hs)) (ha L ι G H d σ _ E _ R En h.bindD.bindD (fun x G1 v ι1 H1 h1 e1 R1 r1 => ?_) kx)
  refine hb L ι1 G1 H1 d σ _ E _ R1 (En.mono e1) (Sat.bindD h1) (fun y G2 w ι2 H2 h2 e2 R2 r2 => ?_) (kx.ext e1)
  cases q : cmpop op x y G2 with
  | none => rw [q] at h2; exact h2.elim
  | some t =>
    rw [q] at h2
    refine cmpop_ok R2 hK hu (r1.mono e2) r2 q ⟨t, rfl, ?_⟩
    cases t with
    | false =>
      have h2' : Sat (Res.ofO (truthy G2 (.bl false)) G2) P E := h2
      obtain ⟨c', e4, hP⟩ := Sat.ofO h2'
      cases e4
      exact ⟨false, rfl, k _ _ _ _ hP (e1.trans e2) R2⟩
    | true =>
      refine hc L ι2 G2 H2 d σ _ E _ R2 (En.mono (e1.trans e2)) (Sat.bindD h2) (fun z G3 w3 ι3 H3 h3 e3 R3 r3 => ?_) (kx.ext (e1.trans e2))
      obtain ⟨z', e4, hP⟩ := Sat.ofO h3
      cases q' : cmpop op' y z G3 with
      | none => rw [q'] at e4; cases e4
      | some t' =>
        rw [q'] at e4
        cases e4
        obtain ⟨c', e5, hP⟩ := Sat.ofO hP
        cases e5
        exact cmpop_ok R3 hK hu (r2.mono e3) r3 q' ⟨t', rfl, k _ _ _ _ hP ((e1.trans e2).trans e3) R3⟩
/-- every one of them does what its fellow does -/
def SEL (X : Cx) (S : Sta) (ht : Hot) (C : Ctx) (W : WX) : List Expr → List Ex → Prop
  | [], [] => True
  | e :: es, m :: ms => SE X S ht C W e m ∧ SEL X S ht C W es ms
  | _, _ => False
theorem se_and : ∀ {es : List Expr} {ms : List Ex}, SEL X S ht C W es ms → SE X S ht C W (.BoolOp .And es pos) (.and ms)
  | [], [], _ => fun L ι G H d σ P E Q R En h k kx => (show False from h).elim
  | [e], [m], hl => fun L ι G H d σ P E Q R En h k kx => .of (pe_one pe_w) (hl.1 L ι G H d σ P E Q R En h k kx)
  | e :: e' :: es, m :: m' :: ms, hl => fun L ι G H d σ P E Q R En h k kx => by
    have ih := se_and (es := e' :: es) (ms := m' :: ms) hl.2
    refine .of (pe_and pe_w pe_w) (hl.1 L ι G H d σ _ E _ R En (Sat.bindD h) (fun x G1 v ι1 H1 h1 e1 R1 r1 => ?_) kx)
    cases x with
    | bl t => cases t with
      | true => exact ⟨true, r1, ih L ι1 G1 H1 d σ P E Q R1 (En.mono e1) h1 (k.ext e1) (kx.ext e1)⟩
      | false => exact ⟨false, r1, k _ _ _ _ _ h1 e1 R1 rfl⟩
    | _ => exact (show False from h1).elim
  | [], _ :: _, hl => hl.elim
  | _ :: _, [], hl => hl.elim
  | [_], _ :: _ :: _, hl => hl.2.elim
  | _ :: _ :: _, [_], hl => hl.2.elim
theorem se_or : ∀ {es : List Expr} {ms : List Ex}, SEL X S ht C W es ms → SE X S ht C W (.BoolOp .Or es pos) (.or ms)
  | [], [], _ => fun L ι G H d σ P E Q R En h k kx => (show False from h).elim
  | [e], [m], hl => fun L ι G H d σ P E Q R En h k kx => .of (pe_one pe_w) (hl.1 L ι G H d σ P E Q R En h k kx)
  | e :: e' :: es, m :: m' :: ms, hl => fun L ι G H d σ P E Q R En h k kx => by
    have ih := se_or (es := e' :: es) (ms := m' :: ms) hl.2
    refine .of (pe_or pe_w pe_w) (hl.1 L ι G H d σ _ E _ R En (Sat.bindD h) (fun x G1 v ι1 H1 h1 e1 R1 r1 => ?_) kx)
    cases x with
    | bl t => cases t with
      | true => exact ⟨true, r1, k _ _ _ _ _ h1 e1 R1 rfl⟩
      | false => exact ⟨false, r1, ih L ι1 G1 H1 d σ P E Q R1 (En.mono e1) h1 (k.ext e1) (kx.ext e1)⟩
    | _ => exact (show False from h1).elim
  | [], _ :: _, hl => hl.elim
  | _ :: _, [], hl => hl.elim
  | [_], _ :: _ :: _, hl => hl.2.elim
  | _ :: _ :: _, [_], hl => hl.2.elim
theorem se_not {ea : Expr} {a : Ex} (ha : SE X S ht C W ea a) : SE X S ht C W (.UnaryOp .Not ea pos) (.not a) := by
  intro L ι G H d σ P E Q R En h k kx
  refine .of (pe_not pe_w) (ha L ι G H d σ _ E _ R En h.bindD (fun x G1 v ι1 H1 h1 e1 R1 r1 => ?_) kx)
  cases x with
  | bl t => exact ⟨t, r1, k _ _ _ _ _ h1 e1 R1 rfl⟩
  | _ => exact h1.elim
theorem se_ife {ec ea eb : Expr} {c : Ts} {a b : Ex} (hc : ST X S ht C W ec c) (ha : SE X S ht C W ea a) (hb : SE X S ht C W eb b) : SE X S ht C W (.IfExp ec ea eb pos) (.ife c a b) := by
  intro L ι G H d σ P E Q R En h k kx
  refine .of (pe_ifExp pt_w pe_w pe_w) (hc L ι G H d σ _ E _ R En h.bindD (fun t G1 ι1 H1 h1 e1 R1 => ?_) kx)
  cases t with
  | true => exact ha L ι1 G1 H1 d σ P E Q R1 (En.mono e1) h1 (k.ext e1) (kx.ext e1)
  | false => exact hb L ι1 G1 H1 d σ P E Q R1 (En.mono e1) h1 (k.ext e1) (kx.ext e1)
/-! ### lists of expressions -/
theorem OkA.ext {L : List Nat} {ι ι1 : List Addr} {H H1 : Hp} {P : List U → Gp → Prop} {Q : List V → Hp → Prop} (k : OkA S L ι H P Q) (e : Ext ι H ι1 H1) : OkA S L ι1 H1 P Q := fun b G1 vs ι2 H2 p e2 R r => k b G1 vs ι2 H2 p (e.trans e2) R r
theorem sa_nil : SA X S ht C W [] [] := fun L ι G H d σ P E Q R En h k kx => .of pa_nil (k [] G [] ι H h (Ext.refl _ _) R rfl)
theorem sa_cons {e : Expr} {es : List Expr} {m : Ex} {ms : List Ex} (hs : isStar e = false) (he : SE X S ht C W e m) (hr : SA X S ht C W es ms) : SA X S ht C W (e :: es) (m :: ms) := by
  intro L ι G H d σ P E Q R En h k kx
  refine .of (pa_cons pe_w pa_w (star_cons hs)) (he L ι G H d σ _ E _ R En h.bindD (fun x G1 v ι1 H1 h1 e1 R1 r1 => ?_) kx)
  refine hr L ι1 G1 H1 d σ _ E _ R1 (En.mono e1) h1.bindD (fun us G2 vs ι2 H2 h2 e2 R2 r2 => ?_) (kx.ext e1)
  exact k _ _ _ _ _ h2 (e1.trans e2) R2 ⟨v, vs, rfl, r1.mono e2, r2⟩
theorem SEL.sa : ∀ {es : List Expr} {ms : List Ex}, SEL X S ht C W es ms → es.any isStar = false → SA X S ht C W es ms
  | [], [], _, _ => sa_nil
  | e :: es, m :: ms, hl, h => by
    rw [List.any_cons, Bool.or_eq_false_iff] at h
    exact sa_cons h.1 hl.1 (SEL.sa hl.2 h.2)
  | [], _ :: _, hl, _ => hl.elim
  | _ :: _, [], hl, _ => hl.elim
theorem SEL.len : ∀ {es : List Expr} {ms : List Ex}, SEL X S ht C W es ms → es.length = ms.length
  | [], [], _ => rfl
  | e :: es, m :: ms, hl => by rw [List.length_cons, List.length_cons, SEL.len hl.2]
  | [], _ :: _, hl => hl.elim
  | _ :: _, [], hl => hl.elim
theorem evs_len {C : Ctx} {L : List Nat} : ∀ {ms : List Ex} {d : Env} {G : Gp} {P : List U → Gp → Prop} {E : KXc}, Sat (evs C L ms d G) P E → Sat (evs C L ms d G) (fun us G1 => us.length = ms.length ∧ P us G1) E
  | [], _, _, _, _, h => ⟨rfl, h⟩
  | m :: ms, d, G, P, E, h => by
    have h1 : Sat (ev C L m d G) (fun u G1 => Sat ((evs C L ms d G1).bind fun us G2 => .ok (u :: us) G2) P E) E := Sat.bindD h
    show Sat ((ev C L m d G).bind fun u G1 => (evs C L ms d G1).bind fun us G2 => .ok (u :: us) G2) _ _
    rw [Sat.bind_eq]
    refine h1.mono (fun u G1 h2 => ?_) fun _ _ _ x => x
    rw [Sat.bind_eq]
    exact (evs_len (Sat.bindD h2)).mono (fun us G2 h3 => ⟨by rw [List.length_cons, List.length_cons, h3.1], h3.2⟩) fun _ _ _ x => x
theorem se_tup {es : List Expr} {ms : List Ex} {j : Nat} (hl : ms.length ≤ 1000) (h : SA X S ht C W es ms) : SE X S ht C W (.Tuple es j pos) (.tup ms) := by
  intro L ι G H d σ P E Q R En hh k kx
  refine .of (pe_tup pa_w) (h L ι G H d σ _ E _ R En (evs_len hh.bindD) (fun us G1 vs ι1 H1 h1 e1 R1 r1 => ?_) kx)
  refine ⟨by rw [r1.length, h1.1]; exact lim_line (Nat.le_trans hl (by decide)), fun p hp => R1.newT hp r1 (k.ext e1) h1.2⟩
theorem se_lst {es : List Expr} {ms : List Ex} (hl : ms.length ≤ 1000) (h : SA X S ht C W es ms) : SE X S ht C W (.List es pos) (.lst ms) := by
  intro L ι G H d σ P E Q R En hh k kx
  refine .of (pe_lst pa_w) (h L ι G H d σ _ E _ R En (evs_len hh.bindD) (fun us G1 vs ι1 H1 h1 e1 R1 r1 => ?_) kx)
  refine ⟨by rw [r1.length, h1.1]; exact lim_line (Nat.le_trans hl (by decide)), fun p hp => R1.newL hp r1 (k.ext e1) h1.2⟩
/-! ### parts of values -/
theorem se_sub {ea eb : Expr} {a b : Ex} (hK : X.K = S.K) (hu : X.A.units + 32 < cLine) (hs : isSl eb = false) (ha : SE X S ht C W ea a) (hb : SE X S ht C W eb b) : SE X S ht C W (.Subscript ea eb pos) (.sub a b) := by
  intro L ι G H d σ P E Q R En h k kx
  refine .of (pe_ix ix_w pe_w pe_w (plainIx hs)) (ha L ι G H d σ _ E _ R En h.bindD (fun x G1 v ι1 H1 h1 e1 R1 r1 => ?_) kx)
  refine hb L ι1 G1 H1 d σ _ E _ R1 (En.mono e1) h1.bindD (fun y G2 w ι2 H2 h2 e2 R2 r2 => ?_) (kx.ext e1)
  obtain ⟨z, e3, hP⟩ := Sat.ofO h2
  exact subU_ok R2 hK hu (r1.mono e2) r2 e3 fun u r => k _ _ _ _ _ hP (e1.trans e2) R2 r
def SO (X : Cx) (S : Sta) (ht : Hot) (C : Ctx) (W : WX) (e : Option Expr) (m : Option Ex) : Prop :=
  ∀ (L : List Nat) (ι : List Addr) (G : Gp) (H : Hp) (d : Env) (σ : L2.St) (P : Option Int → Gp → Prop) (E : KXc) (Q : Option Int → Hp → Prop), Rel S L ι G H → EnvR S ht ι H d σ → Sat (evo C L m d G) P E →
    (∀ o G1 ι1 H1, P o G1 → Ext ι H ι1 H1 → Rel S L ι1 G1 H1 → Q o H1) → ExK S L ι H E (fun cls dd H' => W cls dd σ H') → ∃ t, PO X e t ∧ t σ H Q
theorem so_none : SO X S ht C W none none := fun L ι G H d σ P E Q R En h k kx => ⟨_, po_none, k none G ι H h (Ext.refl _ _) R⟩
theorem so_some {e : Expr} {m : Ex} (he : SE X S ht C W e m) : SO X S ht C W (some e) (some m) := by
  intro L ι G H d σ P E Q R En h k kx
  refine ⟨_, po_some pe_w, he L ι G H d σ _ E _ R En h.bindD (fun x G1 v ι1 H1 h1 e1 R1 r1 => ?_) kx⟩
  cases x with
  | int i => exact ⟨i, r1, k _ _ _ _ h1 e1 R1⟩
  | _ => exact h1.elim
end
end PV
set_option Elab.async false
set_option linter.all false
set_option maxRecDepth 100000
set_option maxHeartbeats 1000000
/-! PyS4: slices, attributes, builtins, methods, dict displays. -/
namespace PV
open PySem PySem.Spec L2
def wPO (X : Cx) (e : Option Expr) : TO := fun σ H Q => ∀ (pins : List (Addr × Obj)) (s : Shared), Inv X pins σ H s → wpAny (model X.prog X.w) X.A (evalPart e X.env) (fun u s' => ∃ o H', Inv X pins σ H' s' ∧ IsPart u o ∧ Q o H') X.xe s
theorem po_w {X : Cx} {e : Option Expr} : PO X e (wPO X e) := ⟨fun pins s σ H Q I q => q pins s I⟩
section
variable {X : Cx} {S : Sta} {ht : Hot} {C : Ctx} {W : WX} {L : List Nat} {ι : List Addr} {G : Gp} {H : Hp} {P : U → Gp → Prop} {E : KXc} {pos : Pos}
theorem SO.w {e : Option Expr} {m : Option Ex} (h : SO X S ht C W e m) {d : Env} {σ : L2.St} {P : Option Int → Gp → Prop} {Q : Option Int → Hp → Prop} (R : Rel S L ι G H) (En : EnvR S ht ι H d σ) (hs : Sat (evo C L m d G) P E)
    (k : ∀ o G1 ι1 H1, P o G1 → Ext ι H ι1 H1 → Rel S L ι1 G1 H1 → Q o H1) (kx : ExK S L ι H E (fun cls dd H' => W cls dd σ H')) : wPO X e σ H Q := by
  obtain ⟨t, h1, h2⟩ := h L ι G H d σ P E Q R En hs k kx
  exact fun pins s I => h1.run pins s σ H Q I h2
theorem se_slc {ea : Expr} {el eh : Option Expr} {a : Ex} {lo hi : Option Ex} {p2 : Pos} (hK : X.K = S.K) (ha : SE X S ht C W ea a) (hl : SO X S ht C W el lo) (hh : SO X S ht C W eh hi) : SE X S ht C W (.Subscript ea (.Slice el eh none p2) pos) (.slc a lo hi) := by
  intro L ι G H d σ P E Q R En h k kx
  refine .of (pe_slice sl_w pe_w po_w po_w) (ha L ι G H d σ _ E _ R En h.bindD (fun x G1 v ι1 H1 h1 e1 R1 r1 => ?_) kx)
  refine hl.w R1 (En.mono e1) (Sat.bindD h1) (fun o G2 ι2 H2 h2 e2 R2 => ?_) (kx.ext e1)
  refine hh.w R2 (En.mono (e1.trans e2)) (Sat.bindD h2) (fun o' G3 ι3 H3 h3 e3 R3 => ?_) (kx.ext (e1.trans e2))
  exact slcU_ok R3 hK (r1.mono (e2.trans e3)) h3 (k.ext ((e1.trans e2).trans e3))
/-! ### attributes -/
theorem ofString_inj {a b : String} (h : Str.ofString a = Str.ofString b) : a = b := by
  rw [Str.ofString_eq_toList, Str.ofString_eq_toList, Str.mk.injEq] at h
  have h2 : a.toList.map Char.toNat = b.toList.map Char.toNat := by simpa using congrArg Array.toList h
  exact String.toList_inj.mp ((List.map_inj_right fun c d e => Char.ext (UInt32.toNat_inj.mp e)).mp h2)
theorem FR.look {f : String} : ∀ {fs : List (String × U)} {vs : List (Str × V)} {u : U}, FR S ι H fs vs → fs.lookup f = some u → ∃ v, vs.lookup (Str.ofString f) = some v ∧ VR S ι H u v
  | [], _, _, _, h => by cases h
  | (g, w) :: fs, _, u, r, h => by
    obtain ⟨v, r', e, r1, r2⟩ := r
    rw [e]
    rw [List.lookup_cons] at h ⊢
    by_cases q : f = g
    · subst q
      simp only [beq_self_eq_true] at h ⊢
      cases h
      exact ⟨v, rfl, r1⟩
    · have q1 : (f == g) = false := beq_eq_false_iff_ne.mpr q
      have q2 : (Str.ofString f == Str.ofString g) = false := beq_eq_false_iff_ne.mpr fun z => q (ofString_inj z)
      rw [q1] at h
      rw [q2]
      exact FR.look r2 h
theorem se_attr {ea : Expr} {a : Ex} {f : String} (hb : noSup ea = true) (hc : ∀ c ∈ S.cls, Cls X.K (S.ca c) ∧ NoAttr X.K (S.ca c) (Str.ofString f)) (ha : SE X S ht C W ea a) : SE X S ht C W (.Attribute ea (Str.ofString f) pos) (.attr a f) := by
  intro L ι G H d σ P E Q R En h k kx
  refine .of (pe_fld pe_w (base_ok hb)) (ha L ι G H d σ _ E _ R En h.bindD (fun x G1 v ι1 H1 h1 e1 R1 r1 => ?_) kx)
  obtain ⟨z, e2, hP⟩ := Sat.ofO h1
  unfold attrU at e2
  split at e2
  · split at e2
    · rename_i c fs hi
      obtain ⟨a, dx, fvs, e, _, q1, rf, hm⟩ := R1.ins hi r1
      obtain ⟨v', e3, r3⟩ := rf.look e2
      exact ⟨a, _, dx, fvs, v', e, q1, (hc c hm).1, (hc c hm).2, e3, k _ _ _ _ _ hP e1 R1 r3⟩
    · cases e2
  · cases e2
/-! ### builtins -/
theorem se_bif {f : String} {fv : Value} {z : Str} {p : Pos} {e : Expr} {es : List Expr} {ms : List Ex} (hf : bifV f = some fv) (hz : z = Str.ofString f) (hg : glB X.env.scope z = true) (hm : X.mg z = none) (hK : X.K = S.K) (hcalm : C.hot = false → X.calm = true) (hst : (e :: es).any isStar = false)
    (ha : SA X S ht C W (e :: es) ms) : SE X S ht C W (.Call (.Name z p) (e :: es) [] pos) (.bif f ms) := by
  intro L ι G H d σ P E Q R En h k kx
  rw [List.any_cons, Bool.or_eq_false_iff] at hst
  have key : ∀ t, PE X (.Call (.Name z p) (e :: es) [] pos) (tCB (wC X fv) t) → t = wA X (e :: es) → wE X (.Call (.Name z p) (e :: es) [] pos) σ H Q := fun t hp et => by
    subst et
    refine .of hp (ha L ι G H d σ _ E _ R En h.bindD (fun us G1 vs ι1 H1 h1 e1 R1 r1 => ?_) kx)
    exact bifU_ok hf R1 hK hcalm r1 h1 (k.ext e1)
  subst hz
  unfold bifV at hf
  split at hf
  · cases hf
    exact key _ (pe_callB cr_w (gl_of hg) hm (by decide +kernel) pa_w (by decide +kernel) (by decide +kernel) (star_cons hst.1) (star_any hst.2)) rfl
  · cases hf
    exact key _ (pe_callB cr_w (gl_of hg) hm (by decide +kernel) pa_w (by decide +kernel) (by decide +kernel) (star_cons hst.1) (star_any hst.2)) rfl
  · cases hf
    exact key _ (pe_callB cr_w (gl_of hg) hm (by decide +kernel) pa_w (by decide +kernel) (by decide +kernel) (star_cons hst.1) (star_any hst.2)) rfl
  · cases hf
    exact key _ (pe_callTy cr_w (gl_of hg) hm (by decide +kernel) pa_w (by decide +kernel) (by decide +kernel) (star_cons hst.1) (star_any hst.2)) rfl
  · cases hf
theorem boot_ty : ∀ t ∈ bltT, bootBuiltins (Str.ofString t) = some (.type t) ∧ Str.ofString t ≠ "__name__" ∧ (Str.ofString t == ("__debug__" : Str)) = false := by decide +kernel
theorem se_isi {t : String} {z y : Str} {p p' : Pos} {e : Expr} {m : Ex} (ht' : bltT.contains t = true) (hz : z = "isinstance") (hy : y = Str.ofString t) (hg : glB X.env.scope z = true) (hm : X.mg z = none) (hg' : glB X.env.scope y = true) (hm' : X.mg y = none) (hK : X.K = S.K) (hst : isStar e = false)
    (ha : SE X S ht C W e m) : SE X S ht C W (.Call (.Name z p) [e, .Name y p'] [] pos) (.isi m t) := by
  subst hz hy
  obtain ⟨b1, b2, b3⟩ := boot_ty t (by simpa using ht')
  intro L ι G H d σ P E Q R En h k kx
  refine .of (pe_callB (id := "isinstance") cr_w (gl_of hg) hm (by decide +kernel) (pa_cons pe_w (pa_cons (pe_bltn (v := .ty t) (gl_of hg') hm' b1 rfl b2 b3) pa_nil rfl) (star_cons hst)) (by decide +kernel) (by decide +kernel) (star_cons hst) rfl) (ha L ι G H d σ _ E _ R En h.bindD (fun x G1 v ι1 H1 h1 e1 R1 r1 => ?_) kx)
  obtain ⟨z, e2, hP⟩ := Sat.ofO h1
  cases q : isiB G1 x t with
  | none => rw [q] at e2; cases e2
  | some b =>
    rw [q] at e2
    cases e2
    exact isiB_ok R1 hK r1 q (k _ _ _ _ _ hP e1 R1 rfl)
/-! ### methods of the built-in types -/
def few (es : List Expr) : Bool := decide (es.length + 0 + 0 < 30)
theorem few_ok {es : List Expr} {env : PySem.Env} {pos : Pos} (h : few es = true) (hs : es.any isStar = false) : ((backTo pos (starEach es env)).all (fun x => !x.1) && (backToKw pos (keywordEach [] env)).all (fun x => x.1.isSome) && decide (es.length + ([] : List Keyword).length + (if ([] : List Keyword).isEmpty then 0 else 1) < 30)) = true := by
  have h1 : (backTo pos (starEach es env)).all (fun x => !x.1) = true := by
    have := star_any (env := env) (pos := pos) hs
    rw [List.all_eq_not_any_not, Bool.not_eq_true']
    simpa using this
  rw [h1]
  exact h
theorem se_bm {m T id : String} {z : Str} {ap : Pos} {o e : Expr} {es : List Expr} {mo : Ex} {ms : List Ex} (hm : bmV m = some (T, id)) (hz : z = Str.ofString m) (hK : X.K = S.K) (hb : noSup o = true) (hline : (ap.endLine == pos.line) = true) (hfew : few (e :: es) = true) (hst : (e :: es).any isStar = false)
    (ho : SE X S ht C W o mo) (ha : SA X S ht C W (e :: es) ms) : SE X S ht C W (.Call (.Attribute o z ap) (e :: es) [] pos) (.bm mo m ms) := by
  intro L ι G H d σ P E Q R En h k kx
  have hst' := hst
  rw [List.any_cons, Bool.or_eq_false_iff] at hst
  subst hz
  have key : ∀ t, PE X (.Call (.Attribute o (Str.ofString m) ap) (e :: es) [] pos) (tBM X.K T (wM X id) (wE X o) t) → t = wA X (e :: es) → wE X (.Call (.Attribute o (Str.ofString m) ap) (e :: es) [] pos) σ H Q := fun t hp et => by
    subst et
    refine .of hp (ho L ι G H d σ _ E _ R En h.bindD (fun x G1 v ι1 H1 h1 e1 R1 r1 => ?_) kx)
    split at h1
    · rename_i hbt
      refine ⟨bmT_ok hm R1 r1 hbt, ha L ι1 G1 H1 d σ _ E _ R1 (En.mono e1) (Sat.bindD h1) (fun us G2 vs ι2 H2 h2 e2 R2 r2 => ?_) (kx.ext e1)⟩
      exact bmU_ok hm R2 hK (r1.mono e2) r2 h2 (k.ext (e1.trans e2))
    · exact h1.elim
  unfold bmV at hm
  split at hm
  · cases hm
    exact key _ (pe_bm PySem.F.plainAttrs_list PySem.F.slot_list_append PySem.F.type_list_append mt_w pe_w pa_w (base_ok hb) (few_ok hfew hst') hline (star_cons hst.1) (star_any hst.2)) rfl
  · cases hm
    exact key _ (pe_bm PySem.F.plainAttrs_str PySem.F.slot_str_join PySem.F.type_str_join mt_w pe_w pa_w (base_ok hb) (few_ok hfew hst') hline (star_cons hst.1) (star_any hst.2)) rfl
  · cases hm
    exact key _ (pe_bm PySem.F.plainAttrs_str PySem.F.slot_str_upper PySem.F.type_str_upper mt_w pe_w pa_w (base_ok hb) (few_ok hfew hst') hline (star_cons hst.1) (star_any hst.2)) rfl
  · cases hm
theorem se_bm0 {m T id : String} {z : Str} {ap : Pos} {o : Expr} {mo : Ex} (hm : bmV m = some (T, id)) (hz : z = Str.ofString m) (hK : X.K = S.K) (hb : noSup o = true) (hline : (ap.endLine == pos.line) = true)
    (ho : SE X S ht C W o mo) : SE X S ht C W (.Call (.Attribute o z ap) [] [] pos) (.bm mo m []) := by
  intro L ι G H d σ P E Q R En h k kx
  subst hz
  have key : PE X (.Call (.Attribute o (Str.ofString m) ap) [] [] pos) (tBM0 X.K T (wM X id) (wE X o)) → wE X (.Call (.Attribute o (Str.ofString m) ap) [] [] pos) σ H Q := fun hp => by
    refine .of hp (ho L ι G H d σ _ E _ R En h.bindD (fun x G1 v ι1 H1 h1 e1 R1 r1 => ?_) kx)
    split at h1
    · rename_i hbt
      have h2 : Sat (bmU L x m [] G1) P E := h1
      exact ⟨bmT_ok hm R1 r1 hbt, bmU_ok hm R1 hK r1 (us := []) (vs := []) rfl h2 (k.ext e1)⟩
    · exact h1.elim
  unfold bmV at hm
  split at hm
  · cases hm
    exact key (pe_bm0 PySem.F.plainAttrs_list PySem.F.slot_list_append PySem.F.type_list_append mt_w pe_w (base_ok hb) hline)
  · cases hm
    exact key (pe_bm0 PySem.F.plainAttrs_str PySem.F.slot_str_join PySem.F.type_str_join mt_w pe_w (base_ok hb) hline)
  · cases hm
    exact key (pe_bm0 PySem.F.plainAttrs_str PySem.F.slot_str_upper PySem.F.type_str_upper mt_w pe_w (base_ok hb) hline)
  · cases hm
/-! ### dict displays -/
def trsOf (X : Cx) : List (Option Expr) → List Expr → List (TE × TE)
  | some k :: ks, v :: vs => (wE X k, wE X v) :: trsOf X ks vs
  | _, _ => []
def shaped : List (Option Expr) → List Expr → Bool
  | [], [] => true
  | some _ :: ks, _ :: vs => shaped ks vs
  | _, _ => false
theorem pps_of {p : Pos} : ∀ {ks : List (Option Expr)} {vs : List Expr}, shaped ks vs = true → PPs X p ks vs (trsOf X ks vs)
  | [], [], _ => pps_nil
  | some k :: ks, v :: vs, h => pps_cons pe_w pe_w (pps_of h)
  | [], _ :: _, h => by cases h
  | none :: _, _, h => by cases h
  | some _ :: _, [], h => by cases h
theorem shaped_all : ∀ {ks : List (Option Expr)} {vs : List Expr}, shaped ks vs = true → ks.all (·.isSome) = true ∧ ks.length = vs.length
  | [], [], _ => ⟨rfl, rfl⟩
  | some k :: ks, v :: vs, h => by
    obtain ⟨h1, h2⟩ := shaped_all (ks := ks) (vs := vs) h
    exact ⟨by rw [List.all_cons, h1]; rfl, by rw [List.length_cons, List.length_cons, h2]⟩
  | [], _ :: _, h => by cases h
  | none :: _, _, h => by cases h
  | some _ :: _, [], h => by cases h
/-- the pairs of a display -/
def SP' (X : Cx) (S : Sta) (ht : Hot) (C : Ctx) (W : WX) (ks : List (Option Expr)) (vs : List Expr) (ms : List Ex) : Prop :=
  ∀ (L : List Nat) (ι : List Addr) (G : Gp) (H : Hp) (d : Env) (σ : L2.St) (P : List (Key × U) → Gp → Prop) (E : KXc) (Q : List (V × V) → Hp → Prop), Rel S L ι G H → EnvR S ht ι H d σ → Sat (evp C L ms d G) P E →
    (∀ r G1 kvs ι1 H1, P r G1 → Ext ι H ι1 H1 → Rel S L ι1 G1 H1 → KR S ι1 H1 r kvs → r.length = ks.length → Q (kvs.map fun kv => (kV kv.1, kv.2)) H1) → ExK S L ι H E (fun cls dd H' => W cls dd σ H') → tPairs (trsOf X ks vs) σ H Q
theorem sp_nil : SP' X S ht C W [] [] [] := fun L ι G H d σ P E Q R En h k kx => k [] G [] ι H h (Ext.refl _ _) R rfl rfl
theorem sp_cons {ek ev : Expr} {ks : List (Option Expr)} {vs : List Expr} {mk mv : Ex} {ms : List Ex} (hk : SE X S ht C W ek mk) (hv : SE X S ht C W ev mv) (hr : SP' X S ht C W ks vs ms) : SP' X S ht C W (some ek :: ks) (ev :: vs) (mk :: mv :: ms) := by
  intro L ι G H d σ P E Q R En h k kx
  refine hk L ι G H d σ _ E _ R En (Sat.bindD h) (fun x G1 v ι1 H1 h1 e1 R1 r1 => ?_) kx
  refine hv L ι1 G1 H1 d σ _ E _ R1 (En.mono e1) (Sat.bindD h1) (fun u G2 w ι2 H2 h2 e2 R2 r2 => ?_) (kx.ext e1)
  refine hr L ι2 G2 H2 d σ _ E _ R2 (En.mono (e1.trans e2)) (Sat.bindD h2) (fun r G3 kvs ι3 H3 h3 e3 R3 r3 l3 => ?_) (kx.ext (e1.trans e2))
  cases q : keyOf x with
  | none => rw [q] at h3; exact h3.elim
  | some y =>
    rw [q] at h3
    have := k _ _ ((y, w) :: kvs) ι3 H3 h3 ((e1.trans e2).trans e3) R3 ⟨w, kvs, rfl, r2.mono e3, r3⟩ (by rw [List.length_cons, List.length_cons, l3])
    rw [keyOf_kV q r1]
    exact this
theorem KR.app {ks ls : List (Key × U)} {vs xs : List (Key × V)} (h : KR S ι H ks vs) (q : KR S ι H ls xs) : KR S ι H (ks ++ ls) (vs ++ xs) := by
  induction ks generalizing vs with
  | nil =>
    have e : vs = [] := h
    rw [e]
    exact q
  | cons p ks ih =>
    obtain ⟨k, u⟩ := p
    obtain ⟨v, r, h1, h2, h3⟩ := h
    rw [h1]
    exact ⟨v, r ++ xs, rfl, h2, ih h3⟩
theorem KR.repl {k : Key} {u : U} {v : V} (q : VR S ι H u v) : ∀ {ks : List (Key × U)} {vs : List (Key × V)}, KR S ι H ks vs → KR S ι H (ks.map fun kv => if kv.1 = k then (k, u) else kv) (vs.map fun kv => if kv.1 = k then (kv.1, v) else kv)
  | [], _, h => by
    have e : _ = [] := h
    rw [e]
    rfl
  | (k', w) :: ks, _, h => by
    obtain ⟨x, r, h1, h2, h3⟩ := h
    rw [h1, List.map_cons, List.map_cons]
    by_cases e : k' = k
    · subst e
      simp only [if_true]
      exact ⟨v, _, rfl, q, KR.repl q h3⟩
    · simp only [e, if_false]
      exact ⟨x, _, rfl, h2, KR.repl q h3⟩
theorem KR.put {ks : List (Key × U)} {kvs : List (Key × V)} {k : Key} {u : U} {v : V} (h : KR S ι H ks kvs) (q : VR S ι H u v) : KR S ι H (PV.putK ks k u) (L2.putK kvs k v) := by
  unfold PV.putK L2.putK
  have e : (ks.any fun kv => decide (kv.1 = k)) = kvs.any fun kv => decide (kv.1 = k) := by
    have h1 : (ks.any fun kv => decide (kv.1 = k)) = (ks.map (·.1)).any fun y => decide (y = k) := by rw [List.any_map]; rfl
    have h2 : (kvs.any fun kv => decide (kv.1 = k)) = (kvs.map (·.1)).any fun y => decide (y = k) := by rw [List.any_map]; rfl
    rw [h1, h2, h.keys]
  rw [e]
  by_cases c : (kvs.any fun kv => decide (kv.1 = k)) = true
  · rw [if_pos c, if_pos c]
    exact h.repl q
  · rw [if_neg c, if_neg c]
    exact h.app ⟨v, [], rfl, q, rfl⟩
theorem KR.merge : ∀ {r : List (Key × U)} {rs : List (Key × V)} {ks : List (Key × U)} {kvs : List (Key × V)}, KR S ι H r rs → KR S ι H ks kvs → KR S ι H (r.foldl (fun a p => PV.putK a p.1 p.2) ks) (L2.mergeK kvs rs)
  | [], _, _, _, h, q => by
    have e : _ = [] := h
    rw [e]
    exact q
  | (k, u) :: r, _, ks, kvs, h, q => by
    obtain ⟨v, rs, e, h1, h2⟩ := h
    rw [e]
    exact KR.merge (r := r) (rs := rs) h2 (q.put (k := k) h1)
theorem se_dct {ks : List (Option Expr)} {vs : List Expr} {ms : List Ex} (hs : shaped ks vs = true) (h15 : ks.length ≤ 15) (hp : SP' X S ht C W ks vs ms) : SE X S ht C W (.Dict ks vs pos) (.dct ms) := by
  intro L ι G H d σ P E Q R En h k kx
  unfold ev at h
  split at h
  case isFalse => exact h.elim
  have newD : ∀ p, H p = none → Rel S L (ι ++ [p]) (G ++ [.dct []]) (L2.upd H p (.dK [])) := fun p hp => R.app (c := .dct []) hp ⟨[], rfl, .inl ⟨fun z => Nat.lt_irrefl _ (R.lk _ z), rfl⟩⟩
  have fin : ∀ (p : Addr) (r : List (Key × U)) (G1 : Gp) (kvs : List (Key × V)) (ι1 : List Addr) (H1 : Hp), H p = none → Sat (match G1[G.length]? with
      | some (.dct []) => Res.ok (.ref G.length) (G1.set G.length (.dct (r.foldl (fun a p => PV.putK a p.1 p.2) [])))
      | _ => .bad) P E → Ext (ι ++ [p]) (L2.upd H p (.dK [])) ι1 H1 → Rel S L ι1 G1 H1 → KR S ι1 H1 r kvs → H1 p = some (.dK []) ∧ Q (.ref p) (L2.upd H1 p (.dK (L2.mergeK [] kvs))) := by
    intro p r G1 kvs ι1 H1 hp h1 e1 R1 r1
    have gp : ι1[G.length]? = some p := e1.get (get_app R.len)
    split at h1
    · rename_i hg
      obtain ⟨a, kvs0, e, g1, rk, hz⟩ := R1.dct hg ⟨p, gp, rfl⟩
      cases e
      have ek : kvs0 = [] := rk
      subst ek
      have hz' : H1 p = some (.dK []) := by
        rcases hz with ⟨_, z⟩ | ⟨z, _⟩
        · exact z
        · exact absurd (R.lk _ z) (Nat.lt_irrefl _)
      have hn : G.length ∉ L := fun z => Nat.lt_irrefl _ (R.lk _ z)
      have hx : Ext ι1 H1 ι1 (L2.upd H1 p (.dK (L2.mergeK [] kvs))) := Ext.write R1 gp hg hz' (fun _ _ z => nomatch z) ⟨[], rfl, .inl ⟨hn, rfl⟩⟩
      refine ⟨hz', ?_⟩
      exact k _ _ _ _ _ h1 (((Ext.app hp).trans e1).trans hx) (R1.write gp hg hx ⟨_, KR.merge r1 rfl, .inl ⟨hn, rfl⟩⟩) ⟨p, gp, rfl⟩
    · exact h1.elim
  by_cases hk : ks = []
  · subst hk
    have ev : vs = [] := by cases vs with
      | nil => rfl
      | cons _ _ => cases hs
    subst ev
    refine .of pe_dnewK fun p hp' => ?_
    have h0 := hp L (ι ++ [p]) (G ++ [.dct []]) (L2.upd H p (.dK [])) d σ _ E (fun ps H1 => H1 p = some (.dK []) ∧ Q (.ref p) (L2.upd H1 p (.dK (L2.mergeK [] (ps.filterMap fun _ => none))))) (newD p hp') (En.mono (Ext.app hp')) h.bindD (fun r G1 kvs ι1 H1 h1 e1 R1 r1 l1 => ?_) (kx.ext (Ext.app hp'))
    · have h2 := h0.2
      have e : L2.upd (L2.upd H p (.dK [])) p (.dK []) = L2.upd H p (.dK []) := by
        funext b
        unfold L2.upd
        by_cases q : b = p
        · simp only [q, if_true]
        · simp only [q, if_false]
      rw [← e]
      exact h2
    · have er : kvs = [] := by
        have := r1.length
        rw [l1] at this
        exact List.eq_nil_of_length_eq_zero this.symm
      subst er
      exact fin p r G1 [] ι1 H1 hp' h1 e1 R1 r1
  · refine .of (pe_disp (pps_of hs) (shaped_all hs).1 (shaped_all hs).2 hk h15) fun p hp' => ?_
    refine hp L (ι ++ [p]) (G ++ [.dct []]) (L2.upd H p (.dK [])) d σ _ E _ (newD p hp') (En.mono (Ext.app hp')) h.bindD (fun r G1 kvs ι1 H1 h1 e1 R1 r1 l1 => ?_) (kx.ext (Ext.app hp'))
    obtain ⟨z1, z2⟩ := fin p r G1 kvs ι1 H1 hp' h1 e1 R1 r1
    exact ⟨z1, kvs, rfl, by rw [← r1.length, l1]; exact h15, z2⟩
end
end PV
set_option Elab.async false
set_option linter.all false
set_option maxRecDepth 100000
set_option maxHeartbeats 1000000
/-! PyLc: targets, what is walked, list comprehensions. -/
namespace PV
open PySem PySem.Spec L2
/-! ### targets -/
mutual
def gOf (K : PySem.W.Frag) : Tg → TG
  | .nm i => gName i
  | .tup ts => gTup K ts.length (gsOf K ts)
def gsOf (K : PySem.W.Frag) : List Tg → TGs
  | [] => gNil
  | t :: ts => gCons (gOf K t) (gsOf K ts)
end
mutual
def okG (N : List Str) (sc : Scope) (cell : Str → Bool) : Tg → Expr → Bool
  | .nm i, .Name x _ => decide (N[i]? = some x) && (match sc.names.lookup x with
    | some .local => true
    | some .cell => cell x
    | _ => false)
  | .tup ts, .Tuple es _ _ => decide (es.length = ts.length) && okGs N sc cell ts es
  | _, _ => false
def okGs (N : List Str) (sc : Scope) (cell : Str → Bool) : List Tg → List Expr → Bool
  | [], [] => true
  | t :: ts, e :: es => okG N sc cell t e && okGs N sc cell ts es
  | _, _ => false
end
def Tg.slots : Tg → List Nat
  | .nm i => [i]
  | .tup ts => slotss ts
where slotss : List Tg → List Nat
  | [] => []
  | t :: ts => t.slots ++ slotss ts
section
variable {X : Cx} {S : Sta} {ht : Hot} {C : Ctx} {W : WX} {L : List Nat} {ι : List Addr} {G : Gp} {H : Hp} {P : U → Gp → Prop} {E : KXc} {pos : Pos}
theorem okG_star {N : List Str} {sc : Scope} {cell : Str → Bool} {t : Tg} {e : Expr} (h : okG N sc cell t e = true) : (∃ x p, e = .Name x p) ∨ ∃ es k p, e = .Tuple es k p := by
  cases t with
  | nm i => cases e with
    | Name x p => exact .inl ⟨_, _, rfl⟩
    | _ => cases h
  | tup ts => cases e with
    | Tuple es k p => exact .inr ⟨_, _, _, rfl⟩
    | _ => cases h
mutual
theorem pg_of {cell : Str → Bool} (hc : X.calm = true) (hN : X.N.Nodup) (hcell : ∀ x, cell x = true → X.fn x = true) : ∀ (t : Tg) (e : Expr), okG X.N X.env.scope cell t e = true → PG X e (gOf X.K t)
  | .nm i, e, h => by
    cases e with
    | Name x p =>
      have h' : (decide (X.N[i]? = some x) && (match X.env.scope.names.lookup x with
        | some .local => true
        | some .cell => cell x
        | _ => false)) = true := h
      rw [Bool.and_eq_true, decide_eq_true_eq] at h'
      obtain ⟨h1, h2⟩ := h'
      split at h2
      · rename_i hl
        exact pg_name hN h1 (.inl hl) (.inr hl)
      · rename_i hl
        exact pg_name hN h1 (.inr hl) (.inl (hcell _ h2))
      · cases h2
    | _ => cases h
  | .tup ts, e, h => by
    cases e with
    | Tuple es k p =>
      have h' : (decide (es.length = ts.length) && okGs X.N X.env.scope cell ts es) = true := h
      rw [Bool.and_eq_true, decide_eq_true_eq] at h'
      obtain ⟨n1, n2, n3⟩ := pgs_of hc hN hcell ts es h'.2
      exact pg_tup hc n1 (n2.trans h'.1) n3
    | _ => cases h
theorem pgs_of {cell : Str → Bool} (hc : X.calm = true) (hN : X.N.Nodup) (hcell : ∀ x, cell x = true → X.fn x = true) : ∀ (ts : List Tg) (es : List Expr), okGs X.N X.env.scope cell ts es = true → PGs X es (gsOf X.K ts) ∧ (assignEach es X.env).length = es.length ∧ (assignEach es X.env).findIdx? (·.1) = none
  | [], [], _ => ⟨pgs_nil, rfl, rfl⟩
  | t :: ts, e :: es, h => by
    unfold okGs at h
    rw [Bool.and_eq_true] at h
    obtain ⟨n1, n2, n3⟩ := pgs_of hc hN hcell ts es h.2
    have g := pg_of hc hN hcell t e h.1
    rcases okG_star h.1 with ⟨x, p, e1⟩ | ⟨es', k, p, e1⟩
    · subst e1
      refine ⟨pgs_cons g n1 rfl, ?_, ?_⟩
      · show (_ :: assignEach es X.env).length = _
        rw [List.length_cons, n2, List.length_cons]
      · show List.findIdx? _ (_ :: assignEach es X.env) = none
        rw [List.findIdx?_cons, n3]
        rfl
    · subst e1
      refine ⟨pgs_cons g n1 rfl, ?_, ?_⟩
      · show (_ :: assignEach es X.env).length = _
        rw [List.length_cons, n2, List.length_cons]
      · show List.findIdx? _ (_ :: assignEach es X.env) = none
        rw [List.findIdx?_cons, n3]
        rfl
  | [], _ :: _, h => by cases h
  | _ :: _, [], h => by cases h
end
theorem wipe_in {σ : L2.St} {i : Nat} : ∀ {vs : List Nat}, i ∈ vs → (wipe σ vs)[i]? = if i < σ.length then some none else none
  | [], h => by cases h
  | v :: vs, h => by
    show ((wipe σ vs).set v none)[i]? = _
    by_cases e : v = i
    · subst e
      rw [List.getElem?_set]
      simp [wipe_length]
    · rw [List.getElem?_set_ne e]
      rcases List.mem_cons.mp h with h | h
      · exact absurd h.symm e
      · exact wipe_in h
mutual
theorem asg_ok {K : PySem.W.Frag} (hK : K = S.K) : ∀ (t : Tg) {u : U} {v : V} {d d1 : Env} {σ : L2.St} {Q : L2.St → Hp → Prop}, EnvR S ht ι H d σ → VR S ι H u v → asg t u d = some d1 → (∀ σ1, EnvR S ht ι H d1 σ1 → (∀ vs : List Nat, (∀ i ∈ t.slots, i ∈ vs) → wipe σ1 vs = wipe σ vs) → Q σ1 H) → gOf K t v σ H Q
  | .nm i, u, v, d, d1, σ, Q, En, r, h, q => by
    unfold asg at h
    split at h
    · rename_i hi
      cases h
      refine q _ (En.set hi r) fun vs hv => ?_
      have hm : i ∈ vs := hv i (List.mem_singleton.mpr rfl)
      refine List.ext_getElem? fun j => ?_
      by_cases hj : j ∈ vs
      · rw [wipe_in hj, wipe_in hj]
        simp
      · rw [wipe_out hj, wipe_out hj]
        rw [List.getElem?_set_ne fun z => hj (by rw [← z]; exact hm)]
    · cases h
  | .tup ts, u, v, d, d1, σ, Q, En, r, h, q => by
    cases u with
    | tup us =>
      obtain ⟨a, vs, e, q1, r1⟩ := r
      have hl : ts.length = us.length := asgs_len h
      exact ⟨a, vs, e, by rw [hK]; exact q1, by rw [r1.length, hl], asgs_ok hK ts En r1 h q⟩
    | _ => cases h
theorem asgs_ok {K : PySem.W.Frag} (hK : K = S.K) : ∀ (ts : List Tg) {us : List U} {vs : List V} {d d1 : Env} {σ : L2.St} {Q : L2.St → Hp → Prop}, EnvR S ht ι H d σ → VRs S ι H us vs → asg.asgs ts us d = some d1 → (∀ σ1, EnvR S ht ι H d1 σ1 → (∀ ws : List Nat, (∀ i ∈ Tg.slots.slotss ts, i ∈ ws) → wipe σ1 ws = wipe σ ws) → Q σ1 H) → gsOf K ts vs σ H Q
  | [], us, vs, d, d1, σ, Q, En, r, h, q => by
    cases us with
    | nil =>
      cases h
      have e : vs = [] := r
      exact ⟨e, q σ En fun _ _ => rfl⟩
    | cons _ _ => cases h
  | t :: ts, us, vs, d, d1, σ, Q, En, r, h, q => by
    cases us with
    | nil => cases h
    | cons u us =>
      obtain ⟨v, vs', e, r1, r2⟩ := r
      have h' : ((asg t u d).bind fun d1 => asg.asgs ts us d1) = some d1 := h
      cases hd : asg t u d with
      | none => rw [hd] at h'; cases h'
      | some d2 =>
        rw [hd] at h'
        refine ⟨v, vs', e, asg_ok hK t En r1 hd fun σ1 En1 w1 => ?_⟩
        refine asgs_ok hK ts En1 r2 h' fun σ2 En2 w2 => q σ2 En2 fun ws hw => ?_
        have a1 : ∀ i ∈ t.slots, i ∈ ws := fun i hi => hw i (List.mem_append.mpr (.inl hi))
        have a2 : ∀ i ∈ Tg.slots.slotss ts, i ∈ ws := fun i hi => hw i (List.mem_append.mpr (.inr hi))
        rw [w2 ws a2, w1 ws a1]
theorem asgs_len : ∀ {ts : List Tg} {us : List U} {d d1 : Env}, asg.asgs ts us d = some d1 → ts.length = us.length
  | [], [], _, _, _ => rfl
  | t :: ts, u :: us, d, d1, h => by
    have h' : ((asg t u d).bind fun d1 => asg.asgs ts us d1) = some d1 := h
    cases hd : asg t u d with
    | none => rw [hd] at h'; cases h'
    | some d2 =>
      rw [hd] at h'
      rw [List.length_cons, List.length_cons, asgs_len (ts := ts) h']
  | [], _ :: _, _, _, h => by cases h
  | _ :: _, [], _, _, h => by cases h
end
end
end PV
set_option Elab.async false
set_option linter.all false
set_option maxRecDepth 100000
set_option maxHeartbeats 1000000
/-! PyEn: for i, x in enumerate(a tuple). -/
namespace PV
open PySem PySem.Spec L2
theorem newEnum {v : Value} {o : Obj} {Hy : Heap → Prop} (B : Begins v o Hy) : Meets (Builtin.«enumerate.__new__» ⟨[.type "enumerate", v], []⟩) (fun _ R s => Hy s.heap ∧
      R (.ok (.ret (.ref (s.heap.push o).objs.size))) { s with heap := (s.heap.push o).push { cls := .type "enumerate", data := .fields #[.none, .bool false, .ref s.heap.objs.size, rawInt 0, .none, .none] } }) :=
  .of_wp fun prog w A R s h => by
    obtain ⟨hp, g, d, tk, os⟩ := s
    obtain ⟨h1, h⟩ := h
    have hsub := sub_enumerate
    have it : ∀ {A' : Around} {E : Value → Shared → Prop} {Q : Value → Shared → Prop}, Q (.ref hp.objs.size) ⟨hp.push o, g, d, tk, os⟩ → wpAny (model prog w) A' (pyIter v) Q E ⟨hp, g, d, tk, os⟩ := fun q => B.iter prog w _ _ ⟨hp, g, d, tk, os⟩ _ h1 q
    wp_walk using it
    refine wpAny_stack_any fun st => wpAny_pure ?_
    split
    · rename_i c _ _ _ _ _
      cases (c == Value.type "enumerate") <;>
        (wp_walk using it
         exact ⟨_, rfl, h⟩)
    · wp_walk using it
      exact ⟨_, rfl, h⟩
section
variable {prog : Program} {w : World} {A : Around} {E : Value → Shared → Prop} {s : Shared}
theorem call_enum1 {v : Value} {o : Obj} {Hy : Heap → Prop} {Q : Value → Shared → Prop} (B : Begins v o Hy) (h1 : Hy s.heap)
    (h : ∀ h', IsEnum h' (s.heap.objs.size + 1) s.heap.objs.size 0 .none → h'.get? s.heap.objs.size = some o → (∀ b o, s.heap.get? b = some o → h'.get? b = some o) → Q (.ref (s.heap.objs.size + 1)) { s with heap := h' }) :
    wpAny (model prog w) A (call (.type "enumerate") [v]) Q E s := by
  refine callType_new F.called_enumerate (by decide) (F.typeCall_enumerate_1 _) (F.newCall_enumerate_1 _) (fun obj => F.args_object_init_2 obj _) F.entry_enumerate_new (newEnum B) ⟨h1, ?_⟩
  have hz : (s.heap.push o).objs.size = s.heap.objs.size + 1 := Heap.size_push ..
  have he : IsEnum ((s.heap.push o).push { cls := .type "enumerate", data := .fields #[.none, .bool false, .ref s.heap.objs.size, rawInt 0, .none, .none] }) (s.heap.objs.size + 1) s.heap.objs.size 0 .none := by
    have q := Heap.get?_push_size (s.heap.push o) (o := { cls := .type "enumerate", data := .fields #[.none, .bool false, .ref s.heap.objs.size, rawInt 0, .none, .none] }) rfl
    rw [hz] at q
    exact q
  show _ ∧ _
  rw [hz]
  exact ⟨⟨_, he, rfl⟩, h _ he (Heap.get?_push_of_some _ (Heap.get?_push_size _ B.free)) fun b o x => Heap.get?_push_of_some _ (Heap.get?_push_of_some _ x)⟩
end
theorem drawsEnd {prog : Program} {w : World} {A : Around} (hh : A.handled = none) (it t : Addr) (hne : t ≠ it) (items : Array Value) (i : Nat) (hi : items[i]? = none) :
    Draws prog w A it [it, t] i (fun _ _ => False) (fun j h => j = i ∧ h.IsTupleIter it t i ∧ h.IsTuple t items) where
  live := fun _ _ st => let ⟨o, ho, _⟩ := st.2.1; ⟨o, ho⟩
  frame := fun _ _ _ st hk => ⟨st.1, st.2.1.at fun o e => hk it (by simp) o e, st.2.2.at fun o e => hk t (by simp) o e⟩
  item := fun j s Q E hj st _ => absurd hj (by rw [st.1]; exact Nat.lt_irrefl _)
  done := fun s Q E st hE => wpAny_nextOf_tuple_end hh st.2.1 st.2.2 hi hE
/-- the tuple at a, each item in a new pair -/
def Iet (K : PySem.W.Frag) (a : Addr) : It :=
  ⟨fun i H => ∃ (xs : List V) (x : V), SqT K H a xs ∧ xs[i]? = some x, fun i H v H' => ∃ T x, v = .ref T ∧ H T = none ∧ H' = upd H T (.tup [.int (i : Nat), x]) ∧ ∀ xs, SqT K H a xs → xs[i]? = some x, fun i H => ∃ xs : List V, SqT K H a xs ∧ xs.length ≤ i⟩
theorem turn_enumT {P : Program} {w : World} {K : PySem.W.Frag} {elts : List Expr} {kk : Nat} {tpos : Pos} (a e it : Addr) (hai : a ≠ it) (hae : a ≠ e) (its : Array Value) :
    Turn P w K (.Tuple elts kk tpos) (Iet K a) [e, it] e (fun i h => (∃ old, IsEnum h e it ((i : Nat) : Int) old) ∧ h.IsTupleIter it a i ∧ e ≠ it) where
  mem := by simp
  obj := fun i h st b hb => by
    obtain ⟨⟨old, he⟩, ⟨o, ho, hc, hd⟩, _⟩ := st
    have e' : b = e ∨ b = it := by simpa using hb
    rcases e' with z | z
    · rw [z]; exact ⟨_, he, fun v q => nomatch q⟩
    · rw [z]; exact ⟨o, ho, fun v q => by rw [hd] at q; cases q⟩
  keep := fun i h h' st k => by
    obtain ⟨⟨old, he⟩, ⟨o, ho, hr⟩, hne⟩ := st
    exact ⟨⟨old, k e (by simp) _ he⟩, ⟨o, k it (by simp) o ho, hr⟩, hne⟩
  item := by
    intro X hP hw hK hc i pins s σ H E I hf st hg
    subst hP hw hK
    obtain ⟨⟨old, he⟩, hit, hne⟩ := st
    obtain ⟨xs, x, hq, hx⟩ := hg
    obtain ⟨its, rv, p, hz⟩ := I.tuple hq
    obtain ⟨u, hu, ru⟩ := rv.get hx
    have hel : e < s.heap.objs.size := Heap.lt_size he
    have hil : it < s.heap.objs.size := by obtain ⟨_, q, _⟩ := hit; exact Heap.lt_size q
    have hi : i < its.toArray.size := by
      rw [List.size_toArray]
      exact (List.getElem?_eq_some_iff.mp hu).1
    refine wpAny_pyNext_enum_itemD (Draws.tuple (A := X.A.in1) (show X.A.in1.handled = none from I.ok.hd hc) it a hai its.toArray) he ⟨hit, p⟩ hi hne (by simp [hne, Ne.symm hae]) fun y h' tk hy ho st' hT hsz hk => ?_
    have ey : y = u := by
      have : its.toArray[i]? = some u := by simpa using hu
      rw [this] at hy
      exact (Option.some.inj hy).symm
    subst ey
    refine ⟨_, rfl, wpAny_letOwnedTupleGo_enum (s := { s with heap := h', toks := tk + 1 }) ho fun h'' he' sb => ?_⟩
    have hT2 : h''.get? s.heap.objs.size = some { cls := .type "tuple", data := .seq #[.int i tk, y] } := (sb.2 _ (Nat.ne_of_gt hel)).trans hT
    have new : ObjOk X.prog X.w (upd H s.heap.objs.size (.tup [.int (i : Nat), x])) h'' s.heap.objs.size (.tup [.int (i : Nat), x]) :=
      ⟨by show 2 ≤ sizeLine; decide, [.int i tk, y], .cons ⟨_, rfl⟩ (.cons ru .nil), ⟨_, hT2, rfl, _, rfl⟩⟩
    have I1 : Inv X pins σ (upd H s.heap.objs.size (.tup [.int (i : Nat), x])) { s with heap := h'', toks := tk + 1 } :=
      I.turnedNew (ch := [e, it]) (fun b ob hb q => (sb.2 b (fun z => hb (by simp [z]))).trans (hk b ob (fun z => hb (by simp [z])) (fun z => hb (by simp [z])) q)) hf (Nat.le_refl _) new
    obtain ⟨⟨oi, hoi, hri⟩, _⟩ := st'
    refine ⟨.ref s.heap.objs.size, _, I1, rfl, ⟨_, x, rfl, I.hok.fresh (Nat.le_refl _), rfl, fun ys hy => by rw [I.tuple_inj hy hq]; exact hx⟩, ⟨⟨y, ?_⟩, ⟨oi, (sb.2 it (Ne.symm hne)).trans hoi, hri⟩, hne⟩, fun b hb => ?_⟩
    · have e1 : ((i + 1 : Nat) : Int) = (i : Int) + 1 := by omega
      rw [e1]; exact he'
    · have hb' : b < s.heap.objs.size := by
        have e' : b = e ∨ b = it := by simpa using hb
        rcases e' with z | z
        · rw [z]; exact hel
        · rw [z]; exact hil
      rw [upd_ne (Nat.ne_of_lt hb')]
      exact (hf b hb).1
  done := by
    intro X hP hw hK hc i pins s σ H E I hf st hg
    subst hP hw hK
    obtain ⟨⟨old, he⟩, hit, hne⟩ := st
    obtain ⟨xs, hq, hx⟩ := hg
    obtain ⟨its, rv, p, hz⟩ := I.tuple hq
    obtain ⟨f0, f1, f2, f3, f4, f5⟩ := hf it (by simp)
    have hn : its.toArray[i]? = none := by
      have := rv.length
      simp
      omega
    exact wpAny_pyNext_enum_endD (drawsEnd (A := X.A.in1) (show X.A.in1.handled = none from I.ok.hd hc) it a hai its.toArray i hn) he ⟨rfl, hit, p⟩ fun h' eb => ⟨rfl, I.turned (t' := s.toks) (fun b o hb q => eb b o hb q) f0 f1 f3 f4 f5⟩
  self := fun A i s Q E st h => let ⟨⟨_, he⟩, _⟩ := st; wpAny_pyIter_enum he h
def iEnT (K : PySem.W.Frag) (ta : TA) : TI := fun σ H R => ta σ H fun vs H1 => ∃ a xs, vs = [.ref a] ∧ SqT K H1 a xs ∧ R (Iet K a) H1
theorem pi_enumT {X : Cx} {e : Expr} {ta : TA} {p pos tpos : Pos} {elts : List Expr} {kk : Nat} (hg : Gl X "enumerate") (hm : X.mg "enumerate" = none) (ha : PA X [e] ta) (hs : starEach [e] X.env = [(false, eval e X.env)]) :
    PI X (.Tuple elts kk tpos) (.Call (.Name "enumerate" p) [e] [] pos) (iEnT X.K ta) := by
  refine ⟨fun pins s σ H R I h => ?_⟩
  refine PyProof.Rows.Call_ (ld_blt I hg hm PyProof.Rows.boot_enumerate (PyProof.Rows.callWith_type1 (thn (ha.run pos pins s σ H _ I h) fun us s1 ⟨vs, H1, I1, r1, q1⟩ => ?_) hs rfl))
  obtain ⟨a, xs, ex, hq, q⟩ := q1
  subst ex
  cases r1 with
  | cons r rr =>
    cases rr
    cases r
    obtain ⟨its, rv, p', hz⟩ := I1.tuple hq
    have hal : a < s1.heap.objs.size := by obtain ⟨_, q', _⟩ := p'; exact Heap.lt_size q'
    refine call_enum1 (begins_tuple a its.toArray) p' fun h' he hit hk => wpAny_pyIter_enum he ?_
    have I2 : Inv X pins σ H1 { s1 with heap := h' } := I1.kept (t' := s1.toks) hk
    refine ⟨s1.heap.objs.size + 1, [s1.heap.objs.size + 1, s1.heap.objs.size], _, _, H1, rfl, I2, turn_enumT a (s1.heap.objs.size + 1) s1.heap.objs.size (Nat.ne_of_lt hal) (Nat.ne_of_lt (Nat.lt_succ_of_lt hal)) its.toArray, ⟨⟨.none, he⟩, ⟨_, hit, rfl, rfl⟩, Nat.succ_ne_self _⟩, fun b hb => ?_, q⟩
    have e' : b = s1.heap.objs.size + 1 ∨ b = s1.heap.objs.size := by simpa using hb
    have hle : s1.heap.objs.size ≤ b := by
      rcases e' with z | z
      · rw [z]; exact Nat.le_add_right _ _
      · rw [z]; exact Nat.le_refl _
    exact I1.fpOk hle (I1.hok.fresh hle)
end PV
set_option Elab.async false
set_option linter.all false
set_option maxRecDepth 100000
set_option maxHeartbeats 1000000
/-! PyLc2: what is walked; list comprehensions. -/
namespace PV
open PySem PySem.Spec L2
/-- an iterator gives what the interpreter says, in every later state -/
def WkR (S : Sta) (L : List Nat) (ι0 : List Addr) (H0 : Hp) (J : It) (w : Wk) : Prop := ∀ (ι : List Addr) (G : Gp) (H : Hp) (i : Nat), Ext ι0 H0 ι H → Rel S L ι G H →
  (itemAt w i G = some none → J.stop i H) ∧ ∀ x, itemAt w i G = some (some x) → J.go i H ∧ ∀ v H', J.yld i H v H' → Ext ι H ι H' ∧ Rel S L ι G H' ∧ VR S ι H' x v
section
variable {X : Cx} {S : Sta} {ht : Hot} {C : Ctx} {W : WX} {L : List Nat} {ι : List Addr} {G : Gp} {H : Hp} {pos : Pos}
theorem WkR.ext {J : It} {w : Wk} {ι1 : List Addr} {H1 : Hp} (h : WkR S L ι H J w) (e : Ext ι H ι1 H1) : WkR S L ι1 H1 J w := fun ι2 G2 H2 i e2 R => h ι2 G2 H2 i (e.trans e2) R
theorem pair_new {S : Sta} {L : List Nat} {ι : List Addr} {G : Gp} {H : Hp} (R : Rel S L ι G H) {T : Addr} {x y : V} {u w : U} (hT : H T = none) (hx : VR S ι H u x) (hy : VR S ι H w y) : Ext ι H ι (L2.upd H T (.tup [x, y])) ∧ Rel S L ι G (L2.upd H T (.tup [x, y])) ∧ VR S ι (L2.upd H T (.tup [x, y])) (.tup [u, w]) (.ref T) :=
  have e := Ext.upd (ι := ι) (o := .tup [x, y]) hT
  ⟨e, R.upd hT, T, [x, y], rfl, SqT.of upd_same, x, [y], rfl, hx.mono e, y, [], rfl, hy.mono e, rfl⟩
theorem sqL_eq {K : PySem.W.Frag} {a : Addr} {vs : List V} (h : H a = some (.lst vs)) : SqL K H a vs := SqL.of h
theorem wk_live {i : Nat} {us : List U} {v : V} (R : Rel S L ι G H) (hi : G[i]? = some (.lst us)) (r : VR S ι H (.ref i) v) : ∃ a xs, v = .ref a ∧ SqL S.K H a xs ∧ WkR S L ι H (Itl S.K a) (.live i) := by
  obtain ⟨a, vs, e, hι, q1, r1⟩ := R.lst hi r
  refine ⟨a, vs, e, SqL.of q1, fun ι1 G1 H1 j e1 R1 => ?_⟩
  have key : ∀ ws, G1[i]? = some (.lst ws) → ∃ xs, H1 a = some (.lst xs) ∧ VRs S ι1 H1 ws xs := fun ws hw => by
    obtain ⟨a', xs, e', _, q2, r2⟩ := R1.lst hw ⟨a, e1.get hι, rfl⟩
    cases e'
    exact ⟨xs, q2, r2⟩
  refine ⟨fun h => ?_, fun x h => ?_⟩
  · simp only [itemAt] at h
    split at h
    · rename_i ws hw
      obtain ⟨xs, q2, r2⟩ := key ws hw
      exact ⟨xs, SqL.of q2, by rw [r2.length]; exact List.getElem?_eq_none_iff.mp (Option.some.inj h)⟩
    · cases h
  · simp only [itemAt] at h
    split at h
    · rename_i ws hw
      obtain ⟨xs, q2, r2⟩ := key ws hw
      obtain ⟨y, g1, g2⟩ := r2.get (Option.some.inj h)
      refine ⟨⟨xs, y, SqL.of q2, g1⟩, fun v H' hy => ?_⟩
      obtain ⟨h1, h2⟩ := hy
      subst h1
      have := h2 xs (SqL.of q2)
      rw [g1] at this
      cases this
      exact ⟨Ext.refl _ _, R1, g2⟩
    · cases h
theorem wk_tup {us : List U} {v : V} (R : Rel S L ι G H) (r : VR S ι H (.tup us) v) : ∃ a xs, v = .ref a ∧ SqT S.K H a xs ∧ WkR S L ι H (Itt S.K a) (.its us) := by
  obtain ⟨a, vs, e, q1, r1⟩ := r
  refine ⟨a, vs, e, q1, fun ι1 G1 H1 j e1 R1 => ?_⟩
  have q2 := e1.sqT q1
  have r2 := r1.mono e1
  refine ⟨fun h => ⟨vs, q2, by rw [r2.length]; exact List.getElem?_eq_none_iff.mp (Option.some.inj h)⟩, fun x h => ?_⟩
  obtain ⟨y, g1, g2⟩ := r2.get (Option.some.inj h)
  refine ⟨⟨vs, y, q2, g1⟩, fun v H' hy => ?_⟩
  obtain ⟨h1, h2⟩ := hy
  subst h1
  have := h2 vs q2
  rw [g1] at this
  cases this
  exact ⟨Ext.refl _ _, R1, g2⟩
theorem wk_range {lo : Int} {n : Nat} (R : Rel S L ι G H) : WkR S L ι H (Itr lo n) (.its ((List.range n).map fun (i : Nat) => .int (lo + i))) := by
  intro ι1 G1 H1 j e1 R1
  refine ⟨fun h => ?_, fun x h => ?_⟩
  · have h' : ((List.range n).map fun (i : Nat) => U.int (lo + i))[j]? = none := Option.some.inj h
    rw [List.getElem?_eq_none_iff] at h'
    show n ≤ j
    simpa using h'
  · have h' : ((List.range n).map fun (i : Nat) => U.int (lo + i))[j]? = some x := Option.some.inj h
    rw [List.getElem?_map] at h'
    cases hr : (List.range n)[j]? with
    | none => rw [hr] at h'; cases h'
    | some k =>
      rw [hr] at h'
      cases h'
      obtain ⟨hl, hk⟩ := List.getElem?_eq_some_iff.mp hr
      have hj : j < n := by simpa using hl
      have hk' : j = k := by simpa using hk
      subst hk'
      refine ⟨hj, fun v H' hy => ?_⟩
      obtain ⟨h1, h2⟩ := hy
      subst h1 h2
      exact ⟨Ext.refl _ _, R1, rfl⟩
theorem wk_str {z : Str} (R : Rel S L ι G H) : WkR S L ι H (Its z) (.its (z.cps.toList.map fun c => .str ⟨#[c]⟩)) := by
  intro ι1 G1 H1 j e1 R1
  refine ⟨fun h => ?_, fun x h => ?_⟩
  · have h' : (z.cps.toList.map fun c => U.str ⟨#[c]⟩)[j]? = none := Option.some.inj h
    rw [List.getElem?_eq_none_iff] at h'
    show z.cps.size ≤ j
    simpa using h'
  · have h' : (z.cps.toList.map fun c => U.str ⟨#[c]⟩)[j]? = some x := Option.some.inj h
    rw [List.getElem?_map] at h'
    cases hr : z.cps.toList[j]? with
    | none => rw [hr] at h'; cases h'
    | some k =>
      rw [hr] at h'
      cases h'
      have hr' : z.cps[j]? = some k := by simpa using hr
      refine ⟨(Array.getElem?_eq_some_iff.mp hr').1, fun v H' hy => ?_⟩
      obtain ⟨h1, c, h2, h3⟩ := hy
      subst h1 h3
      rw [hr'] at h2
      cases h2
      exact ⟨Ext.refl _ _, R1, rfl⟩
theorem wk_enum {i : Nat} {us : List U} {v : V} (R : Rel S L ι G H) (hi : G[i]? = some (.lst us)) (r : VR S ι H (.ref i) v) : ∃ a xs, v = .ref a ∧ SqL S.K H a xs ∧ WkR S L ι H (Ite S.K a) (.enum i) := by
  obtain ⟨a, vs, e, hι, q1, r1⟩ := R.lst hi r
  refine ⟨a, vs, e, SqL.of q1, fun ι1 G1 H1 j e1 R1 => ?_⟩
  have key : ∀ ws, G1[i]? = some (.lst ws) → ∃ xs, H1 a = some (.lst xs) ∧ VRs S ι1 H1 ws xs := fun ws hw => by
    obtain ⟨a', xs, e', _, q2, r2⟩ := R1.lst hw ⟨a, e1.get hι, rfl⟩
    cases e'
    exact ⟨xs, q2, r2⟩
  refine ⟨fun h => ?_, fun x h => ?_⟩
  · simp only [itemAt] at h
    split at h
    · rename_i ws hw
      obtain ⟨xs, q2, r2⟩ := key ws hw
      refine ⟨xs, SqL.of q2, ?_⟩
      rw [r2.length]
      have := Option.some.inj h
      cases hw : ws[j]? with
      | none => exact List.getElem?_eq_none_iff.mp hw
      | some _ => rw [hw] at this; cases this
    · cases h
  · simp only [itemAt] at h
    split at h
    · rename_i ws hw
      obtain ⟨xs, q2, r2⟩ := key ws hw
      have h' := Option.some.inj h
      cases hw : ws[j]? with
      | none => rw [hw] at h'; cases h'
      | some u =>
        rw [hw] at h'
        cases h'
        obtain ⟨y, g1, g2⟩ := r2.get hw
        refine ⟨⟨xs, y, SqL.of q2, g1⟩, fun v H' hy => ?_⟩
        obtain ⟨T, y', h1, h2, h3, h4⟩ := hy
        subst h1 h3
        have := h4 xs (SqL.of q2)
        rw [g1] at this
        cases this
        exact pair_new R1 h2 rfl g2
    · cases h
theorem zipIdx_get {us : List U} {j : Nat} {x : U} (h : (us.zipIdx.map fun p => U.tup [.int (p.2 : Nat), p.1])[j]? = some x) : ∃ u, us[j]? = some u ∧ x = .tup [.int (j : Nat), u] := by
  rw [List.getElem?_map] at h
  cases hr : us.zipIdx[j]? with
  | none => rw [hr] at h; cases h
  | some p =>
    rw [hr] at h
    cases h
    rw [List.getElem?_zipIdx] at hr
    cases hu : us[j]? with
    | none => rw [hu] at hr; cases hr
    | some u =>
      rw [hu] at hr
      cases hr
      exact ⟨u, rfl, by simp⟩
theorem wk_enumT {us : List U} {v : V} (R : Rel S L ι G H) (r : VR S ι H (.tup us) v) : ∃ a xs, v = .ref a ∧ SqT S.K H a xs ∧ WkR S L ι H (Iet S.K a) (.its (us.zipIdx.map fun p => .tup [.int (p.2 : Nat), p.1])) := by
  obtain ⟨a, vs, e, q1, r1⟩ := r
  refine ⟨a, vs, e, q1, fun ι1 G1 H1 j e1 R1 => ?_⟩
  have q2 := e1.sqT q1
  have r2 := r1.mono e1
  refine ⟨fun h => ?_, fun x h => ?_⟩
  · have h' := Option.some.inj h
    rw [List.getElem?_eq_none_iff] at h'
    refine ⟨vs, q2, ?_⟩
    rw [r2.length]
    simpa using h'
  · obtain ⟨u, g0, ex⟩ := zipIdx_get (Option.some.inj h)
    subst ex
    obtain ⟨y, g1, g2⟩ := r2.get g0
    refine ⟨⟨vs, y, q2, g1⟩, fun v H' hy => ?_⟩
    obtain ⟨T, y', h1, h2, h3, h4⟩ := hy
    subst h1 h3
    have := h4 vs q2
    rw [g1] at this
    cases this
    exact pair_new R1 h2 rfl g2
theorem wk_zip {i k : Nat} {us ws : List U} {v w : V} (R : Rel S L ι G H) (hi : G[i]? = some (.lst us)) (hk : G[k]? = some (.lst ws)) (r : VR S ι H (.ref i) v) (r' : VR S ι H (.ref k) w) : ∃ a b xs ys, v = .ref a ∧ w = .ref b ∧ SqL S.K H a xs ∧ SqL S.K H b ys ∧ WkR S L ι H (Itz S.K a b) (.zip i k) := by
  obtain ⟨a, vs, e, hι, q1, r1⟩ := R.lst hi r
  obtain ⟨b, vs', e', hι', q1', r1'⟩ := R.lst hk r'
  refine ⟨a, b, vs, vs', e, e', SqL.of q1, SqL.of q1', fun ι1 G1 H1 j e1 R1 => ?_⟩
  have key : ∀ ws, G1[i]? = some (.lst ws) → ∃ xs, H1 a = some (.lst xs) ∧ VRs S ι1 H1 ws xs := fun ws hw => by
    obtain ⟨a', xs, e', _, q2, r2⟩ := R1.lst hw ⟨a, e1.get hι, rfl⟩
    cases e'
    exact ⟨xs, q2, r2⟩
  have key' : ∀ ws, G1[k]? = some (.lst ws) → ∃ xs, H1 b = some (.lst xs) ∧ VRs S ι1 H1 ws xs := fun ws hw => by
    obtain ⟨a', xs, e', _, q2, r2⟩ := R1.lst hw ⟨b, e1.get hι', rfl⟩
    cases e'
    exact ⟨xs, q2, r2⟩
  refine ⟨fun h => ?_, fun x h => ?_⟩
  · simp only [itemAt] at h
    split at h
    · rename_i as bs ha hb
      obtain ⟨xs, q2, r2⟩ := key as ha
      obtain ⟨ys, q3, r3⟩ := key' bs hb
      refine ⟨xs, ys, SqL.of q2, SqL.of q3, ?_⟩
      rw [r2.length, r3.length]
      have h' := Option.some.inj h
      cases h1 : as[j]? with
      | none => exact .inl (List.getElem?_eq_none_iff.mp h1)
      | some u => cases h2 : bs[j]? with
        | none => exact .inr (List.getElem?_eq_none_iff.mp h2)
        | some u' => rw [h1, h2] at h'; cases h'
    · cases h
  · simp only [itemAt] at h
    split at h
    · rename_i as bs ha hb
      obtain ⟨xs, q2, r2⟩ := key as ha
      obtain ⟨ys, q3, r3⟩ := key' bs hb
      have h' := Option.some.inj h
      cases h1 : as[j]? with
      | none => rw [h1] at h'; cases h'
      | some u => cases h2 : bs[j]? with
        | none => rw [h1, h2] at h'; cases h'
        | some u' =>
          rw [h1, h2] at h'
          cases h'
          obtain ⟨y, g1, g2⟩ := r2.get h1
          obtain ⟨y', g1', g2'⟩ := r3.get h2
          refine ⟨⟨xs, ys, y, y', SqL.of q2, SqL.of q3, g1, g1'⟩, fun v H' hy => ?_⟩
          obtain ⟨T, z, z', t1, t2, t3, t4, t5⟩ := hy
          subst t1 t3
          have e4 := t4 xs (SqL.of q2)
          have e5 := t5 ys (SqL.of q3)
          rw [g1] at e4
          rw [g1'] at e5
          cases e4
          cases e5
          exact pair_new R1 t2 g2 g2'
    · cases h
/-! ### the source of a loop -/
def wPI (X : Cx) (tg iter : Expr) : TI := fun σ H R => ∀ (pins : List (Addr × Obj)) (s : Shared), Inv X pins σ H s → wpAny (model X.prog X.w) X.A (eval iter X.env) (fun v s1 => wpAny (model X.prog X.w) X.A (pyIter v) (PIE X pins σ tg R) X.xe s1) X.xe s
theorem pi_w {tg iter : Expr} : PI X tg iter (wPI X tg iter) := ⟨fun pins s σ H R I h => h pins s I⟩
theorem wPI.of {tg iter : Expr} {wi : TI} {σ : L2.St} {R : It → Hp → Prop} (h : PI X tg iter wi) (q : wi σ H R) : wPI X tg iter σ H R := fun pins s I => h.run pins s σ H R I q
/-- what iter gives when it is walked (no dict) -/
def SIt (X : Cx) (S : Sta) (ht : Hot) (C : Ctx) (W : WX) (tg iter : Expr) (k : SrcK) (src : List Ex) : Prop :=
  ∀ (L : List Nat) (ι : List Addr) (G : Gp) (H : Hp) (d : Env) (σ : L2.St) (P : Wk → Nat → Gp → Prop) (E : KXc) (R : It → Hp → Prop), Rel S L ι G H → EnvR S ht ι H d σ →
    Sat (evs C L src d G) (fun us G1 => ∃ w n, walk k us G1 = some (w, [], n) ∧ P w n G1) E →
    (∀ w n G1 ι1 H1 J, P w n G1 → Ext ι H ι1 H1 → Rel S L ι1 G1 H1 → WkR S L ι1 H1 J w → R J H1) → ExK S L ι H E (fun cls dd H' => W cls dd σ H') → wPI X tg iter σ H R
/-- the outcome of an evaluation -/
theorem Sat.cases {α : Type} {r : Res α} {P : α → Gp → Prop} {E : KXc} (h : Sat r P E) : (∃ a G, r = .ok a G ∧ P a G) ∨ ∃ c fs G, r = .ex c fs G ∧ E c fs G := by
  cases r with
  | ok a G => exact .inl ⟨a, G, rfl, h⟩
  | ex c fs G => exact .inr ⟨c, fs, G, rfl, h⟩
  | bad => exact h.elim
theorem evs_one {m : Ex} {d : Env} {P : List U → Gp → Prop} {E : KXc} (h : Sat (evs C L [m] d G) P E) : Sat (ev C L m d G) (fun u G1 => P [u] G1) E := by
  have h1 : Sat ((ev C L m d G).bind fun u G1 => (evs C L [] d G1).bind fun us G2 => .ok (u :: us) G2) P E := h
  exact h1.bindD
theorem sit_plain {tg iter : Expr} {m : Ex} (hK : X.K = S.K) (he : SE X S ht C W iter m) : SIt X S ht C W tg iter .plain [m] := by
  intro L ι G H d σ P E R Rl En h k kx
  have h1 := evs_one h
  have ka : ∀ (wi : TE → TI), PI X tg iter (wi (wE X iter)) → (∀ (V1 : V → Hp → Prop), (∀ u G1 v ι1 H1, (∃ w n, walk .plain [u] G1 = some (w, [], n) ∧ P w n G1) → ev C L m d G = .ok u G1 → Ext ι H ι1 H1 → Rel S L ι1 G1 H1 → VR S ι1 H1 u v → V1 v H1) → wE X iter σ H V1) := fun _ _ V1 hv => by
    rcases h1.cases with ⟨u, G1, e, q⟩ | ⟨c, fs, G1, e, q⟩
    · refine he L ι G H d σ (fun u' G1' => u' = u ∧ G1' = G1) E V1 Rl En (by rw [e]; exact ⟨rfl, rfl⟩) (fun u' G1' v ι1 H1 hp e1 R1 r1 => ?_) kx
      obtain ⟨e2, e3⟩ := hp
      subst e2 e3
      exact hv u' G1' v ι1 H1 q e e1 R1 r1
    · exact he L ι G H d σ (fun _ _ => False) E V1 Rl En (by rw [e]; exact q) (fun _ _ _ _ _ hp => hp.elim) kx
  have go : ∀ (wi : TE → TI), PI X tg iter (wi (wE X iter)) → (∀ T : TE, (∀ V1 : V → Hp → Prop, (∀ u G1 v ι1 H1, (∃ w n, walk .plain [u] G1 = some (w, [], n) ∧ P w n G1) → ev C L m d G = .ok u G1 → Ext ι H ι1 H1 → Rel S L ι1 G1 H1 → VR S ι1 H1 u v → V1 v H1) → T σ H V1) → wi T σ H R) → wPI X tg iter σ H R :=
    fun wi hp hq => .of hp (hq _ (ka wi hp))
  rcases h1.cases with ⟨u, G1, e, ⟨w, n, hw, hP⟩⟩ | ⟨c, fs, G1, e, q⟩
  · cases u with
    | tup us =>
      have hw' : some (Wk.its us, ([] : List Nat), us.length) = some (w, [], n) := hw
      cases hw'
      refine go (iTup X.K) (pi_tup pe_w) fun T hT => hT _ fun u' G1' v ι1 H1 _ e' e1 R1 r1 => ?_
      rw [e] at e'
      cases e'
      obtain ⟨a, xs, ev, hs, hk⟩ := wk_tup (L := L) R1 r1
      rw [hK]
      exact ⟨a, ev, ⟨xs, hs⟩, k _ _ _ _ _ _ hP e1 R1 hk⟩
    | str x =>
      have hw' : (if x.length ≤ LIM then some (Wk.its (x.cps.toList.map fun c => .str ⟨#[c]⟩), ([] : List Nat), x.cps.size) else none) = some (w, [], n) := hw
      split at hw'
      · cases hw'
        refine go iStr (pi_str pe_w) fun T hT => hT _ fun u' G1' v ι1 H1 _ e' e1 R1 r1 => ?_
        rw [e] at e'
        cases e'
        exact ⟨x, r1, k _ _ _ _ _ _ hP e1 R1 (wk_str R1)⟩
      · cases hw'
    | ref i =>
      have hw' : (match G1[i]? with
        | some (.lst us) => some (Wk.live i, ([] : List Nat), us.length)
        | some (.dct ks) => some (.its (ks.map fun kv => keyU kv.1), [i], ks.length)
        | _ => none) = some (w, [], n) := hw
      split at hw'
      · rename_i us hi
        cases hw'
        refine go (iList X.K) (pi_list pe_w) fun T hT => hT _ fun u' G1' v ι1 H1 _ e' e1 R1 r1 => ?_
        rw [e] at e'
        cases e'
        obtain ⟨a, xs, ev, hs, hk⟩ := wk_live (L := L) R1 hi r1
        rw [hK]
        exact ⟨a, ev, ⟨xs, hs⟩, k _ _ _ _ _ _ hP e1 R1 hk⟩
      · cases hw'
      · cases hw'
    | _ => cases hw
  · refine go (iTup X.K) (pi_tup pe_w) fun T hT => hT _ fun u' G1' v ι1 H1 _ e' e1 R1 r1 => ?_
    rw [e] at e'
    cases e'
end
end PV
set_option Elab.async false
set_option linter.all false
set_option maxRecDepth 100000
set_option maxHeartbeats 1000000
/-! PyLc3: range, enumerate, zip as sources; list comprehensions. -/
namespace PV
open PySem PySem.Spec L2
section
variable {X : Cx} {S : Sta} {ht : Hot} {C : Ctx} {W : WX} {L : List Nat} {ι : List Addr} {G : Gp} {H : Hp} {pos : Pos}
theorem sa_at {es : List Expr} {ms : List Ex} (ha : SA X S ht C W es ms) {d : Env} {σ : L2.St} {E : KXc} {us : List U} {G1 : Gp} (R : Rel S L ι G H) (En : EnvR S ht ι H d σ) (e : evs C L ms d G = .ok us G1) {Q : List V → Hp → Prop}
    (q : ∀ vs ι1 H1, Ext ι H ι1 H1 → Rel S L ι1 G1 H1 → VRs S ι1 H1 us vs → Q vs H1) : wA X es σ H Q := by
  refine ha L ι G H d σ (fun us' G1' => us' = us ∧ G1' = G1) (fun _ _ _ => False) Q R En (by rw [e]; exact ⟨rfl, rfl⟩) (fun us' G1' vs ι1 H1 hp e1 R1 r1 => ?_) (fun _ _ _ _ _ _ hp => hp.elim)
  obtain ⟨e2, e3⟩ := hp
  subst e2 e3
  exact q vs ι1 H1 e1 R1 r1
theorem sa_ex {es : List Expr} {ms : List Ex} (ha : SA X S ht C W es ms) {d : Env} {σ : L2.St} {E : KXc} {c : String} {fs : List (String × U)} {G1 : Gp} (R : Rel S L ι G H) (En : EnvR S ht ι H d σ) (e : evs C L ms d G = .ex c fs G1) (hE : E c fs G1) (kx : ExK S L ι H E (fun cls dd H' => W cls dd σ H')) (Q : List V → Hp → Prop) : wA X es σ H Q :=
  ha L ι G H d σ (fun _ _ => False) E Q R En (by rw [e]; exact hE) (fun _ _ _ _ _ hp => hp.elim) kx
theorem sit_range1 {tg a : Expr} {m : Ex} {z : Str} {p : Pos} (hz : z = "range") (hg : glB X.env.scope z = true) (hm : X.mg z = none) (hs : isStar a = false) (ha : SA X S ht C W [a] [m]) : SIt X S ht C W tg (.Call (.Name z p) [a] [] pos) .range [m] := by
  intro L ι G H d σ P E R Rl En h k kx
  subst hz
  refine .of (pi_range1 (gl_of hg) hm pa_w (star_cons hs)) ?_
  rcases h.cases with ⟨us, G1, e, ⟨w, n, hw, hP⟩⟩ | ⟨c, fs, G1, e, q⟩
  · refine sa_at (E := E) ha Rl En e fun vs ι1 H1 e1 R1 r1 => ?_
    match us, hw, r1 with
    | [.int j], hw, r1 =>
      obtain ⟨v, r, ev, r2, r3⟩ := r1
      have er : r = [] := r3
      subst ev er
      have hw' : (if -(LIM : Int) ≤ j ∧ j ≤ LIM then some (Wk.its ((List.range j.toNat).map fun (i : Nat) => .int i), ([] : List Nat), j.toNat) else none) = some (w, [], n) := hw
      split at hw'
      · rename_i hb
        cases hw'
        refine ⟨j, by rw [r2.int_], by have := hb.1; simp only [LIM] at this; omega, by have := hb.2; simp only [LIM] at this; omega, k _ _ _ _ _ _ hP e1 R1 ?_⟩
        have hr := wk_range (S := S) (L := L) (ι := ι1) (H := H1) (lo := 0) (n := j.toNat) R1
        simpa using hr
      · cases hw'
    | [.int i, .int j], _, r1 =>
      exfalso
      have := r1.length
      have l := evs_len (P := fun us' G1' => us' = [.int i, .int j]) (E := E) (show Sat (evs C L [m] d G) _ E by rw [e]; exact rfl)
      rw [e] at l
      obtain ⟨l1, _⟩ := (show ([U.int i, .int j] : List U).length = 1 ∧ _ from l)
      cases l1
  · exact sa_ex ha Rl En e q kx _
theorem sit_range2 {tg a b : Expr} {m m' : Ex} {z : Str} {p : Pos} (hz : z = "range") (hg : glB X.env.scope z = true) (hm : X.mg z = none) (hs : isStar a = false) (hs' : isStar b = false) (ha : SA X S ht C W [a, b] [m, m']) : SIt X S ht C W tg (.Call (.Name z p) [a, b] [] pos) .range [m, m'] := by
  intro L ι G H d σ P E R Rl En h k kx
  subst hz
  refine .of (pi_range2 (gl_of hg) hm pa_w (by rw [star_cons hs, star_cons hs']; rfl) (star_cons hs')) ?_
  rcases h.cases with ⟨us, G1, e, ⟨w, n, hw, hP⟩⟩ | ⟨c, fs, G1, e, q⟩
  · refine sa_at (E := E) ha Rl En e fun vs ι1 H1 e1 R1 r1 => ?_
    match us, hw, r1 with
    | [.int i, .int j], hw, r1 =>
      obtain ⟨v, r, ev, r2, v', r', ev', r3, r4⟩ := r1
      have er : r' = [] := r4
      subst ev ev' er
      have hw' : (if -(LIM : Int) ≤ i ∧ i ≤ LIM ∧ -(LIM : Int) ≤ j ∧ j ≤ LIM then some (Wk.its ((List.range (j - i).toNat).map fun (t : Nat) => .int (i + t)), ([] : List Nat), (j - i).toNat) else none) = some (w, [], n) := hw
      split at hw'
      · rename_i hb
        cases hw'
        obtain ⟨b1, b2, b3, b4⟩ := hb
        simp only [LIM] at b1 b2 b3 b4
        refine ⟨i, j, by rw [r2.int_, r3.int_], ⟨by omega, by omega, by omega, by omega⟩, k _ _ _ _ _ _ hP e1 R1 (wk_range (L := L) R1)⟩
      · cases hw'
    | [.int i], _, r1 =>
      exfalso
      have l := evs_len (P := fun us' G1' => us' = [.int i]) (E := E) (show Sat (evs C L [m, m'] d G) _ E by rw [e]; exact rfl)
      rw [e] at l
      obtain ⟨l1, _⟩ := (show ([U.int i] : List U).length = 2 ∧ _ from l)
      cases l1
  · exact sa_ex ha Rl En e q kx _
theorem sit_enum {a : Expr} {m : Ex} {z : Str} {p tp : Pos} {es : List Expr} {kk : Nat} (hK : X.K = S.K) (hz : z = "enumerate") (hg : glB X.env.scope z = true) (hm : X.mg z = none) (hs : isStar a = false) (ha : SA X S ht C W [a] [m]) : SIt X S ht C W (.Tuple es kk tp) (.Call (.Name z p) [a] [] pos) .enum [m] := by
  intro L ι G H d σ P E R Rl En h k kx
  subst hz
  rcases h.cases with ⟨us, G1, e, ⟨w, n, hw, hP⟩⟩ | ⟨c, fs, G1, e, q⟩
  · match us, hw with
    | [.ref i], hw =>
      have hw' : (match G1[i]? with
        | some (.lst us) => some (Wk.enum i, ([] : List Nat), us.length)
        | _ => none) = some (w, [], n) := hw
      split at hw'
      · rename_i us hi
        cases hw'
        refine .of (pi_enum (gl_of hg) hm pa_w (star_cons hs)) ?_
        refine sa_at (E := E) ha Rl En e fun vs ι1 H1 e1 R1 r1 => ?_
        obtain ⟨v, r, ev, r2, r3⟩ := r1
        have er : r = [] := r3
        subst ev er
        obtain ⟨a, xs, ev, hs, hk⟩ := wk_enum (L := L) R1 hi r2
        subst ev
        rw [hK]
        exact ⟨a, xs, rfl, hs, k _ _ _ _ _ _ hP e1 R1 hk⟩
      · cases hw'
    | [.tup us], hw =>
      have hw' : some (Wk.its (us.zipIdx.map fun p => .tup [.int (p.2 : Nat), p.1]), ([] : List Nat), us.length) = some (w, [], n) := hw
      cases hw'
      refine .of (pi_enumT (gl_of hg) hm pa_w (star_cons hs)) ?_
      refine sa_at (E := E) ha Rl En e fun vs ι1 H1 e1 R1 r1 => ?_
      obtain ⟨v, r, ev, r2, r3⟩ := r1
      have er : r = [] := r3
      subst ev er
      obtain ⟨a, xs, ev, hs, hk⟩ := wk_enumT (L := L) R1 r2
      subst ev
      rw [hK]
      exact ⟨a, xs, rfl, hs, k _ _ _ _ _ _ hP e1 R1 hk⟩
  · exact .of (pi_enum (gl_of hg) hm pa_w (star_cons hs)) (sa_ex ha Rl En e q kx _)
theorem sit_zip {a b : Expr} {m m' : Ex} {z : Str} {p tp : Pos} {es : List Expr} {kk : Nat} (hK : X.K = S.K) (hz : z = "zip") (hg : glB X.env.scope z = true) (hm : X.mg z = none) (hs : isStar a = false) (hs' : isStar b = false) (ha : SA X S ht C W [a, b] [m, m']) : SIt X S ht C W (.Tuple es kk tp) (.Call (.Name z p) [a, b] [] pos) .zip [m, m'] := by
  intro L ι G H d σ P E R Rl En h k kx
  subst hz
  refine .of (pi_zip (gl_of hg) hm pa_w (star_cons hs) (star_any (by simpa using hs'))) ?_
  rcases h.cases with ⟨us, G1, e, ⟨w, n, hw, hP⟩⟩ | ⟨c, fs, G1, e, q⟩
  · refine sa_at (E := E) ha Rl En e fun vs ι1 H1 e1 R1 r1 => ?_
    match us, hw, r1 with
    | [.ref i, .ref j], hw, r1 =>
      have hw' : (match G1[i]?, G1[j]? with
        | some (.lst us), some (.lst ws) => some (Wk.zip i j, ([] : List Nat), min us.length ws.length)
        | _, _ => none) = some (w, [], n) := hw
      split at hw'
      · rename_i us ws hi hj
        cases hw'
        obtain ⟨v, r, ev, r2, v', r', ev', r3, r4⟩ := r1
        have er : r' = [] := r4
        subst ev ev' er
        obtain ⟨a, b, xs, ys, ea, eb, h1, h2, hk⟩ := wk_zip (L := L) R1 hi hj r2 r3
        subst ea eb
        rw [hK]
        exact ⟨a, b, xs, ys, rfl, h1, h2, k _ _ _ _ _ _ hP e1 R1 hk⟩
      · cases hw'
  · exact sa_ex ha Rl En e q kx _
/-! ### list comprehensions -/
/-- the tests of a clause -/
def STs (X : Cx) (S : Sta) (ht : Hot) (C : Ctx) (W : WX) (ifs : List Expr) (ms : List Ts) : Prop :=
  ∀ (L : List Nat) (ι : List Addr) (G : Gp) (H : Hp) (d : Env) (σ : L2.St) (P : Bool → Gp → Prop) (E : KXc) (Q : Bool → Hp → Prop), Rel S L ι G H → EnvR S ht ι H d σ → Sat (tsts C L ms d G) P E → OkB S L ι H P Q → ExK S L ι H E (fun cls dd H' => W cls dd σ H') →
    ∀ (pins : List (Addr × Obj)) (s : Shared), Inv X pins σ H s → wpAny (model X.prog X.w) X.A (forIn ifs true fun c r => if r = true then do let ok ← PySem.isTrue c X.env (eval c X.env); pure (ForInStep.yield ok) else pure (ForInStep.yield r)) (TP X pins σ Q) X.xe s
theorem sts_nil : STs X S ht C W [] [] := fun L ι G H d σ P E Q R En h k kx pins s I => pts_nil.run pins s σ H Q I (k true G ι H h (Ext.refl _ _) R)
theorem sts_one {e : Expr} {m : Ts} (h : ST X S ht C W e m) : STs X S ht C W [e] [m] := fun L ι G H d σ P E Q R En q k kx pins s I => by
  refine (pts_one pt_w).run pins s σ H Q I (h L ι G H d σ _ E Q R En (Sat.bindD (show Sat ((tst C L m d G).bind fun r G1 => if r = true then tsts C L [] d G1 else .ok false G1) P E from q)) (fun b G1 ι1 H1 hp e1 R1 => ?_) kx)
  cases b with
  | true => exact k true G1 ι1 H1 hp e1 R1
  | false => exact k false G1 ι1 H1 hp e1 R1
theorem get_more {ι : List Addr} {t : List Addr} {i : Nat} {a : Addr} (h : ι[i]? = some a) : (ι ++ t)[i]? = some a := by
  rw [List.getElem?_append_left (List.getElem?_eq_some_iff.mp h).1]
  exact h
mutual
theorem VR.more {t : List Addr} : ∀ {u : U} {v : V}, VR S ι H u v → VR S (ι ++ t) H u v
  | .non, _, h => h
  | .bl _, _, h => h
  | .int _, _, h => h
  | .str _, _, h => h
  | .ref _, _, h => by
    obtain ⟨a, h1, h2⟩ := h
    exact ⟨a, get_more h1, h2⟩
  | .tup us, _, h => by
    obtain ⟨a, vs, h1, h2, h3⟩ := h
    exact ⟨a, vs, h1, h2, VRs.more h3⟩
theorem VRs.more {t : List Addr} : ∀ {us : List U} {vs : List V}, VRs S ι H us vs → VRs S (ι ++ t) H us vs
  | [], _, h => h
  | u :: us, _, h => by
    obtain ⟨v, r, h1, h2, h3⟩ := h
    exact ⟨v, r, h1, VR.more h2, VRs.more h3⟩
end
theorem KR.more {t : List Addr} : ∀ {us : List (Key × U)} {vs : List (Key × V)}, KR S ι H us vs → KR S (ι ++ t) H us vs
  | [], _, h => h
  | (k, u) :: us, _, h => by
    obtain ⟨v, r, h1, h2, h3⟩ := h
    exact ⟨v, r, h1, h2.more, KR.more h3⟩
theorem FR.more {t : List Addr} : ∀ {us : List (String × U)} {vs : List (Str × V)}, FR S ι H us vs → FR S (ι ++ t) H us vs
  | [], _, h => h
  | (k, u) :: us, _, h => by
    obtain ⟨v, r, h1, h2, h3⟩ := h
    exact ⟨v, r, h1, h2.more, FR.more h3⟩
theorem CR.more {t : List Addr} {i : Nat} : ∀ {c : Cell} {o : HO}, CR S L ι H i c o → CR S L (ι ++ t) H i c o
  | .lst us, _, h => by
    obtain ⟨vs, h1, h2⟩ := h
    exact ⟨vs, h1, h2.more⟩
  | .dct ks, _, h => by
    obtain ⟨kvs, h1, h2⟩ := h
    exact ⟨kvs, h1.more, h2⟩
  | .ins c fs, _, h => by
    obtain ⟨dx, fvs, h1, h2, h3⟩ := h
    exact ⟨dx, fvs, h1, h2.more, h3⟩
/-- something that lies there is taken up -/
theorem Rel.adopt (R : Rel S L ι G H) {D : Addr} {o : HO} {c : Cell} (hD : D ∉ ι) (ho : H D = some o) (hc : CR S L ι H G.length c o) : Rel S L (ι ++ [D]) (G ++ [c]) H := by
  refine ⟨by simp [R.len], List.nodup_append.mpr ⟨R.nd, by simp, fun a ha b hb e => ?_⟩, fun i h => by rw [List.length_append]; exact Nat.lt_add_right _ (R.lk i h), fun i c' a h1 h2 => ?_⟩
  · have : b = D := by simpa using hb
    exact hD (by rw [← this, ← e]; exact ha)
  · by_cases hi : i < G.length
    · rw [List.getElem?_append_left hi] at h1
      rw [List.getElem?_append_left (by rw [R.len]; exact hi)] at h2
      obtain ⟨u, e1, e2⟩ := R.at_ i c' a h1 h2
      exact ⟨u, e1, e2.more⟩
    · have hl := (List.getElem?_eq_some_iff.mp h1).1
      have e : i = G.length := by
        rw [List.length_append, List.length_singleton] at hl
        omega
      subst e
      rw [List.getElem?_append_right (Nat.le_refl _)] at h1
      rw [← R.len, List.getElem?_append_right (Nat.le_refl _)] at h2
      simp at h1 h2
      subst h1 h2
      exact ⟨o, ho, hc.more⟩
/-- a value whose shape no change of D's list can touch -/
theorem ext_skip {ι0 ι1 : List Addr} {H0 H1 H2 : Hp} {D : Addr} (e : Ext ι0 H0 ι1 H1) (h0 : H0 D = none) (same : ∀ a, a ≠ D → H2 a = H1 a) : Ext ι0 H0 ι1 H2 := by
  have ne : ∀ a o, H0 a = some o → a ≠ D := fun a o h z => by rw [z, h0] at h; cases h
  exact ⟨e.pre, e.new, fun a o h hn => by rw [same a (ne a o h)]; exact e.frm a o h hn, fun a o u h => by rw [same a (ne a _ h)]; exact e.frz a o u h, fun a vs h => by rw [same a (ne a _ h)]; exact e.tup a vs h, fun a fs h => by rw [same a (ne a _ h)]; exact e.xd a fs h⟩
mutual
theorem VR.skip {H2 : Hp} {D : Addr} {xs : List V} (hD : H D = some (.lst xs)) (same : ∀ a, a ≠ D → H2 a = H a) : ∀ {u : U} {v : V}, VR S ι H u v → VR S ι H2 u v
  | .non, _, h => h
  | .bl _, _, h => h
  | .int _, _, h => h
  | .str _, _, h => h
  | .ref _, _, h => h
  | .tup us, _, h => by
    obtain ⟨a, vs, h1, h2, h3⟩ := h
    refine ⟨a, vs, h1, ?_, VRs.skip hD same h3⟩
    rcases h2 with (h2 | ⟨o, h2⟩) | h2
    · refine .inl (.inl ?_)
      rw [same a fun z => by rw [z, hD] at h2; cases h2]
      exact h2
    · refine .inl (.inr ⟨o, ?_⟩)
      rw [same a fun z => by rw [z, hD] at h2; cases h2]
      exact h2
    · exact .inr h2
theorem VRs.skip {H2 : Hp} {D : Addr} {xs : List V} (hD : H D = some (.lst xs)) (same : ∀ a, a ≠ D → H2 a = H a) : ∀ {us : List U} {vs : List V}, VRs S ι H us vs → VRs S ι H2 us vs
  | [], _, h => h
  | u :: us, _, h => by
    obtain ⟨v, r, h1, h2, h3⟩ := h
    exact ⟨v, r, h1, VR.skip hD same h2, VRs.skip hD same h3⟩
end
theorem KR.skip {H2 : Hp} {D : Addr} {xs : List V} (hD : H D = some (.lst xs)) (same : ∀ a, a ≠ D → H2 a = H a) : ∀ {us : List (Key × U)} {vs : List (Key × V)}, KR S ι H us vs → KR S ι H2 us vs
  | [], _, h => h
  | (k, u) :: us, _, h => by
    obtain ⟨v, r, h1, h2, h3⟩ := h
    exact ⟨v, r, h1, h2.skip hD same, KR.skip hD same h3⟩
theorem FR.skip {H2 : Hp} {D : Addr} {xs : List V} (hD : H D = some (.lst xs)) (same : ∀ a, a ≠ D → H2 a = H a) : ∀ {us : List (String × U)} {vs : List (Str × V)}, FR S ι H us vs → FR S ι H2 us vs
  | [], _, h => h
  | (k, u) :: us, _, h => by
    obtain ⟨v, r, h1, h2, h3⟩ := h
    exact ⟨v, r, h1, h2.skip hD same, FR.skip hD same h3⟩
theorem CR.skip {H2 : Hp} {D : Addr} {xs : List V} (hD : H D = some (.lst xs)) (same : ∀ a, a ≠ D → H2 a = H a) {i : Nat} : ∀ {c : Cell} {o : HO}, CR S L ι H i c o → CR S L ι H2 i c o
  | .lst us, _, h => by
    obtain ⟨vs, h1, h2⟩ := h
    exact ⟨vs, h1, h2.skip hD same⟩
  | .dct ks, _, h => by
    obtain ⟨kvs, h1, h2⟩ := h
    exact ⟨kvs, h1.skip hD same, h2⟩
  | .ins c fs, _, h => by
    obtain ⟨dx, fvs, h1, h2, h3⟩ := h
    exact ⟨dx, fvs, h1, h2.skip hD same, h3⟩
/-- a list that the interpreter does not know of is written -/
theorem Rel.skip (R : Rel S L ι G H) {D : Addr} {xs ys : List V} (hD : H D = some (.lst xs)) (hn : D ∉ ι) : Rel S L ι G (L2.upd H D (.lst ys)) := by
  have same : ∀ a, a ≠ D → L2.upd H D (.lst ys) a = H a := fun a h => upd_ne h
  refine ⟨R.len, R.nd, R.lk, fun i c a h1 h2 => ?_⟩
  obtain ⟨o, e1, e2⟩ := R.at_ i c a h1 h2
  exact ⟨o, by rw [same a fun z => hn (by rw [← z]; exact List.mem_of_getElem? h2)]; exact e1, e2.skip hD same⟩
/-- the tests and the element of a comprehension, in its own block -/
def ttB (X : Cx) (ifs : List Expr) (scope : Scope) : TT := fun σ H Q => ∀ (sa : Shared) (Ha : Hp) (D : Addr) (cl : List (Str × Addr)) (fp : List Addr) (pins : List (Addr × Obj)) (s : Shared), Inv (X.blk sa Ha scope (compEnvC scope cl D X.env) fp) pins σ H s → wpAny (model X.prog X.w) X.A (forIn ifs true fun c r => if r = true then do let ok ← PySem.isTrue c (compEnvC scope cl D X.env) (eval c (compEnvC scope cl D X.env)); pure (ForInStep.yield ok) else pure (ForInStep.yield r)) (TP (X.blk sa Ha scope (compEnvC scope cl D X.env) fp) pins σ Q) (fun _ _ => False) s
def teB (X : Cx) (elt : Expr) (scope : Scope) : TE := fun σ H Q => ∀ (sa : Shared) (Ha : Hp) (D : Addr) (cl : List (Str × Addr)) (fp : List Addr), wE (X.blk sa Ha scope (compEnvC scope cl D X.env) fp) elt σ H Q
theorem tt_w {ifs : List Expr} {scope : Scope} (s : Shared) (H : Hp) (D : Addr) (cl : List (Str × Addr)) (fp : List Addr) : PTs (X.blk s H scope (compEnvC scope cl D X.env) fp) ifs (ttB X ifs scope) := ⟨fun pins sb σ Hb Q I q => q s H D cl fp pins sb I⟩
theorem te_w {elt : Expr} {scope : Scope} (s : Shared) (H : Hp) (D : Addr) (cl : List (Str × Addr)) (fp : List Addr) : PE (X.blk s H scope (compEnvC scope cl D X.env) fp) elt (teB X elt scope) := ⟨fun pins sb σ Hb Q I q => q s H D cl fp pins sb I⟩
/-- what a comprehension's rule asks -/
theorem tlc_ok {elt tg iter : Expr} {ifs : List Expr} {scope : Scope} {own : List (Str × Nat)} {k : SrcK} {src : List Ex} {t : Tg} {cnd : List Ts} {m : Ex} (hK : X.K = S.K) (hi : SIt X S ht C W tg iter k src)
    (ht' : ∀ (s : Shared) (H : Hp) (D : Addr) (cl : List (Str × Addr)) (fp : List Addr), STs (X.blk s H scope (compEnvC scope cl D X.env) fp) S ht C (fun _ _ _ _ => False) ifs cnd)
    (he : ∀ (s : Shared) (H : Hp) (D : Addr) (cl : List (Str × Addr)) (fp : List Addr), SE (X.blk s H scope (compEnvC scope cl D X.env) fp) S ht C (fun _ _ _ _ => False) elt m)
    (hown : ∀ i ∈ t.slots, i ∈ own.map (·.2)) {L : List Nat} {ι : List Addr} {G : Gp} {H : Hp} {d : Env} {σ : L2.St} {P : U → Gp → Prop} {E : KXc} {Q : VK} (R : Rel S L ι G H) (En : EnvR S ht ι H d σ) (h : Sat (ev C L (.lc k src t cnd m (own.map (·.2))) d G) P E) (kk : OkK S L ι H P Q) (kx : ExK S L ι H E (fun cls dd H' => W cls dd σ H')) :
    C.hot = false ∧ tLc (wPI X tg iter) (gOf X.K t) (ttB X ifs scope) (teB X elt scope) (own.map (·.2)) σ H Q := by
  unfold ev at h
  split at h
  · exact h.elim
  rename_i hc
  refine ⟨by cases q : C.hot with
    | false => rfl
    | true => exact absurd q hc, ?_⟩
  refine hi L ι G H d σ (fun w n G1 => Sat (if (([] : List Nat).isEmpty = false ∨ LIM < n) then .bad else match lcLoop w (fun x G2 => match asg t x (wipeE d (own.map (·.2))) with
        | none => .bad
        | some d1 => (tsts C ([] ++ L) cnd d1 G2).bind fun b G3 => if b = true then (ev C ([] ++ L) m d1 G3).bind fun u G4 => .ok (some u) G4 else .ok none G3) n 0 G1 with
      | .ok us G5 => Res.ok (.ref G5.length) (G5 ++ [.lst us])
      | _ => .bad) P E) E _ R En (h.bindD.mono (fun us G1 h1 => ?_) fun _ _ _ x => x) (fun w n G1 ι1 H1 J h1 e1 R1 wk => ?_) kx
  · cases hw : walk k us G1 with
    | none => rw [hw] at h1; exact h1.elim
    | some r =>
      obtain ⟨w, lk, n⟩ := r
      rw [hw] at h1
      cases lk with
      | nil => exact ⟨w, n, rfl, h1⟩
      | cons _ _ =>
        simp only [List.isEmpty_cons, true_or, if_true] at h1
        exact h1.elim
  · split at h1
    · exact h1.elim
    rename_i hn
    have hn' : n ≤ LIM := Nat.le_of_not_lt fun z => hn (.inr z)
    generalize hb : (fun (x : U) (G2 : Gp) => (match asg t x (wipeE d (own.map (·.2))) with
        | none => (.bad : Res (Option U))
        | some d1 => (tsts C ([] ++ L) cnd d1 G2).bind fun b G3 => if b = true then (ev C ([] ++ L) m d1 G3).bind fun u G4 => .ok (some u) G4 else .ok none G3)) = body at h1
    intro D hD
    have hDι : D ∉ ι1 := fun z => by
      obtain ⟨_, _, _, _, _, q, _⟩ := R1.here z
      rw [hD] at q; cases q
    have hD0 : H D = none := by
      cases q : H D with
      | none => rfl
      | some o =>
        by_cases z : D ∈ ι
        · obtain ⟨tl, e⟩ := e1.pre
          exact absurd (by rw [e]; exact List.mem_append.mpr (.inl z)) hDι
        · rw [e1.frm D o q z] at hD; cases hD
    refine ⟨fun i mm Hc => ∃ (ι2 : List Addr) (G2 : Gp) (uacc : List U) (acc : List V), Ext ι1 H1 ι2 Hc ∧ Rel S L ι2 G2 Hc ∧ D ∉ ι2 ∧ Hc D = some (.lst acc) ∧ VRs S ι2 Hc uacc acc ∧ acc.length ≤ i ∧ i + mm ≤ n ∧
      Sat (lcLoop w body mm i G2) (fun us G5 => P (.ref G5.length) (G5 ++ [.lst (uacc ++ us)])) (fun _ _ _ => False), ⟨n, ι1, G1, [], [], Ext.upd hD, R1.upd hD, hDι, upd_same, rfl, Nat.zero_le _, by omega, ?_⟩, ?_⟩
    · cases q : lcLoop w body n 0 G1 with
      | ok us G5 => rw [q] at h1; exact h1
      | ex _ _ _ => rw [q] at h1; exact h1.elim
      | bad => rw [q] at h1; exact h1.elim
    · rintro i mm Hc ⟨ι2, G2, uacc, acc, e2, R2, hn2, hc2, r2, l2, lm, hs2⟩
      have stop : itemAt w i G2 = some none → P (.ref G2.length) (G2 ++ [.lst uacc]) → J.stop i Hc ∧ Q (.ref D) Hc := fun hi hP => by
        refine ⟨(wk ι2 G2 Hc i e2 R2).1 hi, ?_⟩
        have e3 := e1.trans e2
        have frm' : ∀ a o, H a = some o → a ∉ ι → Hc a = some o := e3.frm
        refine kk _ _ _ (ι2 ++ [D]) Hc hP ⟨?_, fun a ha => ?_, e3.frm, e3.frz, e3.tup, e3.xd⟩ (R2.adopt hn2 hc2 ⟨acc, rfl, r2⟩) ⟨D, get_app R2.len, rfl⟩
        · obtain ⟨tl, e⟩ := e3.pre
          exact ⟨tl ++ [D], by rw [e, List.append_assoc]⟩
        · rcases List.mem_append.mp ha with ha | ha
          · exact e3.new a ha
          · have : a = D := by simpa using ha
            rw [this]
            exact .inr hD0
      cases mm with
      | zero =>
        refine .inl ?_
        cases hi : itemAt w i G2 with
        | none => simp only [lcLoop, hi] at hs2; exact hs2.elim
        | some o => cases o with
          | none =>
            simp only [lcLoop, hi] at hs2
            exact stop hi (by have := hs2; simp only [Sat, List.append_nil] at this; exact this)
          | some x => simp only [lcLoop, hi] at hs2; exact hs2.elim
      | succ mm =>
        cases hi : itemAt w i G2 with
        | none => simp only [lcLoop, hi] at hs2; exact hs2.elim
        | some o => cases o with
          | none =>
            refine .inl ?_
            simp only [lcLoop, hi] at hs2
            exact stop hi (by have := hs2; simp only [Sat, List.append_nil] at this; exact this)
          | some x =>
            refine .inr ?_
            obtain ⟨g1, g2⟩ := (wk ι2 G2 Hc i e2 R2).2 x hi
            refine ⟨g1, fun Hn => ∃ (ι2 : List Addr) (G2 : Gp) (uacc : List U) (acc : List V), Ext ι1 H1 ι2 Hn ∧ Rel S L ι2 G2 Hn ∧ D ∉ ι2 ∧ Hn D = some (.lst acc) ∧ VRs S ι2 Hn uacc acc ∧ acc.length ≤ i + 1 ∧ i + 1 + mm ≤ n ∧
              Sat (lcLoop w body mm (i + 1) G2) (fun us G5 => P (.ref G5.length) (G5 ++ [.lst (uacc ++ us)])) (fun _ _ _ => False), fun Hn q => ⟨mm, Nat.lt_succ_self _, q⟩, fun v Hy hy => ?_⟩
            obtain ⟨e3, R3, rx⟩ := g2 v Hy hy
            have hc3 : Hy D = some (.lst acc) := e3.frm D _ hc2 hn2
            have hb2 : Sat (body x G2) (fun o G4 => Sat (lcLoop w body mm (i + 1) G4) (fun us G5 => P (.ref G5.length) (G5 ++ [.lst (uacc ++ (o.toList ++ us))])) (fun _ _ _ => False)) (fun _ _ _ => False) := by
              simp only [lcLoop, hi] at hs2
              cases q : body x G2 with
              | ok o G4 =>
                rw [q] at hs2
                simp only at hs2
                cases q2 : lcLoop w body mm (i + 1) G4 with
                | ok us G5 =>
                  rw [q2] at hs2
                  show Sat (lcLoop w body mm (i + 1) G4) _ _
                  rw [q2]
                  exact hs2
                | ex _ _ _ => rw [q2] at hs2; exact hs2.elim
                | bad => rw [q2] at hs2; exact hs2.elim
              | ex _ _ _ => rw [q] at hs2; exact hs2.elim
              | bad => rw [q] at hs2; exact hs2.elim
            have hbx : body x G2 = (match asg t x (wipeE d (own.map (·.2))) with
              | none => (.bad : Res (Option U))
              | some d1 => (tsts C L cnd d1 G2).bind fun b G3 => if b = true then (ev C L m d1 G3).bind fun u G4 => .ok (some u) G4 else .ok none G3) := by rw [← hb]; rfl
            rw [hbx] at hb2
            cases ha : asg t x (wipeE d (own.map (·.2))) with
            | none => rw [ha] at hb2; exact hb2.elim
            | some d1 =>
              rw [ha] at hb2
              have En2 : EnvR S ht ι2 Hy (wipeE d (own.map (·.2))) (wipe σ (own.map (·.2))) := (En.mono ((e1.trans e2).trans e3)).wipe _
              refine asg_ok hK t En2 rx ha fun σ1 En3 hw => ⟨?_, ?_⟩
              · rw [hw _ hown]
                refine List.ext_getElem? fun j => ?_
                by_cases hj : j ∈ own.map (·.2)
                · rw [wipe_in hj, wipe_in hj, wipe_length]
                · rw [wipe_out hj]
              · have h2 : Sat (tsts C L cnd d1 G2) (fun b G3 => Sat (if b = true then (ev C L m d1 G3).bind fun u G4 => Res.ok (some u) G4 else .ok none G3) (fun o G4 => Sat (lcLoop w body mm (i + 1) G4) (fun us G5 => P (.ref G5.length) (G5 ++ [.lst (uacc ++ (o.toList ++ us))])) (fun _ _ _ => False)) (fun _ _ _ => False)) (fun _ _ _ => False) := Sat.bindD hb2
                intro sa Ha Da cl fp pins s I
                refine ht' sa Ha Da cl fp L ι2 G2 Hy d1 σ1 _ (fun _ _ _ => False) _ R3 En3 h2 (fun b G3 ι3 H3 h3 e4 R4 => ?_) (fun _ _ _ _ _ _ z => z.elim) pins s I
                have hn3 : D ∉ ι3 := fun z => by
                  rcases e4.new D z with z | z
                  · exact hn2 z
                  · rw [hc3] at z; cases z
                have hc4 : H3 D = some (.lst acc) := e4.frm D _ hc3 hn2
                cases b with
                | false =>
                  rw [if_neg Bool.false_ne_true] at h3 ⊢
                  exact ⟨ι3, G3, uacc, acc, (e2.trans e3).trans e4, R4, hn3, hc4, (r2.mono e3).mono e4, by omega, by omega, h3⟩
                | true =>
                  rw [if_pos rfl] at h3 ⊢
                  intro sb Hb Db cl' fp'
                  refine he sb Hb Db cl' fp' L ι3 G3 H3 d1 σ1 _ (fun _ _ _ => False) _ R4 (En3.mono e4) (Sat.bindD h3) (fun u G4 y ι4 H4 h4 e5 R5 r5 => ?_) (fun _ _ _ _ _ _ z => z.elim)
                  have hn4 : D ∉ ι4 := fun z => by
                    rcases e5.new D z with z | z
                    · exact hn3 z
                    · rw [hc4] at z; cases z
                  have hc5 : H4 D = some (.lst acc) := e5.frm D _ hc4 hn3
                  refine ⟨acc, hc5, lim_lt (by omega), ι4, G4, uacc ++ [u], acc ++ [y], ext_skip (((e2.trans e3).trans e4).trans e5) hD (fun a h => upd_ne h), R5.skip hc5 hn4, hn4, upd_same, ?_, by rw [List.length_append, List.length_singleton]; omega, by omega, ?_⟩
                  · exact (((((r2.mono e3).mono e4).mono e5)).app (.one r5)).skip hc5 fun a h => upd_ne h
                  · refine Sat.mono (show Sat (lcLoop w body mm (i + 1) G4) (fun us G5 => P (.ref G5.length) (G5 ++ [.lst (uacc ++ ((some u).toList ++ us))])) (fun _ _ _ => False) from h4) (fun us G5 hp => ?_) fun _ _ _ z => z
                    rw [List.append_assoc]
                    exact hp
/-- [elt for tg in iter if ..] -/
theorem se_lc {elt tg iter : Expr} {ifs : List Expr} {scope : Scope} {own : List (Str × Nat)} {k : SrcK} {src : List Ex} {t : Tg} {cnd : List Ts} {m : Ex} (hK : X.K = S.K) (hcalm : C.hot = false → X.calm = true) (hN : X.N.Nodup) (hi : SIt X S ht C W tg iter k src) (ok : BlkOk X.N X.env.scope scope own)
    (hg : ∀ (s : Shared) (H : Hp) (D : Addr) (cl : List (Str × Addr)) (fp : List Addr), X.calm = true → PG (X.blk s H scope (compEnvC scope cl D X.env) fp) tg (gOf X.K t))
    (ht' : ∀ (s : Shared) (H : Hp) (D : Addr) (cl : List (Str × Addr)) (fp : List Addr), STs (X.blk s H scope (compEnvC scope cl D X.env) fp) S ht C (fun _ _ _ _ => False) ifs cnd)
    (he : ∀ (s : Shared) (H : Hp) (D : Addr) (cl : List (Str × Addr)) (fp : List Addr), SE (X.blk s H scope (compEnvC scope cl D X.env) fp) S ht C (fun _ _ _ _ => False) elt m)
    (hs : notSet iter = true) (hown : ∀ i ∈ t.slots, i ∈ own.map (·.2)) : SE X S ht C W (.ListComp elt [⟨tg, iter, ifs, 0⟩] scope pos) (.lc k src t cnd m (own.map (·.2))) := by
  intro L ι G H d σ P E Q R En h kk kx
  obtain ⟨c1, c2⟩ := tlc_ok hK hi ht' he hown R En h kk kx
  exact .of (pe_lc (hcalm c1) hN pi_w ok (fun s H D cl fp => hg s H D cl fp (hcalm c1)) tt_w te_w (not_folded hs)) c2
end
end PV
set_option Elab.async false
set_option linter.all false
set_option maxRecDepth 100000
set_option maxHeartbeats 1000000
/-! PyCl: calls of the program's own defs and classes. -/
namespace PV
open PySem PySem.Spec L2
/-- the promise of a def: whatever the interpreter's call gives -/
def spRun (S : Sta) (call : List Nat → List U → Gp → Res U) (n : Nat) : Sp := fun vs H Q Ex => vs.length = n ∧ ∃ (L : List Nat) (ι : List Addr) (G : Gp) (us : List U) (P : U → Gp → Prop) (E : KXc), Rel S L ι G H ∧ VRs S ι H us vs ∧ Sat (call L us G) P E ∧ OkK S L ι H P Q ∧ ExK S L ι H E Ex
def FnP (X : Cx) (S : Sta) (C : Ctx) (c f : String) (a : Addr) (fd : FuncData) (ps : List Str) : Prop := ∃ k, FnOk X.prog X.w X.K X.mg X.base (L2.CX X.prog X.w) k a fd ps (spRun S (fun L us G => C.call false L c f us G) ps.length) ∧ (C.hot = false → Room (k + 1) X.A)
section
variable {X : Cx} {S : Sta} {ht : Hot} {C : Ctx} {W : WX} {pos : Pos}
theorem sa_run {es : List Expr} {ms : List Ex} (ha : SA X S ht C W es ms) {L : List Nat} {ι : List Addr} {G : Gp} {H : Hp} {d : Env} {σ : L2.St} {P : List U → Gp → Prop} {E : KXc} {Q : List V → Hp → Prop} (R : Rel S L ι G H) (En : EnvR S ht ι H d σ) (h : Sat (evs C L ms d G) P E) (k : OkA S L ι H P Q) (kx : ExK S L ι H E (fun cls dd H' => W cls dd σ H')) : wA X es σ H Q :=
  ha L ι G H d σ P E Q R En h k kx
theorem se_call {z : Str} {f : String} {a : Addr} {fd : FuncData} {ps : List Str} {p : Pos} {es : List Expr} {ms : List Ex} (hg : glB X.env.scope z = true) (hdb : (z == ("__debug__" : Str)) = false) (hm : X.mg z = some (.ref a)) (hk : PySem.W.keepIn X.K (.ref a) = true) (hF : FnP X S C "" f a fd ps) (hb : Binds X.K fd ps [])
    (hl : ∀ L us G P E, Sat (C.call false L "" f us G) P E → us.length = ps.length) (hot : C.hot = true → ∀ L us G, C.call true L "" f us G = .bad) (tk : Takes X W) (hst : es.any isStar = false) (hms : es = [] → ms = []) (ha : SA X S ht C W es ms) : SE X S ht C W (.Call (.Name z p) es [] pos) (.call f ms) := by
  intro L ι G H d σ P E Q R En h kk kx pins s I
  obtain ⟨k, F, hr⟩ := hF
  refine wpAny_Call_Name_kw (ld_glob I (gl_of hg) hm ?_ hdb)
  have fin : ∀ (us : List Value) (s1 : Shared) (vs : List V) (H1 : Hp), Inv X pins σ H1 s1 → Vals vs us → (∃ us G1 ι1, Sat (C.call C.hot L "" f us G1) P E ∧ Ext ι H ι1 H1 ∧ Rel S L ι1 G1 H1 ∧ VRs S ι1 H1 us vs) → wpAny (model X.prog X.w) X.A (call (.ref a) us) (EP X pins σ Q) X.xe s1 := by
    intro us s1 vs H1 I1 r ⟨uu, G1, ι1, h1, e1, R1, r1⟩
    have hc : C.hot = false := by
      cases q : C.hot with
      | false => rfl
      | true =>
        rw [q, hot q] at h1
        exact h1.elim
    rw [hc] at h1
    exact run_fnS F ((hr hc).mono (Nat.le_succ _)) hb (passAt tk σ) I1 r ⟨by rw [r1.length]; exact hl _ _ _ _ _ h1, L, ι1, G1, uu, P, E, R1, r1, h1, kk.ext e1, kx.ext e1⟩
  have hA := sa_run ha R En h.bindD (Q := fun vs H1 => ∃ us G1 ι1, Sat (C.call C.hot L "" f us G1) P E ∧ Ext ι H ι1 H1 ∧ Rel S L ι1 G1 H1 ∧ VRs S ι1 H1 us vs) (fun us G1 vs ι1 H1 h1 e1 R1 r1 => ⟨us, G1, ι1, h1, e1, R1, r1⟩) kx pos pins s I
  cases es with
  | nil =>
    have em := hms rfl
    subst em
    exact PySem.W.callWith_K0 I.kIn hk (fin [] s [] H I .nil ⟨[], G, ι, h, Ext.refl _ _, R, rfl⟩)
  | cons e es =>
    rw [List.any_cons, Bool.or_eq_false_iff] at hst
    refine PySem.W.callWith_K (h₀ := X.base) I.ok.mod.kin hk (thn hA fun us s1 ⟨vs, H1, I1, r, q⟩ => ⟨I1.kIn, fin us s1 vs H1 I1 r q⟩) (star_cons hst.1) (star_any hst.2)
/-! ### C(.., k = v, ..) -/
/-- the keywords' values -/
def wK (X : Cx) (kws : List Keyword) : TA := fun σ H Q => ∀ (pos : Pos) (pins : List (Addr × Obj)) (s : Shared), Inv X pins σ H s → wpAny (model X.prog X.w) X.A (evalAll ((backToKw pos (keywordEach kws X.env)).map (·.2))) (AP X pins σ Q) X.xe s
theorem pk_w {kws : List Keyword} : PK X kws (wK X kws) := ⟨fun pos pins s σ H Q I q => q pos pins s I⟩
theorem wK.of {kws : List Keyword} {t : TA} {σ : L2.St} {H : Hp} {Q : List V → Hp → Prop} (h : PK X kws t) (q : t σ H Q) : wK X kws σ H Q := fun pos pins s I => h.run pos pins s σ H Q I q
def SK (X : Cx) (S : Sta) (ht : Hot) (C : Ctx) (W : WX) (es : List Keyword) (ms : List Ex) : Prop :=
  ∀ (L : List Nat) (ι : List Addr) (G : Gp) (H : Hp) (d : Env) (σ : L2.St) (P : List U → Gp → Prop) (E : KXc) (Q : List V → Hp → Prop), Rel S L ι G H → EnvR S ht ι H d σ → Sat (evs C L ms d G) P E → OkA S L ι H P Q → ExK S L ι H E (fun cls dd H' => W cls dd σ H') → wK X es σ H Q
theorem sk_nil : SK X S ht C W [] [] := fun L ι G H d σ P E Q R En h k kx => .of pk_nil (k [] G [] ι H h (Ext.refl _ _) R rfl)
theorem sk_cons {nm : Option Str} {kp : Pos} {e : Expr} {es : List Keyword} {m : Ex} {ms : List Ex} (he : SE X S ht C W e m) (hr : SK X S ht C W es ms) : SK X S ht C W (⟨nm, e, kp⟩ :: es) (m :: ms) := by
  intro L ι G H d σ P E Q R En h k kx
  refine .of (pk_cons pe_w pk_w) (he L ι G H d σ _ E _ R En h.bindD (fun x G1 v ι1 H1 h1 e1 R1 r1 => ?_) kx)
  refine hr L ι1 G1 H1 d σ _ E _ R1 (En.mono e1) h1.bindD (fun us G2 vs ι2 H2 h2 e2 R2 r2 => ?_) (kx.ext e1)
  exact k _ _ _ _ _ h2 (e1.trans e2) R2 ⟨v, vs, rfl, r1.mono e2, r2⟩
/-- the keywords' names -/
def kwN : List Keyword → Option (List Str)
  | [] => some []
  | ⟨some n, _, _⟩ :: r => (kwN r).map (n :: ·)
  | ⟨none, _, _⟩ :: _ => none
theorem kwN_ok : ∀ {kws : List Keyword} {ks : List Str} {env : PySem.Env} {p : Pos}, kwN kws = some ks → (backToKw p (keywordEach kws env)).all (·.1.isSome) = true ∧ (backToKw p (keywordEach kws env)).filterMap (·.1) = ks ∧ (backToKw p (keywordEach kws env)).any (·.1.isNone) = false
  | [], ks, env, p, h => by cases h; exact ⟨rfl, rfl, rfl⟩
  | ⟨some n, e, q⟩ :: r, ks, env, p, h => by
    cases hk : kwN r with
    | none => simp only [kwN, hk] at h; cases h
    | some ks' =>
      simp only [kwN, hk, Option.map_some] at h
      cases h
      obtain ⟨h1, h2, h3⟩ := kwN_ok (env := env) (p := p) hk
      refine ⟨?_, ?_, ?_⟩
      · show ((some n).isSome && (backToKw p (keywordEach r env)).all (·.1.isSome)) = true
        rw [h1]; rfl
      · show n :: (backToKw p (keywordEach r env)).filterMap (·.1) = n :: ks'
        rw [h2]
      · show ((some n).isNone || (backToKw p (keywordEach r env)).any (·.1.isNone)) = false
        rw [h3]; rfl
  | ⟨none, _, _⟩ :: _, ks, env, p, h => by cases h
/-- how the parameters behind self are filled: n positional values, the keywords ks -/
def Shape (K : PySem.W.Frag) (S : Sta) (fd : FuncData) (ps : List Str) (n : Nat) (ks : List Str) (bd : Bnd) : Prop := ∃ (g : List Value → List Value → List Value) (gV : List V → List V → List V), KBn K fd ps (n + 1) ks g gV ∧
  ∀ (ι : List Addr) (H : Hp) (x : V) (us ws pus : List U) (vs zs : List V), us.length = n → ws.length = ks.length → bindP bd (us ++ ws) = some pus → VRs S ι H us vs → VRs S ι H ws zs → ∃ pvs, gV (x :: vs) zs = x :: pvs ∧ VRs S ι H pus pvs
theorem run_mk {k n : Nat} {f Cc : Addr} {fd : FuncData} {ps ks : List Str} {sp : Sp} {g : List Value → List Value → List Value} {gV : List V → List V → List V} {pins : List (Addr × Obj)} {σ : L2.St} {H : Hp} {s : Shared} {Q : VK} {us ws : List Value} {vs zs : List V} {E : XK} (M : Mk X.K Cc f) (F : FnOk X.prog X.w X.K X.mg X.base (L2.CX X.prog X.w) k f fd ps sp) (hr : Room (k + 1) X.A) (hb : KBn X.K fd ps (n + 1) ks g gV) (hx : PassesAt (L2.CX X.prog X.w) X σ E)
    (I : Inv X pins σ H s) (r : Vals vs us) (rz : Vals zs ws) (l1 : vs.length = n) (l2 : zs.length = ks.length)
    (h : ∀ x dx, H x = none → H dx = none → dx ≠ x → sp (gV (.ref x :: vs) zs) (L2.upd (L2.upd H dx (.own x)) x (.ins Cc dx [])) (fun v H2 => v = .non ∧ Q (.ref x) H2) E) : wpAny (model X.prog X.w) X.A (call (.ref Cc) us (ks.zip ws)) (EP X pins σ Q) X.xe s := by
  have I2 := Inv.made (C := Cc) I
  have r1 : Vals (V.ref (s.heap.objs.size + 1) :: vs) (Value.ref (s.heap.objs.size + 1) :: us) := .cons rfl r
  have n1 : (Value.ref (s.heap.objs.size + 1) :: us).length = n + 1 := by rw [List.length_cons, ← r.length, l1]
  have q := h (s.heap.objs.size + 1) s.heap.objs.size (I.hok.fresh (Nat.le_succ _)) (I.hok.fresh (Nat.le_refl _)) (Nat.ne_of_lt (Nat.lt_succ_self _))
  have run := F.run _ X.stack _ _ ⟨Value.ref (s.heap.objs.size + 1) :: us, ks.zip ws⟩ (g (Value.ref (s.heap.objs.size + 1) :: us) ws) _ _ E (hr.make Cc us (ks.zip ws)) (I2.env0.make Cc us (ks.zip ws)) (hb.to _ _ ws I2.kIn n1 (rz.length.symm.trans l2)) (hb.rel r1 rz) q
  refine wpAny_call (make_map (f := f) I.kIn M.makes M.init (beq_iff_eq.mp M.fn) (codeAny_mono run fun rr s2 hq => ?_))
  cases rr with
  | error e => exact hx pins _ _ e s2 I2 hq
  | ok fl => cases fl with
    | ret u =>
      obtain ⟨v, H3, I3, rv, ev, q3⟩ := I2.after hq
      subst ev
      exact ⟨rv, V.ref (s.heap.objs.size + 1), H3, I3, rfl, q3⟩
    | next => exact hq.elim
    | brk => exact hq.elim
    | cont => exact hq.elim
theorem se_mk {z : Str} {c : String} {f : Addr} {fd : FuncData} {ps ks : List Str} {kss : List String} {p : Pos} {e : Expr} {es : List Expr} {kws : List Keyword} {ms kms : List Ex} {bd : Bnd} (hg : glB X.env.scope z = true) (hdb : (z == ("__debug__" : Str)) = false) (hc : c ∈ S.cls) (hm : X.mg z = some (.ref (S.ca c))) (M : Mk X.K (S.ca c) f) (hF : FnP X S C c "__init__" f fd ps)
    (hb : Shape X.K S fd ps ms.length ks bd) (hl : ∀ L us G P E, Sat (C.call false L c "__init__" us G) P E → us.length = ps.length) (hot : C.hot = true → ∀ L us G, C.call true L c "__init__" us G = .bad) (tk : Takes X W) (hst : (e :: es).any isStar = false) (hkn : kwN kws = some ks) (hkl : kms.length = ks.length)
    (ha : SA X S ht C W (e :: es) ms) (hk : SK X S ht C W kws kms) : SE X S ht C W (.Call (.Name z p) (e :: es) kws pos) (.mk c ms kss kms bd) := by
  intro L ι G H d σ P E Q R En h kk kx pins s I
  obtain ⟨k, F, hr⟩ := hF
  obtain ⟨g, gV, hKB, hrel⟩ := hb
  rw [List.any_cons, Bool.or_eq_false_iff] at hst
  obtain ⟨n1, n2, n3⟩ := kwN_ok (env := X.env) (p := pos) hkn
  refine wpAny_Call_Name_kw (ld_glob I (gl_of hg) hm ?_ hdb)
  have hA := ha L ι G H d σ _ E (fun vs H1 => ∃ us G1 ι1, (us.length = ms.length ∧ Sat ((evs C L kms d G1).bind fun ws G2 => match bindP bd (us ++ ws) with
    | none => .bad
    | some ps => match C.call C.hot L c "__init__" (.ref G2.length :: ps) (G2 ++ [.ins c []]) with
      | .ok .non G3 => .ok (.ref G2.length) G3
      | .ex e fs G3 => .ex e fs G3
      | _ => .bad) P E) ∧ Ext ι H ι1 H1 ∧ Rel S L ι1 G1 H1 ∧ VRs S ι1 H1 us vs) R En (evs_len h.bindD) (fun us G1 vs ι1 H1 h1 e1 R1 r1 => ⟨us, G1, ι1, h1, e1, R1, r1⟩) kx pos pins s I
  refine PySem.W.callWith_KW (h₀ := X.base) I.ok.mod.kin M.kp n1 (thn hA fun us s1 ⟨vs, H1, I1, r, uu, G1, ι1, ⟨lu, h1⟩, e1, R1, r1⟩ => ?_) (by rw [show (backTo pos (starEach (e :: es) X.env)).any (·.1) = false from star_any (by rw [List.any_cons, hst.1, hst.2]; rfl), n3]; rfl) (star_cons hst.1)
  have hK := hk L ι1 G1 H1 d σ _ E (fun zs H2 => ∃ ws G2 ι2, (ws.length = kms.length ∧ Sat (match bindP bd (uu ++ ws) with
    | none => (.bad : Res U)
    | some ps => match C.call C.hot L c "__init__" (.ref G2.length :: ps) (G2 ++ [.ins c []]) with
      | .ok .non G3 => .ok (.ref G2.length) G3
      | .ex e fs G3 => .ex e fs G3
      | _ => .bad) P E) ∧ Ext ι1 H1 ι2 H2 ∧ Rel S L ι2 G2 H2 ∧ VRs S ι2 H2 ws zs) R1 (En.mono e1) (evs_len h1.bindD) (fun ws G2 zs ι2 H2 h2 e2 R2 r2 => ⟨ws, G2, ι2, h2, e2, R2, r2⟩) (kx.ext e1) pos pins s1 I1
  refine thn hK fun wv s2 ⟨zs, H2, I2, rz, ws, G2, ι2, ⟨lw, h2⟩, e2, R2, r2⟩ => ⟨I2.kIn, ?_⟩
  rw [n2]
  cases hbp : bindP bd (uu ++ ws) with
  | none => rw [hbp] at h2; exact h2.elim
  | some pus =>
    rw [hbp] at h2
    simp only at h2
    have hcl : C.hot = false := by
      cases q : C.hot with
      | false => rfl
      | true =>
        rw [q, hot q] at h2
        exact h2.elim
    rw [hcl] at h2
    have h3 : Sat (C.call false L c "__init__" (.ref G2.length :: pus) (G2 ++ [.ins c []])) (fun u G3 => u = .non ∧ P (.ref G2.length) G3) E := by
      cases q : C.call false L c "__init__" (.ref G2.length :: pus) (G2 ++ [.ins c []]) with
      | ok u G3 =>
        rw [q] at h2
        cases u with
        | non => exact ⟨rfl, h2⟩
        | _ => exact h2.elim
      | ex _ _ _ => rw [q] at h2; exact h2
      | bad => rw [q] at h2; exact h2.elim
    refine run_mk M F (hr hcl) hKB (passAt tk σ) I2 r rz (by rw [r1.length, lu]) (by rw [r2.length, lw, hkl]) fun x dx hx hdx hne => ?_
    have hdx' : L2.upd H2 dx (.own x) x = none := by rw [upd_ne (Ne.symm hne)]; exact hx
    have e3 : Ext ι2 H2 ι2 (L2.upd H2 dx (.own x)) := Ext.upd hdx
    have e4 := Ext.app (ι := ι2) (o := .ins (S.ca c) dx []) hdx'
    have R3 := (R2.upd (o := .own x) hdx).app (c := .ins c []) (o := .ins (S.ca c) dx []) hdx' ⟨dx, [], rfl, rfl, hc⟩
    have e34 := e3.trans e4
    obtain ⟨pvs, ev, rv⟩ := hrel (ι2 ++ [x]) _ (.ref x) uu ws pus vs zs lu (lw.trans hkl) hbp ((r1.mono e2).mono e34) (r2.mono e34)
    have rf : VRs S (ι2 ++ [x]) (L2.upd (L2.upd H2 dx (.own x)) x (.ins (S.ca c) dx [])) (.ref G2.length :: pus) (.ref x :: pvs) := ⟨.ref x, pvs, rfl, ⟨x, get_app R2.len, rfl⟩, rv⟩
    rw [ev]
    refine ⟨by rw [rf.length]; exact hl _ _ _ _ _ h3, L, ι2 ++ [x], G2 ++ [.ins c []], _, _, E, R3, rf, h3, fun u G4 v ι4 H4 hp e5 R5 r5 => ?_, (kx.ext (e1.trans e2)).ext e34⟩
    obtain ⟨hu, hP⟩ := hp
    subst hu
    exact ⟨r5, kk _ _ _ _ _ hP ((((e1.trans e2).trans e34)).trans e5) R5 ⟨x, e5.get (get_app R2.len), rfl⟩⟩
end
end PV
set_option Elab.async false
set_option linter.all false
set_option maxRecDepth 100000
set_option maxHeartbeats 1000000
/-! PySt: statements. -/
namespace PV
open PySem PySem.Spec L2
def wS (X : Cx) (st : Stmt) : TS := fun D σ H => ∀ (pins : List (Addr × Obj)) (s : Shared), Inv X pins σ H s → wpAny (model X.prog X.w) X.A (exec st X.env) (SP X pins D) X.xe s
def wB (X : Cx) (st : List Stmt) : TS := fun D σ H => ∀ (pins : List (Addr × Obj)) (s : Shared), Inv X pins σ H s → wpAny (model X.prog X.w) X.A (execs st X.env) (SP X pins D) X.xe s
theorem ps_w {X : Cx} {st : Stmt} : PS X st (wS X st) := ⟨fun pins s σ H D I q => q pins s I⟩
theorem pb_w {X : Cx} {st : List Stmt} : PSs X st (wB X st) := ⟨fun pins s σ H D I q => q pins s I⟩
theorem wS.of {X : Cx} {st : Stmt} {t : TS} {D : Ends} {σ : L2.St} {H : Hp} (h : PS X st t) (q : t D σ H) : wS X st D σ H := fun pins s I => h.run pins s σ H D I q
theorem wB.of {X : Cx} {st : List Stmt} {t : TS} {D : Ends} {σ : L2.St} {H : Hp} (h : PSs X st t) (q : t D σ H) : wB X st D σ H := fun pins s I => h.run pins s σ H D I q
/-- what is wanted of the interpreter's end -/
structure FK where
  nx : Env → Gp → Prop
  rt : U → Gp → Prop
  bk : Env → Gp → Prop
  ct : Env → Gp → Prop
  ex : String → List (String × U) → Env → Gp → Prop
def FSat (r : Fl) (K : FK) : Prop := match r with
  | .nx d G => K.nx d G
  | .rt u G => K.rt u G
  | .bk d G => K.bk d G
  | .ct d G => K.ct d G
  | .ex c fs d G => K.ex c fs d G
  | .bad => False
structure EndOk (S : Sta) (ht : Hot) (L : List Nat) (ι : List Addr) (H : Hp) (K : FK) (D : Ends) (W : WX) : Prop where
  nx : ∀ d1 G1 ι1 H1 σ1, K.nx d1 G1 → Ext ι H ι1 H1 → Rel S L ι1 G1 H1 → EnvR S ht ι1 H1 d1 σ1 → D.nx σ1 H1
  rt : ∀ u G1 v ι1 H1, K.rt u G1 → Ext ι H ι1 H1 → Rel S L ι1 G1 H1 → VR S ι1 H1 u v → D.rt v H1
  bk : ∀ d1 G1 ι1 H1 σ1, K.bk d1 G1 → Ext ι H ι1 H1 → Rel S L ι1 G1 H1 → EnvR S ht ι1 H1 d1 σ1 → D.bk σ1 H1
  ct : ∀ d1 G1 ι1 H1 σ1, K.ct d1 G1 → Ext ι H ι1 H1 → Rel S L ι1 G1 H1 → EnvR S ht ι1 H1 d1 σ1 → D.ct σ1 H1
  ex : ∀ c fs d1 G1 dd ι1 H1 σ1, K.ex c fs d1 G1 → Ext ι H ι1 H1 → Rel S L ι1 G1 H1 → EnvR S ht ι1 H1 d1 σ1 → XD S ι1 H1 fs dd → W (.ref (S.ca c)) dd σ1 H1
theorem EndOk.ext {S : Sta} {ht : Hot} {L : List Nat} {ι ι1 : List Addr} {H H1 : Hp} {K : FK} {D : Ends} {W : WX} (k : EndOk S ht L ι H K D W) (e : Ext ι H ι1 H1) : EndOk S ht L ι1 H1 K D W :=
  ⟨fun d1 G1 ι2 H2 σ1 p e2 => k.nx d1 G1 ι2 H2 σ1 p (e.trans e2), fun u G1 v ι2 H2 p e2 => k.rt u G1 v ι2 H2 p (e.trans e2), fun d1 G1 ι2 H2 σ1 p e2 => k.bk d1 G1 ι2 H2 σ1 p (e.trans e2), fun d1 G1 ι2 H2 σ1 p e2 => k.ct d1 G1 ι2 H2 σ1 p (e.trans e2), fun c fs d1 G1 dd ι2 H2 σ1 p e2 => k.ex c fs d1 G1 dd ι2 H2 σ1 p (e.trans e2)⟩
/-- the statement st does what m does -/
def SS (X : Cx) (S : Sta) (ht : Hot) (C : Ctx) (W : WX) (st : Stmt) (m : Stm) : Prop :=
  ∀ (L : List Nat) (ι : List Addr) (G : Gp) (H : Hp) (d : Env) (σ : L2.St) (K : FK) (D : Ends), Rel S L ι G H → EnvR S ht ι H d σ → FSat (exS C L m d G) K → EndOk S ht L ι H K D W → wS X st D σ H
def SB (X : Cx) (S : Sta) (ht : Hot) (C : Ctx) (W : WX) (st : List Stmt) (ms : List Stm) : Prop :=
  ∀ (L : List Nat) (ι : List Addr) (G : Gp) (H : Hp) (d : Env) (σ : L2.St) (K : FK) (D : Ends), Rel S L ι G H → EnvR S ht ι H d σ → FSat (exB C L ms d G) K → EndOk S ht L ι H K D W → wB X st D σ H
theorem FSat.stD {α : Type} {r : Res α} {d : Env} {f : α → Gp → Fl} {K : FK} (h : FSat (r.st d f) K) : Sat r (fun a G => FSat (f a G) K) (fun c fs G => K.ex c fs d G) := by
  cases r <;> exact h
section
variable {X : Cx} {S : Sta} {ht : Hot} {C : Ctx} {W : WX} {L : List Nat} {ι : List Addr} {G : Gp} {H : Hp} {d : Env} {σ : L2.St} {K : FK} {D : Ends} {pos : Pos}
theorem EndOk.exk (k : EndOk S ht L ι H K D W) (En : EnvR S ht ι H d σ) : ExK S L ι H (fun c fs G => K.ex c fs d G) (fun cls dd H' => W cls dd σ H') :=
  fun c fs G1 dd ι1 H1 p e R x => k.ex c fs d G1 dd ι1 H1 σ p e R (En.mono e) x
theorem ss_pass : SS X S ht C W (.Pass pos) .pass := fun L ι G H d σ K D R En h k => .of ps_pass (k.nx d G ι H σ h (Ext.refl _ _) R En)
theorem ss_brk : SS X S ht C W (.Break pos) .brk := fun L ι G H d σ K D R En h k => .of ps_break (k.bk d G ι H σ h (Ext.refl _ _) R En)
theorem ss_cont : SS X S ht C W (.Continue pos) .cont := fun L ι G H d σ K D R En h k => .of ps_continue (k.ct d G ι H σ h (Ext.refl _ _) R En)
theorem ss_retN : SS X S ht C W (.Return none pos) .retN := fun L ι G H d σ K D R En h k => .of ps_retN (k.rt .non G .non ι H h (Ext.refl _ _) R rfl)
theorem ss_ret {e : Expr} {m : Ex} (he : SE X S ht C W e m) : SS X S ht C W (.Return (some e) pos) (.ret m) := fun L ι G H d σ K D R En h k =>
  .of (ps_ret pe_w) (he L ι G H d σ _ _ _ R En h.stD (fun u G1 v ι1 H1 hp e1 R1 r1 => k.rt u G1 v ι1 H1 hp e1 R1 r1) (k.exk En))
/-- no comprehension -/
def noLC : Expr → Bool
  | .ListComp _ _ _ _ => false
  | .SetComp _ _ _ _ => false
  | .DictComp _ _ _ _ _ => false
  | _ => true
theorem noLC_ok {e : Expr} {t : Option Expr} {n : Nat} {env : PySem.Env} (h : noLC e = true) : swapsWith e t n env = pure false := by
  cases e with
  | ListComp _ _ _ _ => cases h
  | SetComp _ _ _ _ => cases h
  | DictComp _ _ _ _ _ => cases h
  | _ => rfl
theorem ss_exp {e : Expr} {m : Ex} (hn : noLC e = true) (he : SE X S ht C W e m) : SS X S ht C W (.Expr e pos) (.exp m) := fun L ι G H d σ K D R En h k =>
  .of (ps_expr pe_w (noLC_ok hn)) (he L ι G H d σ _ _ _ R En h.stD (fun u G1 v ι1 H1 hp e1 R1 r1 => k.nx d G1 ι1 H1 σ hp e1 R1 (En.mono e1)) (k.exk En))
theorem ss_if {c : Expr} {a b : List Stmt} {mc : Ts} {ma mb : List Stm} (hc : ST X S ht C W c mc) (ha : SB X S ht C W a ma) (hb : SB X S ht C W b mb) : SS X S ht C W (.If c a b pos) (.iff mc ma mb) := by
  intro L ι G H d σ K D R En h k
  refine .of (ps_if pt_w pb_w pb_w) (hc L ι G H d σ _ _ _ R En h.stD (fun t G1 ι1 H1 hp e1 R1 => ?_) (k.exk En))
  cases t with
  | true => exact ha L ι1 G1 H1 d σ K D R1 (En.mono e1) hp (k.ext e1)
  | false => exact hb L ι1 G1 H1 d σ K D R1 (En.mono e1) hp (k.ext e1)
theorem sb_nil : SB X S ht C W [] [] := fun L ι G H d σ K D R En h k => .of pss_nil (k.nx d G ι H σ h (Ext.refl _ _) R En)
theorem sb_cons {st : Stmt} {sts : List Stmt} {m : Stm} {ms : List Stm} (hs : SS X S ht C W st m) (hr : SB X S ht C W sts ms) : SB X S ht C W (st :: sts) (m :: ms) := by
  intro L ι G H d σ K D R En h k
  refine .of (pss_cons ps_w pb_w) ?_
  have h' : FSat (exS C L m d G) { K with nx := fun d1 G1 => FSat (exB C L ms d1 G1) K } := by
    unfold exB at h
    cases q : exS C L m d G <;> (rw [q] at h; exact h)
  refine hs L ι G H d σ _ _ R En h' ⟨fun d1 G1 ι1 H1 σ1 hp e1 R1 En1 => ?_, k.rt, k.bk, k.ct, k.ex⟩
  exact hr L ι1 G1 H1 d1 σ1 K D R1 En1 hp (k.ext e1)
/-! ### stores -/
/-- name = [elt for tg in iter if ..], the stores exchanged -/
theorem ss_setLc {i : Nat} {y : Str} {py spos : Pos} {elt tg iter : Expr} {ifs : List Expr} {scope : Scope} {own : List (Str × Nat)} {k : SrcK} {src : List Ex} {t : Tg} {cnd : List Ts} {m : Ex} (hK : X.K = S.K) (hcalm : C.hot = false → X.calm = true) (hN : X.N.Nodup) (hy : X.N[i]? = some y) (hyl : X.env.scope.names.lookup y = some .local)
    (hsw : swapsWith (.ListComp elt [⟨tg, iter, ifs, 0⟩] scope pos) (some (.Name y py)) spos.line X.env = pure true) (hi : SIt X S ht C W tg iter k src) (ok : BlkOk X.N X.env.scope scope own)
    (hg : ∀ (s : Shared) (H : Hp) (D : Addr) (cl : List (Str × Addr)) (fp : List Addr), X.calm = true → PG (X.blk s H scope (compEnvC scope cl D X.env) fp) tg (gOf X.K t))
    (ht' : ∀ (s : Shared) (H : Hp) (D : Addr) (cl : List (Str × Addr)) (fp : List Addr), STs (X.blk s H scope (compEnvC scope cl D X.env) fp) S ht C (fun _ _ _ _ => False) ifs cnd)
    (he : ∀ (s : Shared) (H : Hp) (D : Addr) (cl : List (Str × Addr)) (fp : List Addr), SE (X.blk s H scope (compEnvC scope cl D X.env) fp) S ht C (fun _ _ _ _ => False) elt m)
    (hs : notSet iter = true) (hown : ∀ i ∈ t.slots, i ∈ own.map (·.2)) : SS X S ht C W (.Assign [.Name y py] (.ListComp elt [⟨tg, iter, ifs, 0⟩] scope pos) spos) (.set (.nm i) (.lc k src t cnd m (own.map (·.2)))) := by
  intro L ι G H d σ K D R En h kk
  have h : FSat ((ev C L (.lc k src t cnd m (own.map (·.2))) d G).st d fun u G1 => match asg (.nm i) u d with
    | some d1 => .nx d1 G1
    | none => .bad) K := by
    unfold exS at h
    rw [if_neg (by simp [Tg.isTup])] at h
    exact h
  obtain ⟨c1, c2⟩ := tlc_ok hK hi ht' he hown R En h.stD (Q := fun x H1 => D.nx (σ.set i (some x)) H1) (fun u G1 v ι1 H1 h1 e1 R1 r1 => by
    cases ha : asg (.nm i) u d with
    | none => rw [ha] at h1; exact h1.elim
    | some d1 =>
      rw [ha] at h1
      exact asg_ok (K := S.K) rfl (.nm i) (En.mono e1) r1 ha fun σ1 En1 _ => kk.nx _ _ _ _ _ h1 e1 R1 En1) (kk.exk En)
  exact .of (ps_setLc (hcalm c1) hN hy hyl hsw pi_w ok (fun s H D cl fp => hg s H D cl fp (hcalm c1)) tt_w te_w (not_folded hs)) c2
/-- target = value, by the rule of any target -/
theorem ss_set {tg e : Expr} {t : Tg} {m : Ex} (hK : X.K = S.K) (hg : (C.hot = false ∨ t.isTup = false) → PG X tg (gOf X.K t)) (hs : swapsWithSole [tg] e pos.line X.env = pure false) (hw : swappedStores [tg] e X.env = pure none) (h1 : (assignEach [tg] X.env).map (·.2) = [assign tg X.env])
    (he : SE X S ht C W e m) : SS X S ht C W (.Assign [tg] e pos) (.set t m) := by
  intro L ι G H d σ K D R En h kk
  unfold exS at h
  split at h
  · exact h.elim
  rename_i hc
  have hc' : C.hot = false ∨ t.isTup = false := by
    cases q : C.hot with
    | false => exact .inl rfl
    | true => cases q2 : t.isTup with
      | false => exact .inr rfl
      | true => rw [q, q2] at hc; exact absurd rfl hc
  refine .of (ps_asg pe_w (hg hc') hs hw h1) (he L ι G H d σ _ _ _ R En h.stD (fun u G1 v ι1 H1 h1 e1 R1 r1 => ?_) (kk.exk En))
  cases ha : asg t u d with
  | none => rw [ha] at h1; exact h1.elim
  | some d1 =>
    rw [ha] at h1
    exact asg_ok hK t (En.mono e1) r1 ha fun σ1 En1 _ => kk.nx _ _ _ _ _ h1 e1 R1 En1
/-- a, b = x, y with plain local names -/
theorem ss_par {i j : Nat} {x y : Str} {a b : Expr} {ma mb : Ex} {px py pt : Pos} {kt k2 : Nat} {pt2 : Pos} (hcalm : C.hot = false → X.calm = true) (hN : X.N.Nodup) (hi : X.N[i]? = some x) (hj : X.N[j]? = some y) (hij : i ≠ j) (hx : X.env.scope.names.lookup x = some .local) (hy : X.env.scope.names.lookup y = some .local)
    (hw : swappedStores [.Tuple [.Name x px, .Name y py] kt pt] (.Tuple [a, b] k2 pt2) X.env = pure (some [x, y])) (ha : SA X S ht C W [a, b] [ma, mb]) : SS X S ht C W (.Assign [.Tuple [.Name x px, .Name y py] kt pt] (.Tuple [a, b] k2 pt2) pos) (.set (.tup [.nm i, .nm j]) (.tup [ma, mb])) := by
  intro L ι G H d σ K D R En h kk
  unfold exS at h
  split at h
  · exact h.elim
  rename_i hc
  have hc' : C.hot = false := by
    cases q : C.hot with
    | false => rfl
    | true => rw [q] at hc; exact absurd rfl hc
  have h2 : Sat (evs C L [ma, mb] d G) (fun us G1 => FSat (match asg (.tup [.nm i, .nm j]) (.tup us) d with
    | some d1 => .nx d1 G1
    | none => .bad) K) (fun c fs G => K.ex c fs d G) := Sat.bindD h.stD
  refine .of (ps_par (hcalm hc') hN hi hj hij hx hy pa_w hw rfl) (ha L ι G H d σ _ _ _ R En h2 (fun us G1 vs ι1 H1 h1 e1 R1 r1 => ?_) (kk.exk En))
  cases hq : asg (.tup [.nm i, .nm j]) (.tup us) d with
  | none => rw [hq] at h1; exact h1.elim
  | some d1 =>
    rw [hq] at h1
    have hq' : asg.asgs [.nm i, .nm j] us d = some d1 := hq
    have hl := asgs_len (S := S) (ht := ht) (ι := ι) (H := H) hq'
    match us, r1, hl, hq' with
    | [u, w], r1, _, hq' =>
      obtain ⟨v, r, ev, r2, v', r', ev', r3, r4⟩ := r1
      have er : r' = [] := r4
      subst ev ev' er
      refine ⟨v, v', rfl, ?_⟩
      have hq2 : ((asg (.nm i) u d).bind fun d1 => (asg (.nm j) w d1).bind fun d2 => some d2) = some d1 := hq'
      cases q1 : asg (.nm i) u d with
      | none => rw [q1] at hq2; cases hq2
      | some d2 =>
        rw [q1] at hq2
        cases q2 : asg (.nm j) w d2 with
        | none => simp only [Option.bind_some, q2] at hq2; cases hq2
        | some d3 =>
          simp only [Option.bind_some, q2] at hq2
          cases hq2
          exact asg_ok (K := S.K) rfl (.nm i) (En.mono e1) r2 q1 fun σ1 En1 _ => asg_ok (K := S.K) rfl (.nm j) (σ := σ1) (Q := fun σ2 H2 => D.nx σ2 H2) En1 r3 q2 fun σ2 En2 _ => kk.nx _ _ _ _ _ h1 e1 R1 En2
/-- o[i] = e -/
def wSet (X : Cx) : TSet := fun o i v H Q => ∀ (pins : List (Addr × Obj)) (s : Shared) (σ : L2.St) (ov iv u : Value), Inv X pins σ H s → RelV o ov → RelV i iv → RelV v u → wpAny (model X.prog X.w) X.A (setItem ov iv u) (fun _ s' => ∃ H', Inv X pins σ H' s' ∧ Q H') X.xe s
theorem set_w : PSet X (wSet X) := fun pins s σ H o i v ov iv u Q I ro ri rv q => q pins s σ ov iv u I ro ri rv
theorem setU_ok (R : Rel S L ι G H) (hu : X.A.units + 32 < cLine) {x y u : U} {o i v : V} {G4 : Gp} (ro : VR S ι H x o) (ri : VR S ι H y i) (rv : VR S ι H u v) (h : setU L x y u G = some G4) {Q : Hp → Prop} (q : ∀ H', Ext ι H ι H' → Rel S L ι G4 H' → Q H') : wSet X o i v H Q := by
  have dic : ∀ (r : Nat) (ks : List (Key × U)) (k : Key), x = .ref r → G[r]? = some (.dct ks) → i = kV k → ks.length < LIM ∧ r ∉ L → G4 = G.set r (.dct (PV.putK ks k u)) → wSet X o i v H Q := by
    intro r ks k ex hr ei hc eG pins s σ ov iv uv I ro' ri' rv'
    subst ex eG
    obtain ⟨a, kvs, e, hι, rk, hz⟩ := R.dct hr ro
    subst e
    have hz' : H a = some (.dK kvs) := by
      rcases hz with ⟨_, z⟩ | ⟨z, _⟩
      · exact z
      · exact absurd z hc.2
    cases ro'
    have g : DPut H a i v (L2.upd H a (.dK (L2.putK kvs k v))) := by
      rw [ei]
      exact DPut.k hz' (by rw [← rk.length]; exact lim_lt hc.1)
    have hx : Ext ι H ι (L2.upd H a (.dK (L2.putK kvs k v))) := Ext.write R hι hr hz' (fun _ _ z => nomatch z) ⟨kvs, rk, .inl ⟨hc.2, rfl⟩⟩
    exact d_setItem (by omega) I g ri' rv' fun s' I' => ⟨_, I', q _ hx (R.write hι hr hx ⟨_, rk.put rv, .inl ⟨hc.2, rfl⟩⟩)⟩
  unfold setU at h
  split at h
  · rename_i r k
    split at h
    · rename_i us hr
      obtain ⟨a, vs, e, hι, q1, r1⟩ := R.lst hr ro
      subst e
      cases hj : L2.ixN us.length k with
      | none => rw [hj] at h; cases h
      | some j =>
        rw [hj] at h
        cases h
        have hx : Ext ι H ι (L2.upd H a (.lst (vs.set j v))) := Ext.write R hι hr q1 (fun _ _ z => nomatch z) ⟨vs, rfl, r1⟩
        intro pins s σ ov iv uv I ro' ri' rv'
        exact set_list pins s σ H (.ref a) i v ov iv uv Q I ro' ri' rv' ⟨a, vs, k, j, rfl, ri, q1, by rw [r1.length]; exact hj, q _ hx (R.write hι hr hx ⟨_, rfl, VRs.set rv j r1⟩)⟩
    · rename_i ks hr
      split at h
      · rename_i hc
        cases h
        exact dic _ ks (.inl _) rfl hr ri hc rfl
      · cases h
    · cases h
  · split at h
    · rename_i ks hr
      split at h
      · rename_i hc
        cases h
        exact dic _ ks (.inr _) rfl hr ri hc rfl
      · cases h
    · cases h
  · cases h
end
end PV
set_option Elab.async false
set_option linter.all false
set_option maxRecDepth 100000
set_option maxHeartbeats 1000000
/-! PySt2: stores into containers, augmented assignment, while, for. -/
namespace PV
open PySem PySem.Spec L2
theorem sole_ok (t e : Expr) (n : Nat) (env : PySem.Env) : swapsWithSole [t] e n env = swapsWith e (some t) n env := rfl
section
variable {X : Cx} {S : Sta} {ht : Hot} {C : Ctx} {W : WX} {L : List Nat} {ι : List Addr} {G : Gp} {H : Hp} {d : Env} {σ : L2.St} {K : FK} {D : Ends} {pos : Pos}
theorem ss_setI {o i e : Expr} {mo mi me : Ex} {tp : Pos} (hu : X.A.units + 32 < cLine) (hn : noLC e = true) (hs : isSl i = false) (ho : SE X S ht C W o mo) (hi : SE X S ht C W i mi) (he : SE X S ht C W e me) : SS X S ht C W (.Assign [.Subscript o i tp] e pos) (.setI mo mi me) := by
  intro L ι G H d σ K D R En h kk
  have hg : PG X (.Subscript o i tp) (gSub (wE X o) (wE X i) (wSet X)) := pg_sub pe_w pe_w set_w (by
    intro v
    cases i with
    | Slice _ _ _ _ => cases hs
    | _ => rfl)
  refine .of (ps_asg pe_w hg ((sole_ok ..).trans (noLC_ok hn)) (by cases e <;> rfl) rfl) (he L ι G H d σ _ _ _ R En h.stD (fun u G1 v ι1 H1 h1 e1 R1 r1 => ?_) (kk.exk En))
  refine ho L ι1 G1 H1 d σ _ _ _ R1 (En.mono e1) h1.stD (fun x G2 w ι2 H2 h2 e2 R2 r2 => ?_) ((kk.ext e1).exk (En.mono e1))
  refine hi L ι2 G2 H2 d σ _ _ _ R2 (En.mono (e1.trans e2)) h2.stD (fun y G3 z ι3 H3 h3 e3 R3 r3 => ?_) ((kk.ext (e1.trans e2)).exk (En.mono (e1.trans e2)))
  cases hq : setU L x y u G3 with
  | none => rw [hq] at h3; exact h3.elim
  | some G4 =>
    rw [hq] at h3
    exact setU_ok R3 hu (r2.mono e3) r3 (r1.mono (e2.trans e3)) hq fun H4 e4 R4 => kk.nx _ _ _ _ _ h3 (((e1.trans e2).trans e3).trans e4) R4 (En.mono (((e1.trans e2).trans e3).trans e4))
theorem FR.put {f : String} {u : U} {v : V} (q : VR S ι H u v) : ∀ {fs : List (String × U)} {vs : List (Str × V)}, FR S ι H fs vs → FR S ι H (putFld f u fs) (putF (Str.ofString f) v vs)
  | [], _, h => by
    have e : _ = [] := h
    rw [e]
    exact ⟨v, [], rfl, q, rfl⟩
  | (g, w) :: fs, _, h => by
    obtain ⟨x, r, e, h1, h2⟩ := h
    rw [e]
    unfold putFld putF
    by_cases c : g = f
    · subst c
      simp only [if_true]
      exact ⟨v, r, rfl, q, h2⟩
    · have c2 : Str.ofString g ≠ Str.ofString f := fun z => c (ofString_inj z)
      simp only [c, c2, if_false]
      exact ⟨x, _, rfl, h1, FR.put q h2⟩
theorem FR.length : ∀ {fs : List (String × U)} {vs : List (Str × V)}, FR S ι H fs vs → vs.length = fs.length
  | [], _, h => by
    have e : _ = [] := h
    rw [e]
    rfl
  | (g, w) :: fs, _, h => by
    obtain ⟨x, r, e, h1, h2⟩ := h
    rw [e, List.length_cons, List.length_cons, FR.length h2]
theorem ss_setF {o e : Expr} {mo me : Ex} {f : String} {z : Str} {tp : Pos} (hz : z = Str.ofString f) (hc : ∀ c ∈ S.cls, Cls X.K (S.ca c) ∧ NoAttr X.K (S.ca c) (Str.ofString f)) (hn : noLC e = true) (ho : SE X S ht C W o mo) (he : SE X S ht C W e me) : SS X S ht C W (.Assign [.Attribute o z tp] e pos) (.setF mo f me) := by
  subst hz
  intro L ι G H d σ K D R En h kk
  refine .of (ps_fld pe_w pe_w (noLC_ok hn)) (he L ι G H d σ _ _ _ R En h.stD (fun u G1 v ι1 H1 h1 e1 R1 r1 => ?_) (kk.exk En))
  refine ho L ι1 G1 H1 d σ _ _ _ R1 (En.mono e1) h1.stD (fun x G2 w ι2 H2 h2 e2 R2 r2 => ?_) ((kk.ext e1).exk (En.mono e1))
  cases x with
  | ref r =>
    simp only at h2
    split at h2
    · rename_i c fs hi
      split at h2
      · rename_i hl
        obtain ⟨a, dx, fvs, ev, hι, q1, rf, hm⟩ := R2.ins hi r2
        have hx : Ext ι2 H2 ι2 (L2.upd H2 a (.ins (S.ca c) dx (putF (Str.ofString f) v fvs))) := Ext.write R2 hι hi q1 (fun _ _ z => nomatch z) ⟨dx, fvs, rfl, rf, hm⟩
        exact ⟨a, _, dx, fvs, ev, q1, (hc c hm).1, (hc c hm).2, by rw [rf.length]; exact hl, kk.nx _ _ _ _ _ h2 ((e1.trans e2).trans hx) (R2.write hι hi hx ⟨dx, _, rfl, FR.put (r1.mono e2) rf, hm⟩) (En.mono ((e1.trans e2).trans hx))⟩
      · exact h2.elim
    · exact h2.elim
  | _ => exact h2.elim
theorem ss_aug {i : Nat} {x : Str} {e : Expr} {m : Ex} {op : Operator} {tp : Pos} (hN : X.N.Nodup) (hi : X.N[i]? = some x) (hl : X.env.scope.names.lookup x = some .local) (he : SE X S ht C W e m) : SS X S ht C W (.AugAssign (.Name x tp) op e pos) (.aug i op m) := by
  intro L ι G H d σ K D R En h kk
  unfold exS at h
  cases hs : slot d i with
  | none => rw [hs] at h; exact h.elim
  | some u =>
    rw [hs] at h
    obtain ⟨v, hv, rv⟩ := En.slot hs
    have hlt : i < d.length := by
      unfold slot at hs
      split at hs
      · rename_i w hw
        exact (List.getElem?_eq_some_iff.mp hw).1
      · cases hs
    have fin : ∀ (ti : TIp), PIp X op ti → (∀ y G1 w ι1 H1, FSat (match (generalizing := false) op, u, y with
        | .Add, .int a, .int b => .nx (d.set i (.val (.int (a + b)))) G1
        | .Sub, .int a, .int b => .nx (d.set i (.val (.int (a - b)))) G1
        | _, _, _ => .bad) K → Ext ι H ι1 H1 → Rel S L ι1 G1 H1 → VR S ι1 H1 u v → VR S ι1 H1 y w → ti v w H1 fun z H2 => D.nx (σ.set i (some z)) H2) → wS X (.AugAssign (.Name x tp) op e pos) D σ H := fun ti hp hq =>
      .of (ps_aug hN hi (.inl hl) pe_w hp (.inr hl)) ⟨v, hv, he L ι G H d σ _ _ _ R En h.stD (fun y G1 w ι1 H1 h1 e1 R1 r1 => hq y G1 w ι1 H1 h1 e1 R1 (rv.mono e1) r1) (kk.exk En)⟩
    cases op with
    | Add =>
      refine fin _ ip_add fun y G1 w ι1 H1 h1 e1 R1 ru ry => ?_
      cases u with
      | int a => cases y with
        | int b => exact ⟨a, b, ru, ry, kk.nx _ _ _ _ _ h1 e1 R1 ((En.mono e1).set hlt rfl)⟩
        | _ => exact h1.elim
      | _ => exact h1.elim
    | Sub =>
      refine fin _ ip_sub fun y G1 w ι1 H1 h1 e1 R1 ru ry => ?_
      cases u with
      | int a => cases y with
        | int b => exact ⟨a, b, ru, ry, kk.nx _ _ _ _ _ h1 e1 R1 ((En.mono e1).set hlt rfl)⟩
        | _ => exact h1.elim
      | _ => exact h1.elim
    | _ => exact fin (fun _ _ _ _ => False) (fun _ _ _ _ _ _ _ _ _ _ _ _ z => z.elim) fun y G1 w ι1 H1 h1 _ _ _ _ => h1.elim
/-! ### loops -/
theorem ss_whl {c : Expr} {b : List Stmt} {mc : Ts} {mb : List Stm} (ho : C.hot = false → PassesOwn (model X.prog X.w) X.A X.env X.xe) (hc : ST X S ht C W c mc) (hb : SB X S ht C W b mb) : SS X S ht C W (.While c b [] pos) (.whl mc mb) := by
  intro L ι G H d σ K D R En h kk
  unfold exS at h
  split at h
  · exact h.elim
  rename_i hq0
  have hc' : C.hot = false := by
    cases q : C.hot with
    | false => rfl
    | true => exact absurd q hq0
  refine .of (ps_while (ho hc') pt_w pb_w) ⟨fun m σ1 H1 => ∃ ι1 G1 d1, Ext ι H ι1 H1 ∧ Rel S L ι1 G1 H1 ∧ EnvR S ht ι1 H1 d1 σ1 ∧ FSat (whlL (fun d G => tst C L mc d G) (fun d G => exB C L mb d G) m d1 G1) K, ⟨FUEL, ι, G, d, Ext.refl _ _, R, En, h⟩, ?_⟩
  rintro m σ1 H1 ⟨ι1, G1, d1, e1, R1, En1, h1⟩
  cases m with
  | zero => exact h1.elim
  | succ m =>
    have h2 : FSat ((tst C L mc d1 G1).st d1 fun r G1 => if r = true then (match exB C L mb d1 G1 with
      | .nx d1 G2 => whlL (fun d G => tst C L mc d G) (fun d G => exB C L mb d G) m d1 G2
      | .ct d1 G2 => whlL (fun d G => tst C L mc d G) (fun d G => exB C L mb d G) m d1 G2
      | .bk d1 G2 => .nx d1 G2
      | r => r) else .nx d1 G1) K := h1
    refine hc L ι1 G1 H1 d1 σ1 _ _ _ R1 En1 h2.stD (fun t G2 ι2 H2 h3 e2 R2 => ?_) ((kk.ext e1).exk En1)
    cases t with
    | false => exact kk.nx _ _ _ _ _ h3 (e1.trans e2) R2 (En1.mono e2)
    | true =>
      rw [if_pos rfl] at h3 ⊢
      refine ⟨fun σ' H' => ∃ ι1 G1 d1, Ext ι H ι1 H' ∧ Rel S L ι1 G1 H' ∧ EnvR S ht ι1 H' d1 σ' ∧ FSat (whlL (fun d G => tst C L mc d G) (fun d G => exB C L mb d G) m d1 G1) K, fun σ' H' q => ⟨m, Nat.lt_succ_self _, q⟩, ?_⟩
      have h4 : FSat (exB C L mb d1 G2) ⟨fun d2 G3 => FSat (whlL (fun d G => tst C L mc d G) (fun d G => exB C L mb d G) m d2 G3) K, K.rt, K.nx, fun d2 G3 => FSat (whlL (fun d G => tst C L mc d G) (fun d G => exB C L mb d G) m d2 G3) K, K.ex⟩ := by
        cases q : exB C L mb d1 G2 <;> (rw [q] at h3; exact h3)
      refine hb L ι2 G2 H2 d1 σ1 _ _ R2 (En1.mono e2) h4 ⟨fun d3 G3 ι3 H3 σ3 hp e3 R3 En3 => ⟨ι3, G3, d3, (e1.trans e2).trans e3, R3, En3, hp⟩, fun u G3 v ι3 H3 hp e3 => kk.rt u G3 v ι3 H3 hp ((e1.trans e2).trans e3), fun d3 G3 ι3 H3 σ3 hp e3 => kk.nx d3 G3 ι3 H3 σ3 hp ((e1.trans e2).trans e3), fun d3 G3 ι3 H3 σ3 hp e3 R3 En3 => ⟨ι3, G3, d3, (e1.trans e2).trans e3, R3, En3, hp⟩, fun c fs d3 G3 dd ι3 H3 σ3 hp e3 => kk.ex c fs d3 G3 dd ι3 H3 σ3 hp ((e1.trans e2).trans e3)⟩
theorem ss_for {tg iter : Expr} {b : List Stmt} {k : SrcK} {src : List Ex} {t : Tg} {mb : List Stm} (hK : X.K = S.K) (ho : C.hot = false → PassesOwn (model X.prog X.w) X.A X.env X.xe) (hcalm : C.hot = false → X.calm = true) (hi : SIt X S ht C W tg iter k src) (hg : X.calm = true → PG X tg (gOf X.K t)) (hs : notSet iter = true) (hb : SB X S ht C W b mb) : SS X S ht C W (.For tg iter b [] pos) (.for k src t mb) := by
  intro L ι G H d σ K D R En h kk
  unfold exS at h
  split at h
  · exact h.elim
  rename_i hc
  have hc' : C.hot = false := by
    cases q : C.hot with
    | false => rfl
    | true => exact absurd q hc
  have calm : X.calm = true := hcalm hc'
  refine .of (ps_for (ho hc') calm pi_w (hg calm) pb_w (not_folded hs)) ?_
  refine hi L ι G H d σ (fun w n G1 => FSat (forL w (fun x d G => match asg t x d with
      | none => .bad
      | some d1 => exB C ([] ++ L) mb d1 G) n 0 d G1) K) (fun c fs G => K.ex c fs d G) _ R En (h.stD.mono (fun us G1 h1 => ?_) fun _ _ _ x => x) (fun w n G1 ι1 H1 J h1 e1 R1 wk => ?_) (kk.exk En)
  · cases hw : walk k us G1 with
    | none => rw [hw] at h1; exact h1.elim
    | some r =>
      obtain ⟨w, lk, n⟩ := r
      rw [hw] at h1
      cases lk with
      | nil =>
        simp only [List.isEmpty_nil] at h1
        rw [if_neg (by decide)] at h1
        exact ⟨w, n, rfl, h1⟩
      | cons _ _ =>
        simp only [List.isEmpty_cons, if_true] at h1
        exact h1.elim
  · generalize hbd : (fun (x : U) (d : Env) (G : Gp) => (match asg t x d with
      | none => (.bad : Fl)
      | some d1 => exB C ([] ++ L) mb d1 G)) = body at h1
    refine ⟨fun i m σ2 H2 => ∃ ι2 G2 d2, Ext ι1 H1 ι2 H2 ∧ Rel S L ι2 G2 H2 ∧ EnvR S ht ι2 H2 d2 σ2 ∧ FSat (forL w body m i d2 G2) K, ⟨n, ι1, G1, d, Ext.refl _ _, R1, En.mono e1, h1⟩, ?_⟩
    rintro i m σ2 H2 ⟨ι2, G2, d2, e2, R2, En2, h2⟩
    have stop : itemAt w i G2 = some none → K.nx d2 G2 → J.stop i H2 ∧ D.nx σ2 H2 := fun hi' hp => ⟨(wk ι2 G2 H2 i e2 R2).1 hi', kk.nx _ _ _ _ _ hp (e1.trans e2) R2 En2⟩
    cases m with
    | zero =>
      refine .inl ?_
      cases hi' : itemAt w i G2 with
      | none => simp only [forL, hi'] at h2; exact h2.elim
      | some o => cases o with
        | none => simp only [forL, hi'] at h2; exact stop hi' h2
        | some x => simp only [forL, hi'] at h2; exact h2.elim
    | succ m =>
      cases hi' : itemAt w i G2 with
      | none => simp only [forL, hi'] at h2; exact h2.elim
      | some o => cases o with
        | none => simp only [forL, hi'] at h2; exact .inl (stop hi' h2)
        | some x =>
          refine .inr ?_
          obtain ⟨g1, g2⟩ := (wk ι2 G2 H2 i e2 R2).2 x hi'
          refine ⟨g1, fun σ' H' => ∃ ι2 G2 d2, Ext ι1 H1 ι2 H' ∧ Rel S L ι2 G2 H' ∧ EnvR S ht ι2 H' d2 σ' ∧ FSat (forL w body m (i + 1) d2 G2) K, fun σ' H' q => ⟨m, Nat.lt_succ_self _, q⟩, fun v Hy hy => ?_⟩
          obtain ⟨e3, R3, rx⟩ := g2 v Hy hy
          simp only [forL, hi'] at h2
          have hbx : body x d2 G2 = (match asg t x d2 with
            | none => (.bad : Fl)
            | some d1 => exB C L mb d1 G2) := by rw [← hbd]; rfl
          rw [hbx] at h2
          cases ha : asg t x d2 with
          | none => rw [ha] at h2; exact h2.elim
          | some d3 =>
            rw [ha] at h2
            refine asg_ok hK t (En2.mono e3) rx ha fun σ3 En3 _ => ?_
            have h4 : FSat (exB C L mb d3 G2) ⟨fun d4 G4 => FSat (forL w body m (i + 1) d4 G4) K, K.rt, K.nx, fun d4 G4 => FSat (forL w body m (i + 1) d4 G4) K, K.ex⟩ := by
              cases q : exB C L mb d3 G2 <;> (simp only [q] at h2; exact h2)
            have e123 := (e1.trans e2).trans e3
            refine hb L ι2 G2 Hy d3 σ3 _ _ R3 En3 h4 ⟨fun d5 G5 ι5 H5 σ5 hp e5 R5 En5 => ⟨ι5, G5, d5, (e2.trans e3).trans e5, R5, En5, hp⟩, fun u G5 v ι5 H5 hp e5 => kk.rt u G5 v ι5 H5 hp (e123.trans e5), fun d5 G5 ι5 H5 σ5 hp e5 => kk.nx d5 G5 ι5 H5 σ5 hp (e123.trans e5), fun d5 G5 ι5 H5 σ5 hp e5 R5 En5 => ⟨ι5, G5, d5, (e2.trans e3).trans e5, R5, En5, hp⟩, fun c fs d5 G5 dd ι5 H5 σ5 hp e5 => kk.ex c fs d5 G5 dd ι5 H5 σ5 hp (e123.trans e5)⟩
end
end PV
set_option Elab.async false
set_option linter.all false
set_option maxRecDepth 100000
set_option maxHeartbeats 1000000
/-! PyEx: raise, try .. except C as e. -/
namespace PV
open PySem PySem.Spec L2
/-- the promise of an error class's own __init__(self, f1, ..): each field is laid -/
def spErr (C : Addr) (fl : List String) : Sp := fun vs H Q _ => ∃ (a : Addr) (ys : List V), vs = .ref a :: ys ∧ ys.length = fl.length ∧ H a = some (exo a C none) ∧
  ∀ (dx : Addr) (fs : List (Str × V)) (H2 : Hp), H dx = none → dx ≠ a → H2 a = some (exo a C (some dx)) → H2 dx = some (exd dx fs) → (∀ b, b ≠ a → b ≠ dx → H2 b = H b) → (∀ (i : Nat) (f : String) (y : V), fl[i]? = some f → ys[i]? = some y → fs.lookup (Str.ofString f) = some y) → Q .non H2
section
variable {X : Cx} {S : Sta} {ht : Hot} {C : Ctx} {W : WX} {L : List Nat} {ι : List Addr} {G : Gp} {H : Hp} {d : Env} {σ : L2.St} {K : FK} {D : Ends} {pos : Pos}
theorem lookup_zip {fl : List String} : ∀ {us : List U} {f : String} {u : U}, (fl.zip us).lookup f = some u → ∃ i : Nat, fl[i]? = some f ∧ us[i]? = some u := by
  induction fl with
  | nil => intro us f u h; cases h
  | cons g fl ih =>
    intro us f u h
    cases us with
    | nil => cases h
    | cons w us =>
      rw [List.zip_cons_cons, List.lookup_cons] at h
      by_cases c : f = g
      · subst c
        simp only [beq_self_eq_true] at h
        cases h
        exact ⟨0, rfl, rfl⟩
      · rw [beq_eq_false_iff_ne.mpr c] at h
        obtain ⟨i, h1, h2⟩ := ih h
        exact ⟨i + 1, by simpa using h1, by simpa using h2⟩
/-- raise C(e, ..) -/
theorem ss_raise {z : Str} {c : String} {fI : Addr} {k : Nat} {fd : FuncData} {ps : List Str} {fl : List String} {p p2 : Pos} {e : Expr} {es : List Expr} {ms : List Ex} (hcalm : C.hot = false → X.calm = true) (tk : Takes X W) (hfl : C.flds c = some fl) (T : OexC X.K (S.ca c)) (iC : PySem.W.findIn X.K (.ref (S.ca c)) "__init__" = some (some (.ref fI))) (tI : PySem.W.typeIn X.K (.ref fI) = some (.type "function"))
    (F1 : FnOk X.prog X.w X.K X.mg X.base (L2.CX X.prog X.w) k fI fd ps (spErr (S.ca c) fl)) (hr : C.hot = false → Room (k + 1) X.A) (hb : Binds X.K fd ps []) (hg : glB X.env.scope z = true) (hm : X.mg z = some (.ref (S.ca c))) (hdb : (z == ("__debug__" : Str)) = false) (hst : (e :: es).any isStar = false) (hlen : ms.length ≤ 1000)
    (ha : SA X S ht C W (e :: es) ms) : SS X S ht C W (.Raise (some (.Call (.Name z p) (e :: es) [] p2)) none pos) (.raise c ms) := by
  intro L ι G H d σ K D R En h kk
  unfold exS at h
  split at h
  · exact h.elim
  rename_i hc
  have hc' : C.hot = false := by
    cases q : C.hot with
    | false => rfl
    | true => exact absurd q hc
  rw [List.any_cons, Bool.or_eq_false_iff] at hst
  refine .of (ps_raise (hcalm hc') tk (pmk_oex (dvs := []) (CX := L2.CX X.prog X.w) T iC tI F1 (hr hc') hb .nil (fun _ _ _ _ _ _ _ hx => ?_) (gl_of hg) hm pa_w hdb (star_cons hst.1) (star_any hst.2))) ?_
  · obtain ⟨_, _, _, _, _, _, _, _, _, _, _, _, z⟩ := hx
    exact z.elim
  · refine ha L ι G H d σ _ _ _ R En (evs_len h.stD) (fun us G1 vs ι1 H1 h1 e1 R1 r1 => ?_) (kk.exk En)
    obtain ⟨hl, h1⟩ := h1
    rw [hfl] at h1
    simp only at h1
    split at h1
    case isFalse => exact h1.elim
    rename_i hlu
    refine ⟨by rw [r1.length, hl]; exact hlen, fun a hn => ⟨a, vs ++ [], rfl, by rw [List.append_nil, r1.length, hlu], upd_same, fun dx fs H2 hd hne h2a h2d h2o hlk => ⟨rfl, dx, fs, h2a, h2d, ?_, ?_⟩⟩⟩
    · rw [upd_ne hne] at hd
      exact hd
    · have hd1 : H1 dx = none := by rw [upd_ne hne] at hd; exact hd
      have eH : L2.upd (del H2 a) dx (.xd fs) = L2.upd H1 dx (.xd fs) := by
        funext b
        by_cases q : b = dx
        · rw [q, upd_same, upd_same]
        · rw [upd_ne q, upd_ne q]
          by_cases q2 : b = a
          · rw [q2, del_same, hn]
          · rw [del_ne q2, h2o b q2 q, upd_ne q2]
      rw [eH]
      have hx : Ext ι1 H1 ι1 (L2.upd H1 dx (.xd fs)) := Ext.upd hd1
      refine kk.ex _ _ _ _ (some dx) ι1 _ σ h1 (e1.trans hx) (R1.upd hd1) (En.mono (e1.trans hx)) fun f u q => ?_
      obtain ⟨i, i1, i2⟩ := lookup_zip q
      obtain ⟨v, g1, g2⟩ := r1.get i2
      exact ⟨dx, fs, v, rfl, upd_same, hlk i f v i1 (by rw [List.append_nil]; exact g1), g2.mono hx⟩
end
end PV
set_option Elab.async false
set_option linter.all false
set_option maxRecDepth 100000
set_option maxHeartbeats 1000000
/-! PyEx2: try .. except C as e; what the suite reads of the error. -/
namespace PV
open PySem PySem.Spec L2
section
variable {X : Cx} {S : Sta} {ht : Hot} {C : Ctx} {W : WX} {L : List Nat} {ι : List Addr} {G : Gp} {H : Hp} {d : Env} {σ : L2.St} {K : FK} {D : Ends} {pos : Pos}
/-- into the suite: the error at slot i -/
theorem EnvR.heat {e : String} {fs : List (String × U)} {a : Addr} {dd : Option Addr} {i : Nat} (En : EnvR S none ι H d σ) (x : XD S ι H fs dd) : EnvR S (some (a, Value.ref (S.ca e), dd)) ι H (d.set i (.exn e fs)) (σ.set i (some (.ref a))) := by
  refine ⟨by simp [En.len], fun j u q => ?_, fun j c fs' q => ?_⟩
  · by_cases h : i = j
    · subst h
      by_cases hi : i < d.length
      · rw [List.getElem?_set_self hi] at q; cases q
      · rw [List.getElem?_eq_none (by simpa using hi)] at q; cases q
    · rw [List.getElem?_set_ne h] at q
      rw [List.getElem?_set_ne h]
      exact En.val j u q
  · by_cases h : i = j
    · subst h
      by_cases hi : i < d.length
      · rw [List.getElem?_set_self hi] at q
        cases q
        exact ⟨a, dd, rfl, List.getElem?_set_self (by rw [En.len]; exact hi), x⟩
      · rw [List.getElem?_eq_none (by simpa using hi)] at q; cases q
    · rw [List.getElem?_set_ne h] at q
      obtain ⟨_, _, z, _⟩ := En.exn j c fs' q
      cases z
/-- out of it -/
theorem EnvR.cool {ht' : Hot} {i : Nat} (En : EnvR S ht' ι H d σ) : EnvR S none ι H (scrub i d) (σ.set i none) := by
  refine ⟨by simp [scrub, En.len], fun j u q => ?_, fun j c fs q => ?_⟩
  · unfold scrub at q
    by_cases h : i = j
    · subst h
      rw [List.getElem?_set] at q
      split at q
      · split at q
        · cases q
        · cases q
      · exact absurd rfl ‹_›
    · rw [List.getElem?_set_ne h, List.getElem?_map] at q
      rw [List.getElem?_set_ne h]
      cases hd : d[j]? with
      | none => rw [hd] at q; cases q
      | some s =>
        rw [hd] at q
        cases s with
        | val w => cases q; exact En.val j _ hd
        | no => cases q
        | exn _ _ => cases q
  · unfold scrub at q
    by_cases h : i = j
    · subst h
      rw [List.getElem?_set] at q
      split at q
      · split at q
        · cases q
        · cases q
      · exact absurd rfl ‹_›
    · rw [List.getElem?_set_ne h, List.getElem?_map] at q
      cases hd : d[j]? with
      | none => rw [hd] at q; cases q
      | some s =>
        rw [hd] at q
        cases s with
        | val w => cases q
        | no => cases q
        | exn _ _ => cases q
/-- try: .. except x as n: .. -/
theorem ss_try {x n : Str} {c : String} {cV : Value} {i : Nat} {body suite : List Stmt} {b0 : Stmt} {np pos' : Pos} {mb mh : List Stm} (hs : X.stack = X.env :: X.outer) (hf : X.env.frame = some X.env.locals) (hN : X.N.Nodup) (hi : X.N[i]? = some n) (hln : X.env.scope.names.lookup n = some .local) (hc : Names X x cV) (tk : Takes X W)
    (hsub : ∀ e b, C.sub e c = some b → PySem.W.exmOne X.K (.ref (S.ca e)) cV = some b)
    (hb : ∀ (W' : WX) (pn : List (Addr × Obj)) (xe : Value → Shared → Prop), Takes (X.tr pn xe) W' → PassesOwn (model X.prog X.w) X.A X.env xe → SB (X.tr pn xe) S none C W' body mb)
    (hsu : ∀ (a : Addr) (oe : Obj) (e : String) (dd : Option Addr) (pn : List (Addr × Obj)), Zc (.ref (S.ca e)) dd oe → (∃ vs, oe.data = .fields vs) → SB (X.suite a ((a, oe) :: pn)) S (some (a, Value.ref (S.ca e), dd)) { C with hot := true } (fun _ _ _ _ => False) (b0 :: suite) mh) :
    SS X S none C W (.Try body [.ExceptHandler (some (.Name x np)) (some n) (b0 :: suite) pos'] [] [] pos) (.try1 mb c i mh) := by
  intro L ι G H d σ K D R En h kk
  unfold exS at h
  split at h
  · exact h.elim
  refine .of (ps_try_as (tb := fun W' D σ H => ∀ (pn : List (Addr × Obj)) (xe : Value → Shared → Prop), Takes (X.tr pn xe) W' → PassesOwn (model X.prog X.w) X.A X.env xe → wB (X.tr pn xe) body D σ H)
    (ts := fun a cls dd D σ H => ∀ (oe : Obj) (pn : List (Addr × Obj)), Zc cls dd oe → (∃ vs, oe.data = .fields vs) → wB (X.suite a ((a, oe) :: pn)) (b0 :: suite) D σ H)
    hs hf hN hi hln hc tk (fun W' pn xe t o => ⟨fun pins s σ H D I q => q pn xe t o pins s I⟩) (fun a oe cls dd pn hz hv => ⟨fun pins s σ H D I q => q oe pn hz hv pins s I⟩)) ?_
  intro pn xe t o
  have h2 : FSat (exB C L mb d G) (FK.mk K.nx K.rt K.bk K.ct (fun e fs d1 G1 => FSat (match C.sub e c with
      | some true => (exB { C with hot := true } L mh (d1.set i (.exn e fs)) G1).scrub i
      | some false => Fl.ex e fs d1 G1
      | none => Fl.bad) K)) := by
    cases q : exB C L mb d G <;> (simp only [q] at h; exact h)
  refine hb _ pn xe t o L ι G H d σ _ _ R En h2 ⟨kk.nx, kk.rt, kk.bk, kk.ct, fun e fs d1 G1 dd ι1 H1 σ1 hp e1 R1 En1 x1 => ?_⟩
  simp only at hp
  cases hq : C.sub e c with
  | none => rw [hq] at hp; exact hp.elim
  | some b =>
    rw [hq] at hp
    refine ⟨b, hsub e b hq, fun hbt a ha => ?_, fun hbf => ?_⟩
    · subst hbt
      intro oe pn' hz hv
      have hp2 : FSat (exB { C with hot := true } L mh (d1.set i (.exn e fs)) G1) ⟨fun d G => K.nx (scrub i d) G, K.rt, fun d G => K.bk (scrub i d) G, fun d G => K.ct (scrub i d) G, fun _ _ _ _ => False⟩ := by
        have hp' : FSat ((exB { C with hot := true } L mh (d1.set i (.exn e fs)) G1).scrub i) K := hp
        cases q : exB { C with hot := true } L mh (d1.set i (.exn e fs)) G1 <;> (rw [q] at hp'; exact hp')
      exact hsu a oe e dd pn' hz hv L ι1 G1 H1 _ _ _ _ R1 (En1.heat x1) hp2 ⟨fun d2 G2 ι2 H2 σ2 hp e2 R2 En2 => kk.nx _ _ _ _ _ hp (e1.trans e2) R2 En2.cool, fun u G2 v ι2 H2 hp e2 R2 r2 => kk.rt u G2 v ι2 H2 hp (e1.trans e2) R2 r2, fun d2 G2 ι2 H2 σ2 hp e2 R2 En2 => kk.bk _ _ _ _ _ hp (e1.trans e2) R2 En2.cool, fun d2 G2 ι2 H2 σ2 hp e2 R2 En2 => kk.ct _ _ _ _ _ hp (e1.trans e2) R2 En2.cool, fun _ _ _ _ _ _ _ _ z => z.elim⟩
    · subst hbf
      exact kk.ex e fs d1 G1 dd ι1 H1 σ1 hp e1 R1 En1 x1
/-- e.f of the caught error -/
theorem se_xat {z fz : Str} {f : String} {i : Nat} {p : Pos} {a : Addr} {oe : Obj} {cls : Value} {dd : Option Addr} {pn : List (Addr × Obj)} (hz : Zc cls dd oe) (hv : ∃ vs, oe.data = .fields vs) (hfz : fz = Str.ofString f)
    (hx : ∀ c fl, C.flds c = some fl → XfC X.K (S.ca c) ∧ PySem.W.findIn X.K (.ref (S.ca c)) fz = some none) (hN : X.N[i]? = some z) (hvis : visB X.env.scope z = true) (hd : (z == ("__debug__" : Str)) = false) (hcd : (z == ("__classdict__" : Str)) = false) :
    SE (X.suite a ((a, oe) :: pn)) S (some (a, cls, dd)) C W (.Attribute (.Name z p) fz pos) (.xat i f) := by
  intro L ι G H d σ P E Q R En h k kx
  unfold ev at h
  split at h
  · rename_i c fs hi
    split at h
    · rename_i hfl
      obtain ⟨fl, hfl⟩ := Option.isSome_iff_exists.mp hfl
      obtain ⟨u, hu, hP⟩ := Sat.ofO h
      obtain ⟨a', dd', e1, e2, x⟩ := En.exn i c fs hi
      cases e1
      obtain ⟨xd, fvs, v, g1, g2, g3, g4⟩ := x f u hu
      subst hfz
      have hpe : PE (X.suite a ((a, oe) :: pn)) (.Name z p) (tVar i) := pe_var hN (vis_of hvis) hd hcd
      exact .of (pe_xf (hx c fl hfl).1 (hx c fl hfl).2 hz hv hpe) ⟨.ref a, e2, rfl, rfl, xd, fvs, v, g1, g2, g3, k.same R hP g4⟩
    · exact h.elim
  · exact h.elim
end
end PV
set_option Elab.async false
set_option linter.all false
set_option maxRecDepth 100000
set_option maxHeartbeats 4000000
/-! PyIs: isinstance(e, C) of the caught error e, with or without a dict of its own. -/
namespace PV
open PySem PySem.Spec L2 PySem.W PySem.Calls
section
variable {prog : Program} {w : World} {A : Around} {E : Value → Shared → Prop} {s : Shared} {K : Frag} {x D : Addr} {ox : Obj} {od : Option Obj}
theorem obj_class (T : ExcC K D) : findObj K D od "__class__" = some (.bind (.builtin "getset_descriptor.__get__") (.builtin "object.__class__")) := by
  obtain ⟨cd, hc, _⟩ := any_some T.hd
  have ha := T.ha
  have hn := T.hn
  have htk := T.ht
  unfold findObj
  rw [hc, Option.bind_some, ha, Option.bind_some]
  simp [hn, htk]
theorem ask_class {Q : Option Value → Shared → Prop} (T : ExcC K D) (X : K.In s.heap) (I : PySem.W.InstAt s.heap x ox D od) (h : Q (some (.ref D)) { s with toks := s.toks + 1 }) : wpAny (model prog w) A (getAttr? (.ref x) "__class__") Q E s := by
  obtain ⟨hp, g, dr, t, os⟩ := s
  have T0 := I.type (M := model prog w)
  have T1 := looks_findIn (M := model prog w) X T.hg
  have T2 := looks_findIn (M := model prog w) X T.hk
  have T3 := looks_find (M := model prog w) X I (obj_class T)
  have isB : Looks (model prog w) hp (isInstance (.ref x) (.type "BaseException")) true := T0.andThen (looks_subIn X T.hs)
  have nb : (Value.builtin "BaseException.__getattribute__" == Value.builtin "object.__getattribute__") = false := by decide +kernel
  have nh : (false && onTheHeap (Value.builtin "BaseException.__getattribute__")) = false := rfl
  have nw : (onTheHeap (Value.ref D) && Value.builtin "BaseException.__getattribute__" == Value.builtin "object.__getattribute__") = false := by rw [nb]; rfl
  unfold getAttr? getAttrBy? getAttrBy
  refine wpAny_bind (wpAny_mkText (wpAny_bind (wpAny_attempt (wpAny_holding (wpAny_bind (T0.at (wpAny_bind (T1.at ?_))))))))
  show wpAny _ _ (if (onTheHeap (Value.ref D) && Value.builtin "BaseException.__getattribute__" == Value.builtin "object.__getattribute__") = true then _ else _) _ _ _
  rw [nw, if_neg Bool.false_ne_true]
  unfold getAttrByItsOwn hookBefore
  refine wpAny_bind ?_
  rw [if_pos (show onTheHeap (Value.ref D) = true from rfl)]
  refine T2.at (wpAny_bind (wpAny_attempt (wpAny_holding ?_)))
  unfold callGetattribute
  rw [nh, if_neg Bool.false_ne_true]
  unfold boundAndCalled
  rw [PySem.F.excAttr_ValueError.ga.bind (.ref x)]
  refine wpAny_bind (wpAny_pure (show wpAny _ _ (call (.builtin "BaseException.__getattribute__") [.ref x, .str "__class__" t]) _ _ _ from ?_))
  refine wpAny_call (codeAny_call_builtin PySem.F.excAttr_ValueError.ga.plain PySem.F.entry_bexc_ga ?_)
  refine @check_slot (model prog w) _ _ ⟨hp, g, dr, t + 1, os⟩ "BaseException.__getattribute__" "BaseException" "__getattribute__" (.ref x) [.str "__class__" t] [] _ (by decide +kernel) (by decide +kernel) isB (PySem.F.args_bexc_ga (.ref x) (.str "__class__" t)) ?_
  unfold Builtin.«object.__getattribute__»
  refine wpAny_bind (wpAny_of_eq (a := ((Value.ref x : Value), [Value.str "__class__" t])) (by first | rfl | (simp only [slotArgs]; rfl)) ?_)
  refine wpAny_bind (wpAny_pure (wpAny_bind (T0.at (wpAny_bind (T3.at ?_)))))
  show wpAny _ _ (holding [Value.builtin "object.__class__"] (call (.builtin "getset_descriptor.__get__") [.builtin "object.__class__", .ref x, .ref D]) >>= ret) _ _ _
  refine wpAny_bind (wpAny_holding (wpAny_call (class_get (s := ⟨hp, g, dr, t + 1, os⟩) (ox := ox) (od := od) X I T.hm ?_)))
  refine wpAny_pure (show wpAny _ _ (handedOut (.ref D)) _ _ _ from ?_)
  rw [handedOut_of (v := .ref D) rfl]
  first
    | exact wpAny_pure (wpAny_pure h)
    | exact wpAny_pure h
    | exact wpAny_pure (wpAny_bind (wpAny_pure (wpAny_pure h)))
theorem kit_exc (T : ExcC K D) : KitX K (.ref x) (.ref D) (fun h => PySem.W.InstAt h x ox D od) where
  ty := fun _ _ _ I => I.type
  it := fun _ _ X _ => by
    obtain ⟨cd, hcD, _⟩ := any_some T.hd
    unfold clsIn at hcD
    split at hcD
    · rename_i ho
      intro A' Q' E' s' k q
      unfold isType loadHead
      exact wpAny_bind (wpAny_loadPart (k _ _ (X _ _ ho)) (wpAny_pure q))
    · cases hcD
  ne := fun h tp dd its n sl X htp => by
    obtain ⟨cd, hcD, _⟩ := any_some T.hd
    refine Bool.eq_false_iff.mpr fun q => ?_
    have e : D = tp := Value.ref.inj (beq_iff_eq.mp q)
    rw [← e] at htp
    unfold clsIn at hcD
    split at hcD
    · rename_i ho
      have z := (X _ _ ho).symm.trans htp
      cases z
    · cases hcD
  ca := fun X I k => ask_class T X I k
end
section
variable {X : Cx} {S : Sta} {C : Ctx} {W : WX} {pos : Pos}
/-- isinstance(e, T) of the caught error -/
theorem se_xis {z y tz : Str} {t : String} {i : Nat} {p p1 p2 : Pos} {a : Addr} {oe : Obj} {cls : Value} {dd : Option Addr} {pn : List (Addr × Obj)} {tv : V} {tu : Value} (hzc : Zc cls dd oe) (hv : ∃ vs, oe.data = .fields vs) (hy : y = "isinstance") (hg : glB X.env.scope y = true) (hm : X.mg y = none)
    (hT : PE (X.suite a ((a, oe) :: pn)) (.Name tz p2) (tC tv)) (htv : ∀ u, RelV tv u → u = tu) (hx : ∀ c fl b, C.flds c = some fl → C.sub c t = some b → ExcC X.K (S.ca c) ∧ PySem.W.kitOne X.K (.ref (S.ca c)) tu = some b) (hN : X.N[i]? = some z) (hvis : visB X.env.scope z = true) (hd : (z == ("__debug__" : Str)) = false) (hcd : (z == ("__classdict__" : Str)) = false) :
    SE (X.suite a ((a, oe) :: pn)) S (some (a, cls, dd)) C W (.Call (.Name y p) [.Name z p1, .Name tz p2] [] pos) (.xis i t) := by
  intro L ι G H d σ P E Q R En h k kx
  unfold ev at h
  split at h
  · rename_i c fu fs hi
    split at h
    · rename_i hfl
      obtain ⟨fl, hfl⟩ := Option.isSome_iff_exists.mp hfl
      obtain ⟨u, hu, hP⟩ := Sat.ofO h
      obtain ⟨a', dd', e1, e2, hxd⟩ := En.exn i c (fu :: fs) hi
      obtain ⟨f1, u1⟩ := fu
      obtain ⟨xd, fvs, _, d1, d2, _, _⟩ := hxd f1 u1 (by rw [List.lookup_cons]; simp)
      cases e1
      cases hsb : C.sub c t with
      | none => rw [hsb] at hu; cases hu
      | some b =>
        rw [hsb] at hu
        cases hu
        obtain ⟨T, hkit⟩ := hx c fl b hfl hsb
        subst hy
        have hpe : PE (X.suite a ((a, oe) :: pn)) (.Name z p1) (tVar i) := pe_var hN (vis_of hvis) hd hcd
        have hci : CallR (X.suite a ((a, oe) :: pn)) (.builtin "isinstance") (fun xs H Q => xs = [.ref a, tv] ∧ Q (.bl b) H ∧ ∀ x, dd = some x → ∃ fs, H x = some (.xd fs)) := by
          intro pins s σ H xs us Q I r hh
          obtain ⟨ex, q, hdd⟩ := hh
          subst ex
          obtain ⟨u1, u2, rfl, r1, r2⟩ := r.two
          cases r1
          rw [htv _ r2]
          obtain ⟨hget, _⟩ := I.pin (a, oe) (List.mem_append.mpr (.inl List.mem_cons_self))
          obtain ⟨vs, hvs⟩ := hv
          have hcls : PySem.W.notCls oe = true := by unfold PySem.W.notCls; rw [hvs]
          have J : ∃ od, PySem.W.InstAt s.heap a oe (S.ca c) od := by
            cases hq : dd with
            | none =>
              exact ⟨none, hget, hzc.1, hcls, by rw [hzc.2, hq]; trivial⟩
            | some x =>
              obtain ⟨fs', hf'⟩ := hdd x hq
              obtain ⟨mA, ⟨o, es, ep, ho, hr⟩, _⟩ := I.hok x _ hf'
              exact ⟨some o, hget, hzc.1, hcls, by rw [hzc.2, hq]; exact ho⟩
          obtain ⟨od, J⟩ := J
          exact PySem.W.kia_one (kit_exc T) I.kIn J hkit (fun z => nomatch z) fun tk => ⟨.bl b, H, I.kept (t' := tk) fun _ _ z => z, rfl, q⟩
        refine .of (pe_callB (id := "isinstance") hci (gl_of hg) hm (by decide +kernel) (pa_cons hpe (pa_cons hT pa_nil rfl) rfl) (by decide +kernel) (by decide +kernel) rfl rfl) ⟨.ref a, e2, rfl, k.same R hP rfl, fun x e => ⟨fvs, ?_⟩⟩
        rw [d1] at e
        cases e
        exact d2
    · exact h.elim
  · exact h.elim
end
end PV
set_option Elab.async false
set_option linter.all false
set_option maxRecDepth 100000
set_option maxHeartbeats 1000000
/-! PyDef: a def of the mini program keeps its promise; an error class's __init__. -/
namespace PV
open PySem PySem.Spec L2
open PyProof.Rows (envOfC)
theorem vals_at {S : Sta} {ι : List Addr} {H : Hp} : ∀ {us : List U} {vs : List V} {k : Nat} {i : Nat} {u : U}, VRs S ι H us vs → (us.map SV.val ++ List.replicate k SV.no)[i]? = some (.val u) → ∃ v, (vs.map some ++ List.replicate k none)[i]? = some (some v) ∧ VR S ι H u v
  | [], vs, k, i, u, r, h => by
    rw [List.map_nil, List.nil_append] at h
    have := List.mem_of_getElem? h
    rw [List.mem_replicate] at this
    cases this.2
  | w :: us, vs, k, i, u, r, h => by
    obtain ⟨v, vs', e, r1, r2⟩ := r
    subst e
    cases i with
    | zero =>
      have h' : some (SV.val w) = some (.val u) := h
      cases h'
      exact ⟨v, rfl, r1⟩
    | succ i =>
      have h' : (us.map SV.val ++ List.replicate k SV.no)[i]? = some (.val u) := by simpa using h
      obtain ⟨x, q1, q2⟩ := vals_at r2 h'
      exact ⟨x, by simpa using q1, q2⟩
theorem no_exn {us : List U} {k i : Nat} {c : String} {fs : List (String × U)} (h : (us.map SV.val ++ List.replicate k SV.no)[i]? = some (.exn c fs)) : False := by
  have := List.mem_of_getElem? h
  rcases List.mem_append.mp this with h | h
  · obtain ⟨u, _, e⟩ := List.mem_map.mp h
    cases e
  · rw [List.mem_replicate] at h
    cases h.2
theorem env_start {S : Sta} {ι : List Addr} {H : Hp} {md : MDef} {us : List U} {vs : List V} {N : List Str} (r : VRs S ι H us vs) (hl : us.length = md.np) (hn : md.ns = N.length) : EnvR S none ι H (PV.start md us) (L2.start N vs) := by
  have hv := r.length
  have e : N.length - vs.length = md.ns - md.np := by rw [hn, hv, hl]
  unfold PV.start L2.start
  rw [e]
  exact ⟨by simp [hv], fun i u h => vals_at r h, fun i c fs h => (no_exn h).elim⟩
/-- a def keeps its promise, given its body -/
theorem fn_ok {P : Program} {w : World} {K : PySem.W.Frag} {mg : Str → Option Value} {base : Heap} {x qual : Str} {params : Arguments} {body : List Stmt} {scope : Scope} {dvs : List V} {kws : List (Str × V)} {f : Addr} {fd : FuncData} {N ps : List Str} {k n : Nat} {S : Sta} {MP : MProg} {md : MDef} {c fn : String}
    (F : FunD K x qual params body scope dvs kws f fd) (Sc : FnScope N ps scope) (hmd : MP.defs c fn = some md) (hnp : md.np = ps.length) (hns : md.ns = N.length)
    (hbody : ∀ (cdv : Value) (A : Around) (outer : List PySem.Env) (s : Shared) (H : Hp) (E : XK), Room k (A.deeper (envOfC qual scope s.heap.objs.size f cdv)) → SB (cxOf (L2.CX P w) P w K mg base N qual scope f cdv A outer s H E) S none (ctx MP n) (fun cls d _ H' => E cls d H') body md.body) :
    FnOk P w K mg base (L2.CX P w) (k + 1) f fd ps (spRun S (fun L us G => run MP (n + 1) false L c fn us G) ps.length) := by
  refine F.ok Sc (fun vs H Q E h => h.1) (fun cdv A outer s H vs Q E hr hsp => ?_)
  obtain ⟨hl, L, ι, G, us, Pk, Ek, R, r, h, k1, k2⟩ := hsp
  refine ⟨_, pb_w, ?_⟩
  have h1 : Sat (match MP.defs c fn with
    | none => (.bad : Res U)
    | some md => if us.length = md.np then (exB ⟨false, run MP n, MP.flds, MP.sub⟩ L md.body (PV.start md us) G).res else .bad) Pk Ek := h
  rw [hmd] at h1
  simp only at h1
  split at h1
  · rename_i hu
    have h2 : FSat (exB (ctx MP n) L md.body (PV.start md us) G) ⟨fun _ G => Pk .non G, Pk, fun _ _ => False, fun _ _ => False, fun c fs _ G => Ek c fs G⟩ := by
      cases q : exB ⟨false, run MP n, MP.flds, MP.sub⟩ L md.body (PV.start md us) G <;> (rw [q] at h1; exact h1)
    exact hbody cdv A outer s H E hr L ι G H _ _ _ _ R (env_start r hu hns) h2 ⟨fun d1 G1 ι1 H1 σ1 hp e1 R1 _ => k1 _ _ _ _ _ hp e1 R1 rfl, fun u G1 v ι1 H1 hp e1 R1 r1 => k1 u G1 v ι1 H1 hp e1 R1 r1, fun _ _ _ _ _ z => z.elim, fun _ _ _ _ _ z => z.elim, fun c fs d1 G1 dd ι1 H1 σ1 hp e1 R1 _ x => k2 c fs G1 dd ι1 H1 hp e1 R1 x⟩
  · exact h1.elim
/-! ### an error class's __init__(self, f1, ..): self.f1 = f1; .. -/
section
variable {X : Cx} {S : Sta} {pos : Pos}
/-- the statements: field f of slot j -/
def okErr (N : List Str) (sc : Scope) : Nat → List String → List Stmt → Bool
  | _, [], [] => true
  | j, f :: fl, .Assign [.Attribute (.Name s0 _) g _] (.Name y _) _ :: st => decide (N[0]? = some s0) && visB sc s0 && !(s0 == ("__debug__" : Str)) && !(s0 == ("__classdict__" : Str)) && decide (g = Str.ofString f) && decide (N[j]? = some y) && visB sc y && !(y == ("__debug__" : Str)) && !(y == ("__classdict__" : Str)) && okErr N sc (j + 1) fl st
  | _, _, _ => false
theorem okErr_at {N : List Str} {sc : Scope} {j : Nat} {f : String} {fl : List String} {s1 : Stmt} {st : List Stmt} (h : okErr N sc j (f :: fl) (s1 :: st) = true) : ∃ s0 p0 p1 y p2 p3, s1 = .Assign [.Attribute (.Name s0 p0) (Str.ofString f) p1] (.Name y p2) p3 ∧ N[0]? = some s0 ∧ visB sc s0 = true ∧ (s0 == ("__debug__" : Str)) = false ∧ (s0 == ("__classdict__" : Str)) = false ∧ N[j]? = some y ∧ visB sc y = true ∧ (y == ("__debug__" : Str)) = false ∧ (y == ("__classdict__" : Str)) = false ∧ okErr N sc (j + 1) fl st = true := by
  unfold okErr at h
  split at h
  · rename_i h1 h2
    cases h1
  · rename_i j' f' fl' s0 p0 g p1 y p2 p3 st' e1 e2
    cases e1
    cases e2
    simp only [Bool.and_eq_true, decide_eq_true_eq, Bool.not_eq_true'] at h
    obtain ⟨⟨⟨⟨⟨⟨⟨⟨⟨h1, h2⟩, h3⟩, h4⟩, h5⟩, h6⟩, h7⟩, h8⟩, h9⟩, h10⟩ := h
    subst h5
    exact ⟨s0, p0, p1, y, p2, p3, rfl, h1, h2, h3, h4, h6, h7, h8, h9, h10⟩
  · cases h
/-- behind the first field -/
theorem err_tail {a Ca dx : Addr} (T : OexC X.K Ca) (hne : dx ≠ a) : ∀ (st : List Stmt) (fl : List String) (j : Nat) (σ : L2.St) (H : Hp) (D : Ends) (fs : List (Str × V)) (ys : List V), okErr X.N X.env.scope j fl st = true → (∀ f ∈ fl, PySem.W.findIn X.K (.ref Ca) (Str.ofString f) = some none) →
    σ[0]? = some (some (.ref a)) → (∀ (i : Nat) y, ys[i]? = some y → σ[j + i]? = some (some y)) → ys.length = fl.length → fs.length + fl.length ≤ 900 → H a = some (exo a Ca (some dx)) → H dx = some (exd dx fs) →
    (∀ H2, H2 a = some (exo a Ca (some dx)) → H2 dx = some (exd dx ((fl.zip ys).foldl (fun acc p => (Str.ofString p.1, p.2) :: acc) fs)) → (∀ b, b ≠ a → b ≠ dx → H2 b = H b) → D.nx σ H2) → wB X st D σ H
  | [], [], j, σ, H, D, fs, ys, hok, hno, h0, hv, hl, hz, ha, hd, q => .of pss_nil (q H ha hd fun _ _ _ => rfl)
  | s1 :: st, f :: fl, j, σ, H, D, fs, y :: ys, hok, hno, h0, hv, hl, hz, ha, hd, q => by
    obtain ⟨s0, p0, p1, yn, p2, p3, e, g1, g2, g3, g4, g5, g6, g7, g8, g9⟩ := okErr_at hok
    subst e
    have hp0 : PE X (.Name s0 p0) (tVar 0) := pe_var g1 (vis_of g2) g3 g4
    have hpy : PE X (.Name yn p2) (tVar j) := pe_var g5 (vis_of g6) g7 g8
    refine .of (pss_cons (ps_ost hp0 hpy rfl) pb_w) ⟨y, by have := hv 0 y rfl; simpa using this, .ref a, h0, a, Ca, rfl, T, hno f List.mem_cons_self, .inr ⟨dx, fs, ha, hd, by simp at hz; omega, ?_⟩⟩
    refine err_tail T hne st fl (j + 1) σ _ D ((Str.ofString f, y) :: fs) ys g9 (fun g hg => hno g (List.mem_cons_of_mem _ hg)) h0 (fun i z hi => ?_) (by simpa using hl) (by simp at hz ⊢; omega) (by rw [upd_ne (Ne.symm hne)]; exact ha) upd_same fun H2 k1 k2 k3 => q H2 k1 k2 fun b b1 b2 => by rw [k3 b b1 b2, upd_ne b2]
    have := hv (i + 1) z (by simpa using hi)
    rwa [show j + (i + 1) = j + 1 + i by omega] at this
  | [], _ :: _, _, _, _, _, _, _, hok, _, _, _, _, _, _, _, _ => by cases hok
  | _ :: _, [], j, _, _, _, _, _, hok, _, _, _, _, _, _, _, _ => by
    unfold okErr at hok
    cases hok
  | _ :: _, _ :: _, _, _, _, _, _, [], _, _, _, _, hl, _, _, _, _ => by cases hl
theorem fold_out {f : String} : ∀ {fl : List String} {ys : List V} {acc : List (Str × V)}, f ∉ fl → ((fl.zip ys).foldl (fun acc p => (Str.ofString p.1, p.2) :: acc) acc).lookup (Str.ofString f) = acc.lookup (Str.ofString f)
  | [], _, _, _ => rfl
  | _ :: _, [], _, _ => rfl
  | g :: fl, y :: ys, acc, h => by
    have hg : f ≠ g := fun e => h (by rw [e]; exact List.mem_cons_self)
    rw [List.zip_cons_cons, List.foldl_cons, fold_out (fl := fl) fun z => h (List.mem_cons_of_mem _ z), List.lookup_cons, beq_eq_false_iff_ne.mpr fun z => hg (ofString_inj z)]
theorem fold_in : ∀ {fl : List String} {ys : List V} {acc : List (Str × V)} {i : Nat} {f : String} {y : V}, fl.Nodup → fl[i]? = some f → ys[i]? = some y → ((fl.zip ys).foldl (fun acc p => (Str.ofString p.1, p.2) :: acc) acc).lookup (Str.ofString f) = some y
  | [], _, _, _, _, _, _, h, _ => by simp at h
  | _ :: _, [], _, _, _, _, _, _, h => by simp at h
  | g :: fl, z :: ys, acc, 0, f, y, nd, h, h' => by
    have e1 : g = f := by simpa using h
    have e2 : z = y := by simpa using h'
    subst e1 e2
    rw [List.zip_cons_cons, List.foldl_cons, fold_out (List.nodup_cons.mp nd).1]
    simp
  | g :: fl, z :: ys, acc, i + 1, f, y, nd, h, h' => by
    rw [List.zip_cons_cons, List.foldl_cons]
    exact fold_in (List.nodup_cons.mp nd).2 (by simpa using h) (by simpa using h')
end
theorem start_at {N : List Str} {vs : List V} {i : Nat} {v : V} (h : vs[i]? = some v) : (L2.start N vs)[i]? = some (some v) := by
  unfold L2.start
  have hi := (List.getElem?_eq_some_iff.mp h).1
  rw [List.getElem?_append_left (by simpa using hi), List.getElem?_map, h]
  rfl
/-- an error class's __init__ keeps its promise -/
theorem err_ok {P : Program} {w : World} {K : PySem.W.Frag} {mg : Str → Option Value} {base : Heap} {x qual : Str} {params : Arguments} {body : List Stmt} {scope : Scope} {dvs : List V} {kws : List (Str × V)} {f Ca : Addr} {fd : FuncData} {N ps : List Str} {k : Nat} {f1 : String} {fl : List String} {s1 : Stmt} {st : List Stmt}
    (F : FunD K x qual params body scope dvs kws f fd) (Sc : FnScope N ps scope) (T : OexC K Ca) (hb : body = s1 :: st) (hok : okErr N scope 1 (f1 :: fl) body = true) (hps : ps.length = fl.length + 2) (hno : ∀ g ∈ f1 :: fl, PySem.W.findIn K (.ref Ca) (Str.ofString g) = some none) (nd : (f1 :: fl).Nodup) (h9 : fl.length ≤ 800) :
    FnOk P w K mg base (L2.CX P w) (k + 1) f fd ps (spErr Ca (f1 :: fl)) := by
  refine F.ok Sc (fun vs H Q E h => ?_) (fun cdv A outer s H vs Q E hr hsp => ?_)
  · obtain ⟨a, ys, e, h1, _⟩ := h
    rw [e, List.length_cons, h1, List.length_cons, hps]
  · obtain ⟨a, ys, e, h1, h2, h3⟩ := hsp
    subst e hb
    refine ⟨_, pb_w, ?_⟩
    cases ys with
    | nil => cases h1
    | cons y ys =>
      obtain ⟨s0, p0, p1, yn, p2, p3, e, g1, g2, g3, g4, g5, g6, g7, g8, g9⟩ := okErr_at hok
      subst e
      have hp0 : PE (cxOf (L2.CX P w) P w K mg base N qual scope f cdv A outer s H E) (.Name s0 p0) (tVar 0) := pe_var g1 (vis_of g2) g3 g4
      have hpy : PE (cxOf (L2.CX P w) P w K mg base N qual scope f cdv A outer s H E) (.Name yn p2) (tVar 1) := pe_var g5 (vis_of g6) g7 g8
      have at0 : (L2.start N (.ref a :: y :: ys))[0]? = some (some (.ref a)) := start_at rfl
      refine .of (pss_cons (ps_ost hp0 hpy rfl) pb_w) ⟨y, start_at rfl, .ref a, at0, a, Ca, rfl, T, hno f1 List.mem_cons_self, .inl ⟨h2, fun dx hd hne => ?_⟩⟩
      refine err_tail (X := cxOf (L2.CX P w) P w K mg base N qual scope f cdv A outer s H E) T hne st fl 2 _ _ _ [(Str.ofString f1, y)] ys g9 (fun g hg => hno g (List.mem_cons_of_mem _ hg)) at0 (fun i z hi => start_at (by rw [show 2 + i = i + 1 + 1 by omega]; simpa using hi)) (by simpa using h1) (by simp; omega) upd_same (by rw [upd_ne hne, upd_same]) fun H2 k1 k2 k3 => ?_
      refine h3 dx _ H2 hd hne k1 k2 (fun b b1 b2 => by rw [k3 b b1 b2, upd_ne b1, upd_ne b2]) fun i g z hg hz => ?_
      exact fold_in (fl := f1 :: fl) (ys := y :: ys) (acc := []) nd hg hz
end PV
set_option Elab.async false
set_option linter.all false
set_option maxRecDepth 100000
set_option maxHeartbeats 2000000
/-! PyOk: the check that a mini text is the def's text (kernel-decided), and that it is sound. -/
namespace PV
open PySem PySem.Spec L2
mutual
def beqU : U → U → Bool
  | .non, .non => true
  | .bl a, .bl b => a == b
  | .int a, .int b => a == b
  | .str a, .str b => a == b
  | .tup a, .tup b => beqUs a b
  | _, _ => false
def beqUs : List U → List U → Bool
  | [], [] => true
  | a :: r, b :: t => beqU a b && beqUs r t
  | _, _ => false
end
mutual
theorem beqU_eq : ∀ {a b : U}, beqU a b = true → a = b
  | .non, b, h => by cases b <;> first | rfl | cases h
  | .bl x, b, h => by
    cases b with
    | bl y => exact congrArg _ (eq_of_beq h)
    | _ => cases h
  | .int x, b, h => by
    cases b with
    | int y => exact congrArg _ (eq_of_beq h)
    | _ => cases h
  | .str x, b, h => by
    cases b with
    | str y => exact congrArg _ (eq_of_beq h)
    | _ => cases h
  | .tup x, b, h => by
    cases b with
    | tup y => exact congrArg _ (beqUs_eq h)
    | _ => cases h
  | .ref x, b, h => by cases b <;> cases h
theorem beqUs_eq : ∀ {a b : List U}, beqUs a b = true → a = b
  | [], b, h => by cases b <;> first | rfl | cases h
  | a :: r, b, h => by
    cases b with
    | nil => cases h
    | cons x t =>
      have h' : (beqU a x && beqUs r t) = true := h
      rw [Bool.and_eq_true] at h'
      rw [beqU_eq h'.1, beqUs_eq h'.2]
end
/-- a way to make instances of a class: n positional values, then the keywords ks -/
structure Msh where
  z : Str
  c : String
  n : Nat
  ks : List Str
  bd : Bnd
structure Tab where
  gls : List (Str × U)
  fns : List (Str × String)
  mks : List Msh
  fld : List String
  xfl : List String
  errs : List (Str × String)
  tys : List (Str × String)
def bltN : List Str := ["len", "all", "any", "int", "isinstance", "range", "enumerate", "zip", "bool", "str", "list", "tuple", "dict"]
def ndb (z : Str) : Bool := !(z == ("__debug__" : Str)) && !(z == ("__classdict__" : Str))
theorem ndb_of {z : Str} (h : ndb z = true) : (z == ("__debug__" : Str)) = false ∧ (z == ("__classdict__" : Str)) = false := by
  unfold ndb at h
  rw [Bool.and_eq_true, Bool.not_eq_true', Bool.not_eq_true'] at h
  exact h
/-- the block's own names with their slots -/
def ownN (N : List Str) (own : List Nat) : List (Str × Nat) := own.map fun i => (N.getD i "", i)
theorem ownN_snd (N : List Str) : ∀ own : List Nat, (ownN N own).map (·.2) = own
  | [] => rfl
  | i :: own => by
    show i :: (ownN N own).map (·.2) = _
    rw [ownN_snd N own]
def eqB (a b : Bnd) : Bool := a.length == b.length && (a.zip b).all fun p => match p.1, p.2 with
  | .inl i, .inl j => i == j
  | .inr u, .inr w => beqU u w
  | _, _ => false
def cellIn (sc : Scope) (x : Str) : Bool := sc.names.lookup x == some .cell
/-- the expressions that a source is made of -/
def srcE (k : SrcK) (it : Expr) : List Expr := match k, it with
  | .plain, e => [e]
  | .range, .Call (.Name _ _) es [] _ => es
  | .enum, .Call (.Name _ _) es [] _ => es
  | .zip, .Call (.Name _ _) es [] _ => es
  | _, _ => []
/-- the source's own shape -/
def okS' (k : SrcK) (n : Nat) (sc : Scope) (t it : Expr) : Bool := match k, it with
  | .plain, _ => n == 1
  | .range, .Call (.Name z _) es [] _ => decide (z = "range") && glB sc z && !(es.any isStar) && (n == 1 || n == 2)
  | .enum, .Call (.Name z _) es [] _ => decide (z = "enumerate") && glB sc z && !(es.any isStar) && n == 1 && (match t with
    | .Tuple _ _ _ => true
    | _ => false)
  | .zip, .Call (.Name z _) es [] _ => decide (z = "zip") && glB sc z && !(es.any isStar) && n == 2 && (match t with
    | .Tuple _ _ _ => true
    | _ => false)
  | _, _ => false
mutual
def okE (N : List Str) (T : Tab) (sc : Scope) : Ex → Expr → Bool
  | .nm i, e => (match e with
    | .Name z _ => decide (N[i]? = some z) && visB sc z && ndb z
    | _ => false)
  | .cI i, e => (match e with
    | .Constant (.int j) _ _ => decide (i = j)
    | _ => false)
  | .cS s, e => (match e with
    | .Constant (.str x) _ _ => decide (x = Str.ofString s)
    | _ => false)
  | .cB b, e => (match e with
    | .Constant (.bool j) _ _ => b == j
    | _ => false)
  | .cN, e => (match e with
    | .Constant .none _ _ => true
    | _ => false)
  | .gl _ u, e => (match e with
    | .Name z _ => glB sc z && ndb z && (T.gls.any fun p => decide (p.1 = z) && beqU p.2 u)
    | _ => false)
  | .bin op a b, e => (match e with
    | .BinOp x o y _ => decide (op = o) && okE N T sc a x && okE N T sc b y
    | _ => false)
  | .neg a, e => (match e with
    | .UnaryOp .USub x _ => okE N T sc a x
    | _ => false)
  | .not a, e => (match e with
    | .UnaryOp .Not x _ => okE N T sc a x
    | _ => false)
  | .cmp op a b, e => (match e with
    | .Compare x [o] [y] _ => decide (op = o) && notSet y && okE N T sc a x && okE N T sc b y
    | _ => false)
  | .cmp2 op op' a b c, e => (match e with
    | .Compare x [o, o'] [y, z] _ => decide (op = o) && decide (op' = o') && notSet z && okE N T sc a x && okE N T sc b y && okE N T sc c z
    | _ => false)
  | .and ms, e => (match e with
    | .BoolOp .And es _ => okL N T sc ms es
    | _ => false)
  | .or ms, e => (match e with
    | .BoolOp .Or es _ => okL N T sc ms es
    | _ => false)
  | .ife c a b, e => (match e with
    | .IfExp x y z _ => okT N T sc c x && okE N T sc a y && okE N T sc b z
    | _ => false)
  | .call f ms, e => (match e with
    | .Call (.Name z _) es [] _ => glB sc z && ndb z && (T.fns.any fun p => decide (p.1 = z) && p.2 == f) && !(es.any isStar) && okL N T sc ms es
    | _ => false)
  | .mk c ms _ kms bd, e => (match e with
    | .Call (.Name z _) es kws _ => glB sc z && ndb z && !es.isEmpty && !(es.any isStar) && (T.mks.any fun p => decide (p.z = z) && p.c == c && p.n == ms.length && decide (kwN kws = some p.ks) && p.ks.length == kms.length && eqB p.bd bd) && okL N T sc ms es && okK N T sc kms kws
    | _ => false)
  | .meth _ _ _, _ => false
  | .bif f ms, e => (match e with
    | .Call (.Name z _) es [] _ => glB sc z && decide (z = Str.ofString f) && bltN.contains z && (bifV f).isSome && !es.isEmpty && !(es.any isStar) && okL N T sc ms es
    | _ => false)
  | .isi a t, e => (match e with
    | .Call (.Name z _) [x, .Name y _] [] _ => bltT.contains t && decide (z = "isinstance") && decide (y = Str.ofString t) && glB sc z && glB sc y && bltN.contains y && !isStar x && okE N T sc a x
    | _ => false)
  | .bm o m ms, e => (match e with
    | .Call (.Attribute x z ap) es [] p => (bmV m).isSome && decide (z = Str.ofString m) && noSup x && (ap.endLine == p.line) && few es && !(es.any isStar) && okE N T sc o x && okL N T sc ms es
    | _ => false)
  | .attr o f, e => (match e with
    | .Attribute x z _ => decide (z = Str.ofString f) && T.fld.contains f && noSup x && okE N T sc o x
    | _ => false)
  | .xat i f, e => (match e with
    | .Attribute (.Name z _) fz _ => decide (fz = Str.ofString f) && T.xfl.contains f && decide (N[i]? = some z) && visB sc z && ndb z
    | _ => false)
  | .xis i t, e => (match e with
    | .Call (.Name y _) [.Name z _, .Name tz _] [] _ => decide (y = "isinstance") && glB sc y && glB sc tz && ndb tz && (T.tys.any fun p => decide (p.1 = tz) && p.2 == t) && decide (N[i]? = some z) && visB sc z && ndb z
    | _ => false)
  | .sub a b, e => (match e with
    | .Subscript x y _ => !isSl y && okE N T sc a x && okE N T sc b y
    | _ => false)
  | .slc a lo hi, e => (match e with
    | .Subscript x (.Slice l h none _) _ => okE N T sc a x && okO N T sc lo l && okO N T sc hi h
    | _ => false)
  | .tup ms, e => (match e with
    | .Tuple es _ _ => decide (ms.length ≤ 1000) && !(es.any isStar) && okL N T sc ms es
    | _ => false)
  | .lst ms, e => (match e with
    | .List es _ => decide (ms.length ≤ 1000) && !(es.any isStar) && okL N T sc ms es
    | _ => false)
  | .dct ms, e => (match e with
    | .Dict ks vs _ => shaped ks vs && decide (ks.length ≤ 15) && okP N T sc ms ks vs
    | _ => false)
  | .lc k src tg cnd elt own, e => (match e with
    | .ListComp x [⟨t, it, ifs, 0⟩] scope _ => notSet it && blkC N sc scope (ownN N own) && okG N (relS scope sc) (cellIn scope) tg t && (tg.slots.all fun i => own.contains i) && okS' k src.length sc t it && okL N T sc src (srcE k it) && okC N T (relS scope sc) cnd ifs && okE N T (relS scope sc) elt x
    | _ => false)
def okL (N : List Str) (T : Tab) (sc : Scope) : List Ex → List Expr → Bool
  | [], es => es.isEmpty
  | m :: ms, es => (match es with
    | e :: es => okE N T sc m e && okL N T sc ms es
    | [] => false)
def okK (N : List Str) (T : Tab) (sc : Scope) : List Ex → List Keyword → Bool
  | [], es => es.isEmpty
  | m :: ms, es => (match es with
    | ⟨_, e, _⟩ :: es => okE N T sc m e && okK N T sc ms es
    | [] => false)
def okP (N : List Str) (T : Tab) (sc : Scope) : List Ex → List (Option Expr) → List Expr → Bool
  | [], ks, vs => ks.isEmpty && vs.isEmpty
  | [_], _, _ => false
  | m :: m' :: ms, ks, vs => (match ks, vs with
    | some k :: ks, v :: vs => okE N T sc m k && okE N T sc m' v && okP N T sc ms ks vs
    | _, _ => false)
def okO (N : List Str) (T : Tab) (sc : Scope) : Option Ex → Option Expr → Bool
  | none, e => e.isNone
  | some m, e => (match e with
    | some e => okE N T sc m e
    | none => false)
def okT (N : List Str) (T : Tab) (sc : Scope) : Ts → Expr → Bool
  | .e m, e => (match e with
    | .Compare _ _ _ _ => okE N T sc m e
    | _ => plainT e && okE N T sc m e)
  | .not t, e => (match e with
    | .UnaryOp .Not x _ => okT N T sc t x
    | _ => false)
  | .and ts, e => (match e with
    | .BoolOp .And es _ => okTL N T sc ts es
    | _ => false)
  | .or ts, e => (match e with
    | .BoolOp .Or es _ => okTL N T sc ts es
    | _ => false)
def okTL (N : List Str) (T : Tab) (sc : Scope) : List Ts → List Expr → Bool
  | [], es => es.isEmpty
  | m :: ms, es => (match es with
    | e :: es => okT N T sc m e && okTL N T sc ms es
    | [] => false)
/-- a clause's tests: none or one -/
def okC (N : List Str) (T : Tab) (sc : Scope) : List Ts → List Expr → Bool
  | [], es => es.isEmpty
  | [t], es => (match es with
    | [e] => okT N T sc t e
    | _ => false)
  | _, _ => false
end
end PV
set_option Elab.async false
set_option linter.all false
set_option maxRecDepth 100000
set_option maxHeartbeats 4000000
/-! PyOk2: what is checked is sound: expressions, tests. -/
namespace PV
open PySem PySem.Spec L2
/-- the world of a text: what the table says is so -/
structure Wld (X : Cx) (S : Sta) (ht : Hot) (T : Tab) (C : Ctx) (W : WX) : Prop where
  hK : X.K = S.K
  hu : X.A.units + 32 < cLine
  hN : X.N.Nodup
  tk : Takes X W
  calm : C.hot = false → X.calm = true
  cool : C.hot = false → ht = none
  blt : ∀ z ∈ bltN, X.mg z = none
  gl : ∀ z u, (z, u) ∈ T.gls → ∃ v uV, X.mg z = some uV ∧ RelV v uV ∧ ∀ ι H, VR S ι H u v
  fn : ∀ z f, (z, f) ∈ T.fns → ∃ a fd ps, X.mg z = some (.ref a) ∧ PySem.W.keepIn X.K (.ref a) = true ∧ FnP X S C "" f a fd ps ∧ Binds X.K fd ps [] ∧ ∀ L us G P E, Sat (C.call false L "" f us G) P E → us.length = ps.length
  hot : C.hot = true → ∀ L c f us G, C.call true L c f us G = .bad
  mks : ∀ sh ∈ T.mks, ∃ f fd ps, sh.c ∈ S.cls ∧ X.mg sh.z = some (.ref (S.ca sh.c)) ∧ Mk X.K (S.ca sh.c) f ∧ FnP X S C sh.c "__init__" f fd ps ∧ Shape X.K S fd ps sh.n sh.ks sh.bd ∧ ∀ L us G P E, Sat (C.call false L sh.c "__init__" us G) P E → us.length = ps.length
  fld : ∀ f ∈ T.fld, ∀ c ∈ S.cls, Cls X.K (S.ca c) ∧ NoAttr X.K (S.ca c) (Str.ofString f)
  xat : ∀ (z fz : Str) (f : String) (i : Nat) (p pos : Pos), fz = Str.ofString f → f ∈ T.xfl → X.N[i]? = some z → visB X.env.scope z = true → ndb z = true → SE X S ht C W (.Attribute (.Name z p) fz pos) (.xat i f)
  xis : ∀ (z y tz : Str) (t : String) (i : Nat) (p p1 p2 pos : Pos), y = "isinstance" → glB X.env.scope y = true → glB X.env.scope tz = true → ndb tz = true → (tz, t) ∈ T.tys → X.N[i]? = some z → visB X.env.scope z = true → ndb z = true → SE X S ht C W (.Call (.Name y p) [.Name z p1, .Name tz p2] [] pos) (.xis i t)
theorem no_xat {X : Cx} {S : Sta} {C : Ctx} {W : WX} {e : Expr} {i : Nat} {f : String} : SE X S none C W e (.xat i f) := by
  intro L ι G H d σ P E Q R En h k kx
  unfold ev at h
  split at h
  · rename_i c fs hi
    obtain ⟨_, _, z, _⟩ := En.exn i c fs hi
    cases z
  · exact h.elim
theorem no_xis {X : Cx} {S : Sta} {C : Ctx} {W : WX} {e : Expr} {i : Nat} {t : String} : SE X S none C W e (.xis i t) := by
  intro L ι G H d σ P E Q R En h k kx
  unfold ev at h
  split at h
  · rename_i c fu fs hi
    obtain ⟨_, _, z, _⟩ := En.exn i c (fu :: fs) hi
    cases z
  · exact h.elim
theorem takes_no {X : Cx} : Takes X (fun _ _ _ _ => False) := fun _ _ h => by
  obtain ⟨_, _, _, _, _, _, _, _, _, _, _, _, _, _, _, _, w⟩ := h
  exact w.elim
/-- within a comprehension's block -/
theorem Wld.blk {X : Cx} {S : Sta} {T : Tab} {C : Ctx} {W : WX} (w : Wld X S none T C W) (s : Shared) (H : Hp) (scope : Scope) (D : Addr) (cl : List (Str × Addr)) (fp : List Addr) : Wld (X.blk s H scope (compEnvC scope cl D X.env) fp) S none T C (fun _ _ _ _ => False) :=
  ⟨w.hK, w.hu, w.hN, takes_no, w.calm, w.cool, w.blt, w.gl, w.fn, w.hot, w.mks, w.fld, fun _ _ _ _ _ _ _ _ _ _ _ => no_xat, fun _ _ _ _ _ _ _ _ _ _ _ _ _ _ _ _ _ => no_xis⟩
section
variable {X : Cx} {S : Sta} {ht : Hot} {T : Tab} {C : Ctx} {W : WX}
theorem eqB_eq : ∀ {a b : Bnd}, eqB a b = true → a = b := by
  intro a
  induction a with
  | nil =>
    intro b h
    cases b with
    | nil => rfl
    | cons _ _ => simp [eqB] at h
  | cons x a ih =>
    intro b h
    cases b with
    | nil => simp [eqB] at h
    | cons y b =>
      unfold eqB at h
      rw [Bool.and_eq_true, List.zip_cons_cons, List.all_cons, Bool.and_eq_true] at h
      obtain ⟨h1, h2, h3⟩ := h
      have e : x = y := by
        cases x with
        | inl i => cases y with
          | inl j => exact congrArg _ (eq_of_beq h2)
          | inr _ => cases h2
        | inr u => cases y with
          | inl _ => cases h2
          | inr w => exact congrArg _ (beqU_eq h2)
      rw [e, ih (b := b) (by unfold eqB; rw [Bool.and_eq_true]; exact ⟨by simpa using h1, h3⟩)]
theorem blt_mg (w : Wld X S ht T C W) {z : Str} (h : bltN.contains z = true) : X.mg z = none := w.blt z (by simpa using h)
/-- the rule of a comprehension's source -/
theorem src_ok (w : Wld X S ht T C W) {k : SrcK} {src : List Ex} {t it : Expr} (h : okS' k src.length X.env.scope t it = true) (hl : SEL X S ht C W (srcE k it) src) : SIt X S ht C W t it k src := by
  have one : ∀ {es : List Expr} {ms : List Ex}, SEL X S ht C W es ms → ms.length = 1 → ∃ e m, es = [e] ∧ ms = [m] := fun {es ms} q l => by
    match ms, l with
    | [m], _ => match es, q with
      | [e], _ => exact ⟨e, m, rfl, rfl⟩
      | e :: e' :: r, q => exact q.2.elim
  have two : ∀ {es : List Expr} {ms : List Ex}, SEL X S ht C W es ms → ms.length = 2 → ∃ e e' m m', es = [e, e'] ∧ ms = [m, m'] := fun {es ms} q l => by
    match ms, l with
    | [m, m'], _ => match es, q with
      | [e, e'], _ => exact ⟨e, e', m, m', rfl, rfl⟩
      | [e], q => exact q.2.elim
      | e :: e' :: e'' :: r, q => exact q.2.2.elim
  have bl : ∀ z : Str, (z = "range" ∨ z = "enumerate" ∨ z = "zip") → X.mg z = none := fun z hz => w.blt z (by
    rcases hz with e | e | e <;> (subst e; decide +kernel))
  unfold okS' at h
  split at h
  · obtain ⟨e, m, e1, e2⟩ := one hl (eq_of_beq h)
    subst e2
    have e1' : [it] = [e] := e1
    cases e1'
    exact sit_plain w.hK hl.1
  · rename_i z p es ps
    simp only [Bool.and_eq_true, decide_eq_true_eq, Bool.not_eq_true', Bool.or_eq_true, beq_iff_eq] at h
    obtain ⟨⟨⟨h1, h2⟩, h3⟩, h4⟩ := h
    have hl' : SEL X S ht C W es src := hl
    rcases h4 with h4 | h4
    · obtain ⟨e, m, e1, e2⟩ := one hl' h4
      subst e1 e2
      exact sit_range1 h1 h2 (bl _ (.inl h1)) (by simpa using h3) (hl'.sa h3)
    · obtain ⟨e, e', m, m', e1, e2⟩ := two hl' h4
      subst e1 e2
      simp only [List.any_cons, List.any_nil, Bool.or_false, Bool.or_eq_false_iff] at h3
      exact sit_range2 h1 h2 (bl _ (.inl h1)) h3.1 h3.2 (hl'.sa (by simp [h3.1, h3.2]))
  · rename_i z p es ps
    simp only [Bool.and_eq_true, decide_eq_true_eq, Bool.not_eq_true', beq_iff_eq] at h
    obtain ⟨⟨⟨⟨h1, h2⟩, h3⟩, h4⟩, h5⟩ := h
    have hl' : SEL X S ht C W es src := hl
    obtain ⟨e, m, e1, e2⟩ := one hl' h4
    subst e1 e2
    split at h5
    · exact sit_enum w.hK h1 h2 (bl _ (.inr (.inl h1))) (by simpa using h3) (hl'.sa h3)
    · cases h5
  · rename_i z p es ps
    simp only [Bool.and_eq_true, decide_eq_true_eq, Bool.not_eq_true', beq_iff_eq] at h
    obtain ⟨⟨⟨⟨h1, h2⟩, h3⟩, h4⟩, h5⟩ := h
    have hl' : SEL X S ht C W es src := hl
    obtain ⟨e, e', m, m', e1, e2⟩ := two hl' h4
    subst e1 e2
    simp only [List.any_cons, List.any_nil, Bool.or_false, Bool.or_eq_false_iff] at h3
    split at h5
    · exact sit_zip w.hK h1 h2 (bl _ (.inr (.inr h1))) h3.1 h3.2 (hl'.sa (by simp [h3.1, h3.2]))
    · cases h5
  · cases h
end
end PV
set_option Elab.async false
set_option linter.all false
set_option maxRecDepth 100000
set_option maxHeartbeats 4000000
/-! PyOk3: okE, okT are sound. -/
namespace PV
open PySem PySem.Spec L2
mutual
theorem ok_e {S : Sta} {T : Tab} {C : Ctx} : ∀ (m : Ex) {X : Cx} {ht : Hot} {W : WX}, Wld X S ht T C W → ∀ (e : Expr), okE X.N T X.env.scope m e = true → SE X S ht C W e m
  | .nm i, X, ht, W, w, e, h => by
    cases e with
    | Name z p =>
      simp only [okE, Bool.and_eq_true, decide_eq_true_eq] at h
      exact se_nm h.1.1 h.1.2 (ndb_of h.2).1 (ndb_of h.2).2
    | _ => simp only [okE] at h; cases h
  | .cI i, X, ht, W, w, e, h => by
    cases e with
    | Constant c j p => cases c with
      | int k =>
        simp only [okE, decide_eq_true_eq] at h
        subst h
        exact se_cI
      | _ => simp only [okE] at h; cases h
    | _ => simp only [okE] at h; cases h
  | .cS s, X, ht, W, w, e, h => by
    cases e with
    | Constant c j p => cases c with
      | str x =>
        simp only [okE, decide_eq_true_eq] at h
        subst h
        exact se_cS
      | _ => simp only [okE] at h; cases h
    | _ => simp only [okE] at h; cases h
  | .cB b, X, ht, W, w, e, h => by
    cases e with
    | Constant c j p => cases c with
      | bool x =>
        simp only [okE, beq_iff_eq] at h
        subst h
        exact se_cB
      | _ => simp only [okE] at h; cases h
    | _ => simp only [okE] at h; cases h
  | .cN, X, ht, W, w, e, h => by
    cases e with
    | Constant c j p => cases c with
      | none => exact se_cN
      | _ => simp only [okE] at h; cases h
    | _ => simp only [okE] at h; cases h
  | .gl x u, X, ht, W, w, e, h => by
    cases e with
    | Name z p =>
      simp only [okE, Bool.and_eq_true, List.any_eq_true, decide_eq_true_eq] at h
      obtain ⟨⟨h1, h2⟩, ⟨z', u'⟩, h3, h4, h5⟩ := h
      simp only at h4 h5
      subst h4
      have e := beqU_eq h5
      subst e
      obtain ⟨v, uV, g1, g2, g3⟩ := w.gl _ _ h3
      exact se_gl h1 g1 g2 g3 (ndb_of h2).1
    | _ => simp only [okE] at h; cases h
  | .bin op a b, X, ht, W, w, e, h => by
    cases e with
    | BinOp x o y p =>
      simp only [okE, Bool.and_eq_true, decide_eq_true_eq] at h
      obtain ⟨⟨h1, h2⟩, h3⟩ := h
      subst h1
      exact se_bin w.hK (ok_e a w x h2) (ok_e b w y h3)
    | _ => simp only [okE] at h; cases h
  | .neg a, X, ht, W, w, e, h => by
    cases e with
    | UnaryOp o x p => cases o with
      | USub => exact se_neg (ok_e a w x (by simpa only [okE] using h))
      | _ => simp only [okE] at h; cases h
    | _ => simp only [okE] at h; cases h
  | .not a, X, ht, W, w, e, h => by
    cases e with
    | UnaryOp o x p => cases o with
      | Not => exact se_not (ok_e a w x (by simpa only [okE] using h))
      | _ => simp only [okE] at h; cases h
    | _ => simp only [okE] at h; cases h
  | .cmp op a b, X, ht, W, w, e, h => by
    unfold okE at h
    split at h
    · rename_i x o y p
      simp only [Bool.and_eq_true, decide_eq_true_eq] at h
      obtain ⟨⟨⟨h1, h2⟩, h3⟩, h4⟩ := h
      subst h1
      exact se_cmp w.hK w.hu h2 (ok_e a w x h3) (ok_e b w y h4)
    · cases h
  | .cmp2 op op' a b c, X, ht, W, w, e, h => by
    unfold okE at h
    split at h
    · rename_i x o o' y z p
      simp only [Bool.and_eq_true, decide_eq_true_eq] at h
      obtain ⟨⟨⟨⟨⟨h1, h2⟩, h3⟩, h4⟩, h5⟩, h6⟩ := h
      subst h1 h2
      exact se_cmp2 w.hK w.hu h3 (ok_e a w x h4) (ok_e b w y h5) (ok_e c w z h6)
    · cases h
  | .and ms, X, ht, W, w, e, h => by
    unfold okE at h
    split at h
    · exact se_and (ok_l ms w _ h)
    · cases h
  | .or ms, X, ht, W, w, e, h => by
    unfold okE at h
    split at h
    · exact se_or (ok_l ms w _ h)
    · cases h
  | .ife c a b, X, ht, W, w, e, h => by
    unfold okE at h
    split at h
    · simp only [Bool.and_eq_true] at h
      exact se_ife (ok_t c w _ h.1.1) (ok_e a w _ h.1.2) (ok_e b w _ h.2)
    · cases h
  | .call f ms, X, ht, W, w, e, h => by
    unfold okE at h
    split at h
    · simp only [Bool.and_eq_true, List.any_eq_true, decide_eq_true_eq, Bool.not_eq_true', beq_iff_eq] at h
      obtain ⟨⟨⟨⟨h1, h2⟩, ⟨z', f'⟩, h3, h4, h5⟩, h6⟩, h7⟩ := h
      simp only at h4 h5
      subst h4 h5
      obtain ⟨a, fd, ps, g1, g2, g3, g4, g5⟩ := w.fn _ _ h3
      have hl := ok_l ms w _ h7
      exact se_call h1 (ndb_of h2).1 g1 g2 g3 g4 g5 (fun q L us G => w.hot q L _ _ us G) w.tk h6 (fun e => by
        have := hl.len
        rw [e] at this
        exact List.eq_nil_of_length_eq_zero this.symm) (hl.sa h6)
    · cases h
  | .mk c ms kss kms bd, X, ht, W, w, e, h => by
    unfold okE at h
    split at h
    · rename_i z p es kws pos
      simp only [Bool.and_eq_true, List.any_eq_true, decide_eq_true_eq, Bool.not_eq_true', beq_iff_eq] at h
      obtain ⟨⟨⟨⟨⟨⟨h1, h2⟩, h3⟩, h4⟩, sh, h5, ⟨⟨⟨⟨h6, h7⟩, h8⟩, h9⟩, h10⟩, h11⟩, h12⟩, h13⟩ := h
      subst h6 h7
      have e11 := eqB_eq h11
      subst e11
      obtain ⟨f, fd, ps, g1, g2, g3, g4, g5, g6⟩ := w.mks sh h5
      have hl := ok_l ms w _ h12
      cases es with
      | nil => cases h3
      | cons e es => exact se_mk h1 (ndb_of h2).1 g1 g2 g3 g4 (by rw [← h8]; exact g5) g6 (fun q L us G => w.hot q L _ _ us G) w.tk h4 h9 h10.symm (hl.sa h4) (ok_k kms w _ h13)
    · cases h
  | .meth _ _ _, X, ht, W, w, e, h => by
    simp only [okE] at h
    cases h
  | .bif f ms, X, ht, W, w, e, h => by
    unfold okE at h
    split at h
    · rename_i z p es pos
      simp only [Bool.and_eq_true, decide_eq_true_eq, Bool.not_eq_true', Option.isSome_iff_exists] at h
      obtain ⟨⟨⟨⟨⟨⟨h1, h2⟩, h3⟩, ⟨fv, h4⟩⟩, h5⟩, h6⟩, h7⟩ := h
      cases es with
      | nil => cases h5
      | cons e es => exact se_bif h4 h2 h1 (blt_mg w h3) w.hK w.calm h6 ((ok_l ms w _ h7).sa h6)
    · cases h
  | .isi a t, X, ht, W, w, e, h => by
    unfold okE at h
    split at h
    · simp only [Bool.and_eq_true, decide_eq_true_eq, Bool.not_eq_true'] at h
      obtain ⟨⟨⟨⟨⟨⟨⟨h1, h2⟩, h3⟩, h4⟩, h5⟩, h6⟩, h7⟩, h8⟩ := h
      exact se_isi h1 h2 h3 h4 (w.blt _ (by subst h2; decide +kernel)) h5 (blt_mg w h6) w.hK h7 (ok_e a w _ h8)
    · cases h
  | .bm o m ms, X, ht, W, w, e, h => by
    unfold okE at h
    split at h
    · rename_i x z ap es p
      simp only [Bool.and_eq_true, decide_eq_true_eq, Bool.not_eq_true', Option.isSome_iff_exists] at h
      obtain ⟨⟨⟨⟨⟨⟨⟨⟨⟨Ti, id⟩, h1⟩, h2⟩, h3⟩, h4⟩, h5⟩, h6⟩, h7⟩, h8⟩ := h
      have hl := ok_l ms w _ h8
      cases es with
      | nil =>
        have em : ms = [] := List.eq_nil_of_length_eq_zero hl.len.symm
        subst em
        exact se_bm0 h1 h2 w.hK h3 h4 (ok_e o w _ h7)
      | cons e es => exact se_bm h1 h2 w.hK h3 h4 h5 h6 (ok_e o w _ h7) (hl.sa h6)
    · cases h
  | .attr o f, X, ht, W, w, e, h => by
    unfold okE at h
    split at h
    · simp only [Bool.and_eq_true, decide_eq_true_eq] at h
      obtain ⟨⟨⟨h1, h2⟩, h3⟩, h4⟩ := h
      subst h1
      exact se_attr h3 (w.fld f (by simpa using h2)) (ok_e o w _ h4)
    · cases h
  | .xat i f, X, ht, W, w, e, h => by
    unfold okE at h
    split at h
    · simp only [Bool.and_eq_true, decide_eq_true_eq] at h
      obtain ⟨⟨⟨⟨h1, h2⟩, h3⟩, h4⟩, h5⟩ := h
      exact w.xat _ _ _ _ _ _ h1 (by simpa using h2) h3 h4 h5
    · cases h
  | .xis i t, X, ht, W, w, e, h => by
    unfold okE at h
    split at h
    · simp only [Bool.and_eq_true, decide_eq_true_eq, List.any_eq_true, beq_iff_eq] at h
      obtain ⟨⟨⟨⟨⟨⟨⟨h1, h2⟩, h3⟩, h4⟩, ⟨z', t'⟩, h5, h6, h7⟩, h8⟩, h9⟩, h10⟩ := h
      simp only at h6 h7
      subst h6 h7
      exact w.xis _ _ _ _ _ _ _ _ _ h1 h2 h3 h4 h5 h8 h9 h10
    · cases h
  | .sub a b, X, ht, W, w, e, h => by
    unfold okE at h
    split at h
    · simp only [Bool.and_eq_true, Bool.not_eq_true'] at h
      exact se_sub w.hK w.hu h.1.1 (ok_e a w _ h.1.2) (ok_e b w _ h.2)
    · cases h
  | .slc a lo hi, X, ht, W, w, e, h => by
    unfold okE at h
    split at h
    · simp only [Bool.and_eq_true] at h
      exact se_slc w.hK (ok_e a w _ h.1.1) (ok_o lo w _ h.1.2) (ok_o hi w _ h.2)
    · cases h
  | .tup ms, X, ht, W, w, e, h => by
    unfold okE at h
    split at h
    · simp only [Bool.and_eq_true, decide_eq_true_eq, Bool.not_eq_true'] at h
      exact se_tup h.1.1 ((ok_l ms w _ h.2).sa h.1.2)
    · cases h
  | .lst ms, X, ht, W, w, e, h => by
    unfold okE at h
    split at h
    · simp only [Bool.and_eq_true, decide_eq_true_eq, Bool.not_eq_true'] at h
      exact se_lst h.1.1 ((ok_l ms w _ h.2).sa h.1.2)
    · cases h
  | .dct ms, X, ht, W, w, e, h => by
    unfold okE at h
    split at h
    · simp only [Bool.and_eq_true, decide_eq_true_eq] at h
      exact se_dct h.1.1 h.1.2 (ok_p ms w _ _ h.2)
    · cases h
  | .lc k src tg cnd elt own, X, ht, W, w, e, h => by
    unfold okE at h
    split at h
    · rename_i x t it ifs scope p
      simp only [Bool.and_eq_true] at h
      obtain ⟨⟨⟨⟨⟨⟨⟨h1, h2⟩, h3⟩, h4⟩, h5⟩, h6⟩, h7⟩, h8⟩ := h
      cases q : C.hot with
      | true =>
        intro L ι G H d σ P E Q R En hh k kx
        unfold ev at hh
        rw [if_pos q] at hh
        exact hh.elim
      | false =>
        have hz := w.cool q
        subst hz
        have own2 := ownN_snd X.N own
        have key := se_lc (X := X) (S := S) (ht := none) (C := C) (W := W) (pos := p) (elt := x) (tg := t) (iter := it) (ifs := ifs) (scope := scope) (own := ownN X.N own) (k := k) (src := src) (t := tg) (cnd := cnd) (m := elt) w.hK w.calm w.hN (src_ok w h5 (ok_l src w _ h6)) (blkOk_by h2)
          (fun s H D cl fp hc => pg_of (X := X.blk s H scope (compEnvC scope cl D X.env) fp) (cell := cellIn scope) hc w.hN (fun x hx => hx) tg t h3)
          (fun s H D cl fp => ok_c cnd (w.blk s H scope D cl fp) ifs h7)
          (fun s H D cl fp => ok_e elt (w.blk s H scope D cl fp) x h8)
          h1 (fun i hi => by rw [own2]; have := List.all_eq_true.mp h4 i hi; simpa using this)
        rw [own2] at key
        exact key
    · cases h
theorem ok_l {S : Sta} {T : Tab} {C : Ctx} : ∀ (ms : List Ex) {X : Cx} {ht : Hot} {W : WX}, Wld X S ht T C W → ∀ (es : List Expr), okL X.N T X.env.scope ms es = true → SEL X S ht C W es ms
  | [], X, ht, W, w, es, h => by
    cases es with
    | nil => trivial
    | cons _ _ => simp only [okL] at h; cases h
  | m :: ms, X, ht, W, w, es, h => by
    cases es with
    | nil => simp only [okL] at h; cases h
    | cons e es =>
      simp only [okL, Bool.and_eq_true] at h
      exact ⟨ok_e m w e h.1, ok_l ms w es h.2⟩
theorem ok_k {S : Sta} {T : Tab} {C : Ctx} : ∀ (ms : List Ex) {X : Cx} {ht : Hot} {W : WX}, Wld X S ht T C W → ∀ (es : List Keyword), okK X.N T X.env.scope ms es = true → SK X S ht C W es ms
  | [], X, ht, W, w, es, h => by
    cases es with
    | nil => exact sk_nil
    | cons _ _ => simp only [okK] at h; cases h
  | m :: ms, X, ht, W, w, es, h => by
    cases es with
    | nil => simp only [okK] at h; cases h
    | cons e es =>
      obtain ⟨nm, e, kp⟩ := e
      simp only [okK, Bool.and_eq_true] at h
      exact sk_cons (ok_e m w e h.1) (ok_k ms w es h.2)
theorem ok_p {S : Sta} {T : Tab} {C : Ctx} : ∀ (ms : List Ex) {X : Cx} {ht : Hot} {W : WX}, Wld X S ht T C W → ∀ (ks : List (Option Expr)) (vs : List Expr), okP X.N T X.env.scope ms ks vs = true → SP' X S ht C W ks vs ms
  | [], X, ht, W, w, ks, vs, h => by
    simp only [okP, Bool.and_eq_true, List.isEmpty_iff] at h
    obtain ⟨h1, h2⟩ := h
    subst h1 h2
    exact sp_nil
  | [_], X, ht, W, w, ks, vs, h => by
    simp only [okP] at h
    cases h
  | m :: m' :: ms, X, ht, W, w, ks, vs, h => by
    unfold okP at h
    split at h
    · simp only [Bool.and_eq_true] at h
      exact sp_cons (ok_e m w _ h.1.1) (ok_e m' w _ h.1.2) (ok_p ms w _ _ h.2)
    · cases h
theorem ok_o {S : Sta} {T : Tab} {C : Ctx} : ∀ (m : Option Ex) {X : Cx} {ht : Hot} {W : WX}, Wld X S ht T C W → ∀ (e : Option Expr), okO X.N T X.env.scope m e = true → SO X S ht C W e m
  | none, X, ht, W, w, e, h => by
    cases e with
    | none => exact so_none
    | some _ => simp only [okO] at h; cases h
  | some m, X, ht, W, w, e, h => by
    cases e with
    | none => simp only [okO] at h; cases h
    | some e => exact so_some (ok_e m w e (by simpa only [okO] using h))
theorem ok_t {S : Sta} {T : Tab} {C : Ctx} : ∀ (m : Ts) {X : Cx} {ht : Hot} {W : WX}, Wld X S ht T C W → ∀ (e : Expr), okT X.N T X.env.scope m e = true → ST X S ht C W e m
  | .e m, X, ht, W, w, e, h => by
    by_cases hc : ∃ a o c p, e = .Compare a o c p
    · obtain ⟨xa, xo, xc, xp, rfl⟩ := hc
      have h' : okE X.N T X.env.scope m (.Compare xa xo xc xp) = true := by simpa only [okT] using h
      cases m with
      | cmp op a b =>
        unfold okE at h'
        split at h'
        · rename_i e1
          cases e1
          simp only [Bool.and_eq_true, decide_eq_true_eq] at h'
          obtain ⟨⟨⟨h1, h2⟩, h3⟩, h4⟩ := h'
          subst h1
          exact st_cmp w.hK w.hu h2 (ok_e a w _ h3) (ok_e b w _ h4)
        · cases h'
      | cmp2 op op' a b c =>
        unfold okE at h'
        split at h'
        · rename_i e1
          cases e1
          simp only [Bool.and_eq_true, decide_eq_true_eq] at h'
          obtain ⟨⟨⟨⟨⟨h1, h2⟩, h3⟩, h4⟩, h5⟩, h6⟩ := h'
          subst h1 h2
          exact st_cmp2 w.hK w.hu h3 (ok_e a w _ h4) (ok_e b w _ h5) (ok_e c w _ h6)
        · cases h'
      | _ => simp only [okE] at h'; cases h'
    · have h' : (plainT e && okE X.N T X.env.scope m e) = true := by
        cases e with
        | Compare a o c p => exact absurd ⟨a, o, c, p, rfl⟩ hc
        | _ => simpa only [okT] using h
      rw [Bool.and_eq_true] at h'
      exact st_plain w.hK h'.1 (ok_e m w e h'.2)
  | .not t, X, ht, W, w, e, h => by
    unfold okT at h
    split at h
    · exact st_not (ok_t t w _ h)
    · cases h
  | .and ts, X, ht, W, w, e, h => by
    unfold okT at h
    split at h
    · exact st_and (ok_tl ts w _ h)
    · cases h
  | .or ts, X, ht, W, w, e, h => by
    unfold okT at h
    split at h
    · exact st_or (ok_tl ts w _ h)
    · cases h
theorem ok_c {S : Sta} {T : Tab} {C : Ctx} : ∀ (ms : List Ts) {X : Cx} {ht : Hot} {W : WX}, Wld X S ht T C W → ∀ (es : List Expr), okC X.N T X.env.scope ms es = true → STs X S ht C W es ms
  | [], X, ht, W, w, es, h => by
    cases es with
    | nil => exact sts_nil
    | cons _ _ => simp only [okC] at h; cases h
  | [t], X, ht, W, w, es, h => by
    unfold okC at h
    split at h
    · exact sts_one (ok_t t w _ h)
    · cases h
  | _ :: _ :: _, X, ht, W, w, es, h => by
    simp only [okC] at h
    cases h
theorem ok_tl {S : Sta} {T : Tab} {C : Ctx} : ∀ (ms : List Ts) {X : Cx} {ht : Hot} {W : WX}, Wld X S ht T C W → ∀ (es : List Expr), okTL X.N T X.env.scope ms es = true → STL X S ht C W es ms
  | [], X, ht, W, w, es, h => by
    cases es with
    | nil => trivial
    | cons _ _ => simp only [okTL] at h; cases h
  | m :: ms, X, ht, W, w, es, h => by
    cases es with
    | nil => simp only [okTL] at h; cases h
    | cons e es =>
      simp only [okTL, Bool.and_eq_true] at h
      exact ⟨ok_t m w e h.1, ok_tl ms w es h.2⟩
end
end PV
set_option Elab.async false
set_option linter.all false
set_option maxRecDepth 100000
set_option maxHeartbeats 4000000
/-! PyOkS: the check of statements. -/
namespace PV
open PySem PySem.Spec L2
def isTupE : Expr → Bool
  | .Tuple _ _ _ => true
  | _ => false
/-- a, b = x, y with plain local names of one line: the stores go from the right -/
def parB (sc : Scope) (x y : Str) (px py : Pos) (es : List Expr) : Bool :=
  (sc.names.lookup x == some .local) && (sc.names.lookup y == some .local) && px.line == py.line && !(x == y) && !(es.any isStar) && !(es.all (foldedForSure 8)) && !(es.all (constantsAlone 8))
/-- name = [..]: the stores are exchanged -/
def swB (sc : Scope) (y : Str) (py : Pos) (scope : Scope) (p : Pos) : Bool :=
  (sc.names.lookup y == some .local) && py.line == p.line && !(scope.names.any fun (n, k) => n == y && (k == .local || k == .cell))
mutual
def okS (N : List Str) (T : Tab) (sc : Scope) : Stm → Stmt → Bool
  | .pass, s => (match s with
    | .Pass _ => true
    | _ => false)
  | .brk, s => (match s with
    | .Break _ => true
    | _ => false)
  | .cont, s => (match s with
    | .Continue _ => true
    | _ => false)
  | .retN, s => (match s with
    | .Return none _ => true
    | _ => false)
  | .ret m, s => (match s with
    | .Return (some e) _ => okE N T sc m e
    | _ => false)
  | .exp m, s => (match s with
    | .Expr e _ => noLC e && okE N T sc m e
    | _ => false)
  | .iff c a b, s => (match s with
    | .If e x y _ => okT N T sc c e && okB N T sc a x && okB N T sc b y
    | _ => false)
  | .whl c b, s => (match s with
    | .While e x [] _ => okT N T sc c e && okB N T sc b x
    | _ => false)
  | .for k src tg b, s => (match s with
    | .For t it x [] _ => notSet it && okG N sc (fun _ => true) tg t && okS' k src.length sc t it && okL N T sc src (srcE k it) && okB N T sc b x
    | _ => false)
  | .setI o i m, s => (match s with
    | .Assign [.Subscript x y _] e _ => noLC e && !isSl y && okE N T sc o x && okE N T sc i y && okE N T sc m e
    | _ => false)
  | .setF o f m, s => (match s with
    | .Assign [.Attribute x z _] e _ => decide (z = Str.ofString f) && T.fld.contains f && noLC e && okE N T sc o x && okE N T sc m e
    | _ => false)
  | .aug i op m, s => (match s with
    | .AugAssign (.Name x _) o e _ => decide (op = o) && decide (N[i]? = some x) && (sc.names.lookup x == some .local) && okE N T sc m e
    | _ => false)
  | .set tg m, s => (match s with
    | .Assign [.Name y py] (.ListComp x gs scope p) _ => swB sc y py scope p && (match tg with
      | .nm i => decide (N[i]? = some y)
      | _ => false) && okE N T sc m (.ListComp x gs scope p)
    | .Assign [.Tuple [.Name x px, .Name y py] _ _] (.Tuple es k p) _ => (match tg, m with
      | .tup [.nm i, .nm j], .tup [a, b] => parB sc x y px py es && !(i == j) && decide (N[i]? = some x) && decide (N[j]? = some y) && okL N T sc [a, b] es
      | _, _ => false)
    | .Assign [t] e _ => noLC e && (!(isTupE t) || !(isTupE e)) && okG N sc (fun _ => true) tg t && okE N T sc m e
    | _ => false)
  | .raise c ms, s => (match s with
    | .Raise (some (.Call (.Name z _) es [] _)) none _ => glB sc z && ndb z && (T.errs.any fun p => decide (p.1 = z) && p.2 == c) && !es.isEmpty && !(es.any isStar) && decide (ms.length ≤ 1000) && okL N T sc ms es
    | _ => false)
  | .try1 b c i h, s => (match s with
    | .Try body [.ExceptHandler (some (.Name x _)) (some n) (b0 :: suite) _] [] [] _ => decide (N[i]? = some n) && (sc.names.lookup n == some .local) && glB sc x && ndb x && (T.tys.any fun p => decide (p.1 = x) && p.2 == c) && okB N T sc b body && okB N T sc h (b0 :: suite)
    | _ => false)
def okB (N : List Str) (T : Tab) (sc : Scope) : List Stm → List Stmt → Bool
  | [], es => es.isEmpty
  | m :: ms, es => (match es with
    | e :: es => okS N T sc m e && okB N T sc ms es
    | [] => false)
end
end PV
set_option Elab.async false
set_option linter.all false
set_option maxRecDepth 100000
set_option maxHeartbeats 4000000
/-! PyOkS2: exchanged stores. -/
namespace PV
open PySem PySem.Spec L2
theorem blk_fn {env : PySem.Env} (h : env.scope.kind = .function) : env.blockKind = .function := by
  unfold Env.blockKind
  rw [h]
  rfl
theorem sw_ok {env : PySem.Env} {y : Str} {py p : Pos} {scope : Scope} {x : Expr} {gs : List Comprehension} {n : Nat} (hk : env.scope.kind = .function) (h : swB env.scope y py scope p = true) : swapsWith (.ListComp x gs scope p) (some (.Name y py)) n env = pure true := by
  unfold swB at h
  rw [Bool.and_eq_true, Bool.and_eq_true] at h
  obtain ⟨⟨h1, h2⟩, h3⟩ := h
  show pure (env.blockKind == .function && env.kindOf y == some .local && py.line == p.line && !(scope.names.any fun (n, k) => n == y && (k == .local || k == .cell))) = (pure true : Sem Bool)
  rw [blk_fn hk, h2, h3]
  unfold Env.kindOf
  rw [h1]
  rfl
theorem star_none {es : List Expr} (h : es.any isStar = false) : (es.any fun | .Starred .. => true | _ => false) = false := h
theorem par_ok {env : PySem.Env} {x y : Str} {px py pt pt2 : Pos} {a b : Expr} {kt k2 : Nat} (hk : env.scope.kind = .function) (h : parB env.scope x y px py [a, b] = true) : swappedStores [.Tuple [.Name x px, .Name y py] kt pt] (.Tuple [a, b] k2 pt2) env = pure (some [x, y]) := by
  unfold parB at h
  simp only [Bool.and_eq_true, Bool.not_eq_true', beq_iff_eq] at h
  obtain ⟨⟨⟨⟨⟨⟨h1, h2⟩, h3⟩, h4⟩, h5⟩, h6⟩, h7⟩ := h
  have hb := blk_fn hk
  have e1 : env.kindOf x = some .local := h1
  have e2 : env.kindOf y = some .local := h2
  have hs : ([a, b].any fun | .Starred .. => true | _ => false) = false := h5
  unfold swappedStores
  simp only [hb, hs, List.length_cons, List.length_nil, List.filterMap_cons, List.filterMap_nil, List.head?_cons, Option.map_some, Option.getD_some, e1, e2, Expr.pos, h3, h6, h7]
  have h4b : (y == x) = false := by rw [Bool.eq_false_iff]; intro z; rw [beq_iff_eq] at z; rw [z] at h4; simp at h4
  have hd : [x, y].eraseDups = [x, y] := by simp [List.eraseDups_cons, h4b]
  simp [hd]
  intro z
  simp only [List.any_cons, List.any_nil, Bool.or_false, Bool.or_eq_false_iff] at hs
  rcases z with z | z
  · cases a <;> first | exact absurd (show true = false from hs.1) (by decide) | cases z
  · cases b <;> first | exact absurd (show true = false from hs.2) (by decide) | cases z
end PV
set_option Elab.async false
set_option linter.all false
set_option maxRecDepth 100000
set_option maxHeartbeats 4000000
/-! PyOkS3: okS, okB are sound. -/
namespace PV
open PySem PySem.Spec L2
/-- how a class's name stands -/
def NameAt (X : Cx) (x : Str) (v : Value) : Prop := X.mg x = some v ∨ (X.mg x = none ∧ bootBuiltins x = some v ∧ x ≠ "__name__")
/-- the world of statements -/
structure WldS (X : Cx) (S : Sta) (ht : Hot) (T : Tab) (C : Ctx) (W : WX) : Prop where
  w : Wld X S ht T C W
  kind : X.env.scope.kind = .function
  hotA : ∀ L c f us G, C.call true L c f us G = .bad
  fnT : ∀ x, X.fn x = true
  own : C.hot = false → PassesOwn (model X.prog X.w) X.A X.env X.xe
  stk : C.hot = false → X.stack = X.env :: X.outer ∧ X.env.frame = some X.env.locals
  rs : ∀ z c, (z, c) ∈ T.errs → ∃ fI k fd ps fl, C.flds c = some fl ∧ X.mg z = some (.ref (S.ca c)) ∧ OexC X.K (S.ca c) ∧ PySem.W.findIn X.K (.ref (S.ca c)) "__init__" = some (some (.ref fI)) ∧ PySem.W.typeIn X.K (.ref fI) = some (.type "function") ∧ FnOk X.prog X.w X.K X.mg X.base (L2.CX X.prog X.w) k fI fd ps (spErr (S.ca c) fl) ∧ (C.hot = false → Room (k + 1) X.A) ∧ Binds X.K fd ps []
  xf : ∀ c fl, C.flds c = some fl → XfC X.K (S.ca c) ∧ ExcC X.K (S.ca c) ∧ ∀ f ∈ T.xfl, PySem.W.findIn X.K (.ref (S.ca c)) (Str.ofString f) = some none
  ty : ∀ x t, (x, t) ∈ T.tys → ∃ tv tu, NameAt X x tu ∧ RelV tv tu ∧ (∀ u, RelV tv u → u = tu) ∧ (∀ e b, C.sub e t = some b → PySem.W.exmOne X.K (.ref (S.ca e)) tu = some b) ∧ ∀ c fl b, C.flds c = some fl → C.sub c t = some b → PySem.W.kitOne X.K (.ref (S.ca c)) tu = some b
section
variable {X : Cx} {S : Sta} {ht : Hot} {T : Tab} {C : Ctx} {W : WX}
/-- within the body of a try -/
theorem WldS.tr (w : WldS X S none T C W) {W' : WX} {pn : List (Addr × Obj)} {xe : Value → Shared → Prop} (tk : Takes (X.tr pn xe) W') (ow : PassesOwn (model X.prog X.w) X.A X.env xe) : WldS (X.tr pn xe) S none T C W' :=
  ⟨⟨w.w.hK, w.w.hu, w.w.hN, tk, w.w.calm, w.w.cool, w.w.blt, w.w.gl, w.w.fn, w.w.hot, w.w.mks, w.w.fld, fun _ _ _ _ _ _ _ _ _ _ _ => no_xat, fun _ _ _ _ _ _ _ _ _ _ _ _ _ _ _ _ _ => no_xis⟩, w.kind, w.hotA, w.fnT, fun _ => ow, w.stk, w.rs, w.xf, w.ty⟩
/-- within the suite of an except clause -/
theorem WldS.suite (w : WldS X S none T C W) {a : Addr} {oe : Obj} {e : String} {dd : Option Addr} {pn : List (Addr × Obj)} (hz : Zc (.ref (S.ca e)) dd oe) (hv : ∃ vs, oe.data = .fields vs) : WldS (X.suite a ((a, oe) :: pn)) S (some (a, Value.ref (S.ca e), dd)) T { C with hot := true } (fun _ _ _ _ => False) := by
  have nf : ∀ {c f : String} {b : Addr} {fd : FuncData} {ps : List Str}, FnP X S C c f b fd ps → FnP (X.suite a ((a, oe) :: pn)) S { C with hot := true } c f b fd ps := fun h => by
    obtain ⟨k, F, _⟩ := h
    exact ⟨k, F, fun z => nomatch z⟩
  refine ⟨⟨w.w.hK, w.w.hu, w.w.hN, takes_no, (fun z => (nomatch z)), (fun z => (nomatch z)), w.w.blt, w.w.gl, fun z f h => ?_, fun _ => w.hotA, fun sh h => ?_, w.w.fld, fun z fz f i p pos h1 h2 h3 h4 h5 => ?_, fun z y tz t i p p1 p2 pos h1 h2 h3 h4 h5 h6 h7 h8 => ?_⟩, w.kind, w.hotA, w.fnT, fun z => (nomatch z), fun z => (nomatch z), fun z c h => ?_, w.xf, w.ty⟩
  · obtain ⟨b, fd, ps, g1, g2, g3, g4, g5⟩ := w.w.fn z f h
    exact ⟨b, fd, ps, g1, g2, nf g3, g4, g5⟩
  · obtain ⟨f, fd, ps, g1, g2, g3, g4, g5, g6⟩ := w.w.mks sh h
    exact ⟨f, fd, ps, g1, g2, g3, nf g4, g5, g6⟩
  · exact se_xat hz hv h1 (fun c fl hc => ⟨(w.xf c fl hc).1, by rw [h1]; exact (w.xf c fl hc).2.2 f h2⟩) h3 h4 (ndb_of h5).1 (ndb_of h5).2
  · obtain ⟨tv, tu, n1, n2, n3, n4, n5⟩ := w.ty tz t h5
    have hT : PE (X.suite a ((a, oe) :: pn)) (.Name tz p2) (tC tv) := by
      rcases n1 with n1 | ⟨n1, n6, n7⟩
      · exact pe_glob (gl_of h3) n1 n2 (ndb_of h4).1
      · exact pe_bltn (gl_of h3) n1 n6 n2 n7 (ndb_of h4).1
    exact se_xis hz hv h1 h2 (w.w.blt y (by rw [h1]; decide +kernel)) hT n3 (fun c fl b hc hs => ⟨(w.xf c fl hc).2.1, n5 c fl b hc hs⟩) h6 h7 (ndb_of h8).1 (ndb_of h8).2
  · obtain ⟨fI, k, fd, ps, fl, g1, g2, g3, g4, g5, g6, g7, g8⟩ := w.rs z c h
    exact ⟨fI, k, fd, ps, fl, g1, g2, g3, g4, g5, g6, fun z => (nomatch z), g8⟩
end
end PV
set_option Elab.async false
set_option linter.all false
set_option maxRecDepth 100000
set_option maxHeartbeats 4000000
/-! PyOkS4: okS, okB are sound. -/
namespace PV
open PySem PySem.Spec L2
theorem okG_tup {N : List Str} {sc : Scope} {cell : Str → Bool} {t : Tg} {e : Expr} (h : okG N sc cell t e = true) : t.isTup = isTupE e := by
  cases t with
  | nm i => cases e with
    | Name x p => rfl
    | _ => cases h
  | tup ts => cases e with
    | Tuple es k p => rfl
    | _ => cases h
/-- a name alone needs no calm -/
theorem pg_nm {X : Cx} {cell : Str → Bool} (hN : X.N.Nodup) (hcell : ∀ x, cell x = true → X.fn x = true) {t : Tg} {e : Expr} (h : okG X.N X.env.scope cell t e = true) (ht : t.isTup = false) : PG X e (gOf X.K t) := by
  cases t with
  | tup ts => cases ht
  | nm i => cases e with
    | Name x p =>
      have h' : (decide (X.N[i]? = some x) && (match X.env.scope.names.lookup x with
        | some .local => true
        | some .cell => cell x
        | _ => false)) = true := h
      rw [Bool.and_eq_true, decide_eq_true_eq] at h'
      obtain ⟨h1, h2⟩ := h'
      split at h2
      · rename_i hl
        exact pg_name hN h1 (.inl hl) (.inr hl)
      · rename_i hl
        exact pg_name hN h1 (.inr hl) (.inl (hcell _ h2))
      · cases h2
    | _ => cases h
theorem noTup_sw {tg e : Expr} {env : PySem.Env} (h : isTupE tg = false ∨ isTupE e = false) (hs : ∀ es p, tg ≠ .List es p) : swappedStores [tg] e env = pure none := by
  rcases h with h | h
  · cases tg with
    | Tuple _ _ _ => cases h
    | List es p => exact absurd rfl (hs es p)
    | _ => cases e <;> rfl
  · cases e with
    | Tuple _ _ _ => cases h
    | _ => cases tg <;> rfl
theorem tg_one {N : List Str} {sc : Scope} {cell : Str → Bool} {t : Tg} {e : Expr} {env : PySem.Env} (h : okG N sc cell t e = true) : (assignEach [e] env).map (·.2) = [assign e env] := by
  rcases okG_star h with ⟨x, p, rfl⟩ | ⟨es, k, p, rfl⟩ <;> rfl
mutual
theorem ok_s {S : Sta} {T : Tab} : ∀ (m : Stm) {X : Cx} {ht : Hot} {C : Ctx} {W : WX}, WldS X S ht T C W → ∀ (s : Stmt), okS X.N T X.env.scope m s = true → SS X S ht C W s m
  | .pass, X, ht, C, W, w, s, h => by
    cases s with
    | Pass p => exact ss_pass
    | _ => simp only [okS] at h; cases h
  | .brk, X, ht, C, W, w, s, h => by
    cases s with
    | Break p => exact ss_brk
    | _ => simp only [okS] at h; cases h
  | .cont, X, ht, C, W, w, s, h => by
    cases s with
    | Continue p => exact ss_cont
    | _ => simp only [okS] at h; cases h
  | .retN, X, ht, C, W, w, s, h => by
    unfold okS at h
    split at h
    · exact ss_retN
    · cases h
  | .ret m, X, ht, C, W, w, s, h => by
    unfold okS at h
    split at h
    · exact ss_ret (ok_e m w.w _ h)
    · cases h
  | .exp m, X, ht, C, W, w, s, h => by
    unfold okS at h
    split at h
    · rw [Bool.and_eq_true] at h
      exact ss_exp h.1 (ok_e m w.w _ h.2)
    · cases h
  | .iff c a b, X, ht, C, W, w, s, h => by
    unfold okS at h
    split at h
    · simp only [Bool.and_eq_true] at h
      exact ss_if (ok_t c w.w _ h.1.1) (ok_b a w _ h.1.2) (ok_b b w _ h.2)
    · cases h
  | .whl c b, X, ht, C, W, w, s, h => by
    unfold okS at h
    split at h
    · simp only [Bool.and_eq_true] at h
      exact ss_whl w.own (ok_t c w.w _ h.1) (ok_b b w _ h.2)
    · cases h
  | .for k src tg b, X, ht, C, W, w, s, h => by
    unfold okS at h
    split at h
    · simp only [Bool.and_eq_true] at h
      obtain ⟨⟨⟨⟨h1, h2⟩, h3⟩, h4⟩, h5⟩ := h
      exact ss_for w.w.hK w.own w.w.calm (src_ok w.w h3 (ok_l src w.w _ h4)) (fun hc => pg_of hc w.w.hN (fun x _ => w.fnT x) tg _ h2) h1 (ok_b b w _ h5)
    · cases h
  | .setI o i m, X, ht, C, W, w, s, h => by
    unfold okS at h
    split at h
    · simp only [Bool.and_eq_true, Bool.not_eq_true'] at h
      obtain ⟨⟨⟨⟨h1, h2⟩, h3⟩, h4⟩, h5⟩ := h
      exact ss_setI w.w.hu h1 h2 (ok_e o w.w _ h3) (ok_e i w.w _ h4) (ok_e m w.w _ h5)
    · cases h
  | .setF o f m, X, ht, C, W, w, s, h => by
    unfold okS at h
    split at h
    · simp only [Bool.and_eq_true, decide_eq_true_eq] at h
      obtain ⟨⟨⟨⟨h1, h2⟩, h3⟩, h4⟩, h5⟩ := h
      exact ss_setF h1 (w.w.fld f (by simpa using h2)) h3 (ok_e o w.w _ h4) (ok_e m w.w _ h5)
    · cases h
  | .aug i op m, X, ht, C, W, w, s, h => by
    unfold okS at h
    split at h
    · simp only [Bool.and_eq_true, decide_eq_true_eq, beq_iff_eq] at h
      obtain ⟨⟨⟨h1, h2⟩, h3⟩, h4⟩ := h
      subst h1
      exact ss_aug w.w.hN h2 h3 (ok_e m w.w _ h4)
    · cases h
  | .set tg m, X, ht, C, W, w, s, h => by
    unfold okS at h
    split at h
    · rename_i y py x gs scope p pos
      simp only [Bool.and_eq_true] at h
      obtain ⟨⟨h1, h2⟩, h3⟩ := h
      cases tg with
      | tup _ => cases h2
      | nm i =>
        have h2' : X.N[i]? = some y := of_decide_eq_true h2
        cases m with
        | lc k src t cnd elt own =>
          unfold okE at h3
          split at h3
          · rename_i x' t' it ifs scope' p' e1
            cases e1
            simp only [Bool.and_eq_true] at h3
            obtain ⟨⟨⟨⟨⟨⟨⟨g1, g2⟩, g3⟩, g4⟩, g5⟩, g6⟩, g7⟩, g8⟩ := h3
            have own2 := ownN_snd X.N own
            cases q : C.hot with
            | true =>
              intro L ι G H d σ K D R En hf k
              unfold exS at hf
              simp only [Tg.isTup, Bool.and_false, Bool.false_eq_true, if_false] at hf
              unfold ev at hf
              rw [if_pos q] at hf
              exact hf.elim
            | false =>
              have hz := w.w.cool q
              subst hz
              have hyl : X.env.scope.names.lookup y = some .local := by
                unfold swB at h1
                simp only [Bool.and_eq_true, beq_iff_eq] at h1
                exact h1.1.1
              have key := ss_setLc (X := X) (S := S) (ht := none) (C := C) (W := W) (pos := p) (spos := pos) (py := py) (elt := x) (tg := t') (iter := it) (ifs := ifs) (scope := scope) (own := ownN X.N own) (k := k) (src := src) (t := t) (cnd := cnd) (m := elt) w.w.hK w.w.calm w.w.hN h2' hyl (sw_ok w.kind h1) (src_ok w.w g5 (ok_l src w.w _ g6)) (blkOk_by g2)
                (fun s H D cl fp hc => pg_of (X := X.blk s H scope (compEnvC scope cl D X.env) fp) (cell := cellIn scope) hc w.w.hN (fun x hx => hx) t t' g3)
                (fun s H D cl fp => ok_c cnd (w.w.blk s H scope D cl fp) ifs g7)
                (fun s H D cl fp => ok_e elt (w.w.blk s H scope D cl fp) x g8)
                g1 (fun i hi => by rw [own2]; have := List.all_eq_true.mp g4 i hi; simpa using this)
              rw [own2] at key
              exact key
          · cases h3
        | _ => simp only [okE] at h3; cases h3
    · rename_i x px y py kt pt es k p pos
      split at h
      · rename_i i j a b
        simp only [Bool.and_eq_true, decide_eq_true_eq, Bool.not_eq_true', beq_eq_false_iff_ne] at h
        obtain ⟨⟨⟨⟨h1, h2⟩, h3⟩, h4⟩, h5⟩ := h
        have hl := ok_l [a, b] w.w _ h5
        have hlen := hl.len
        match es, hl, hlen, h1 with
        | [ea, eb], hl, _, h1 =>
          have hq := h1
          unfold parB at hq
          simp only [Bool.and_eq_true, beq_iff_eq, Bool.not_eq_true'] at hq
          exact ss_par w.w.calm w.w.hN h3 h4 h2 hq.1.1.1.1.1.1 hq.1.1.1.1.1.2 (par_ok w.kind h1) (hl.sa hq.1.1.2)
      · cases h
    · rename_i t e pos n1 n2
      simp only [Bool.and_eq_true, Bool.or_eq_true, Bool.not_eq_true'] at h
      obtain ⟨⟨⟨h1, h2⟩, h3⟩, h4⟩ := h
      refine ss_set w.w.hK (fun hc => ?_) ((sole_ok ..).trans (noLC_ok h1)) (noTup_sw h2 fun es p z => ?_) (tg_one h3) (ok_e m w.w _ h4)
      · rcases hc with hc | hc
        · exact pg_of (w.w.calm hc) w.w.hN (fun x _ => w.fnT x) tg t h3
        · exact pg_nm w.w.hN (fun x _ => w.fnT x) h3 hc
      · subst z
        rcases okG_star h3 with ⟨_, _, z⟩ | ⟨_, _, _, z⟩ <;> cases z
    · cases h
  | .raise c ms, X, ht, C, W, w, s, h => by
    unfold okS at h
    split at h
    · rename_i z p es p2 pos
      simp only [Bool.and_eq_true, decide_eq_true_eq, List.any_eq_true, beq_iff_eq, Bool.not_eq_true'] at h
      obtain ⟨⟨⟨⟨⟨⟨h1, h2⟩, ⟨z', c'⟩, h3, h4, h5⟩, h6⟩, h7⟩, h8⟩, h9⟩ := h
      simp only at h4 h5
      subst h4 h5
      obtain ⟨fI, k, fd, ps, fl, g1, g2, g3, g4, g5, g6, g7, g8⟩ := w.rs _ _ h3
      cases es with
      | nil => cases h6
      | cons e es => exact ss_raise w.w.calm w.w.tk g1 g3 g4 g5 g6 g7 g8 h1 g2 (ndb_of h2).1 h7 h8 ((ok_l ms w.w _ h9).sa h7)
    · cases h
  | .try1 b c i hh, X, ht, C, W, w, s, h => by
    unfold okS at h
    split at h
    · rename_i body x np n b0 suite p' pos
      simp only [Bool.and_eq_true, decide_eq_true_eq, List.any_eq_true, beq_iff_eq] at h
      obtain ⟨⟨⟨⟨⟨⟨h1, h2⟩, h3⟩, h4⟩, ⟨x', c'⟩, h5, h6, h7⟩, h8⟩, h9⟩ := h
      simp only at h6 h7
      subst h6 h7
      cases q : C.hot with
      | true =>
        intro L ι G H d σ K D R En hf k
        unfold exS at hf
        rw [if_pos q] at hf
        exact hf.elim
      | false =>
        have hz := w.w.cool q
        subst hz
        obtain ⟨tv, tu, n1, n2, n3, n4, n5⟩ := w.ty _ _ h5
        exact ss_try (w.stk q).1 (w.stk q).2 w.w.hN h1 h2 ⟨gl_of h3, (ndb_of h4).1, n1⟩ w.w.tk n4 (fun W' pn xe tk ow => ok_b b (w.tr tk ow) body h8) (fun a oe e dd pn hzc hv => ok_b hh (w.suite hzc hv) (b0 :: suite) h9)
    · cases h
theorem ok_b {S : Sta} {T : Tab} : ∀ (ms : List Stm) {X : Cx} {ht : Hot} {C : Ctx} {W : WX}, WldS X S ht T C W → ∀ (ss : List Stmt), okB X.N T X.env.scope ms ss = true → SB X S ht C W ss ms
  | [], X, ht, C, W, w, ss, h => by
    cases ss with
    | nil => exact sb_nil
    | cons _ _ => simp only [okB] at h; cases h
  | m :: ms, X, ht, C, W, w, ss, h => by
    cases ss with
    | nil => simp only [okB] at h; cases h
    | cons s ss =>
      simp only [okB, Bool.and_eq_true] at h
      exact sb_cons (ok_s m w s h.1) (ok_b ms w ss h.2)
end
end PV
set_option Elab.async false
set_option linter.all false
set_option maxRecDepth 100000
set_option maxHeartbeats 4000000
/-! PyP: a whole program: its data, the facts that the head must tell, every def keeps its promise, the law's end. -/
namespace PV
open PySem PySem.Spec L2
open PyProof.Rows (envOfC)
/-! ### a program's data -/
structure DefP where
  d : He.DefD
  c : String
  f : String
  N : List Str
  ps : List Str
  md : MDef
/-- an error class: its name, its fields, its __init__ -/
structure ErrP where
  c : String
  fl : List String
  d : He.DefD
  N : List Str
  ps : List Str
structure PD where
  free : List Str
  defs : List DefP
  cls : List String
  errs : List ErrP
  /-- the classes that clauses name: name, own -/
  tys : List (String × Bool)
  subs : List (String × String × Bool)
  T : Tab
def PD.mp (D : PD) : MProg where
  defs := fun c f => (D.defs.find? fun p => p.c == c && p.f == f).map (·.md)
  flds := fun c => (D.errs.find? fun e => e.c == c).map (·.fl)
  sub := fun e t => (D.subs.find? fun q => q.1 == e && q.2.1 == t).map (·.2.2)
def scB (N P : List Str) (sc : Scope) : Bool := decide (sc.kind = .function) && !sc.isCoroutine && !sc.isGenerator && decide N.Nodup && decide (N.take P.length = P) && (P.all fun x => sc.names.lookup x == some .local || sc.names.lookup x == some .cell) && (sc.names.all fun y => !(decide (y.2 = .free)))
theorem scB_ok {N P : List Str} {sc : Scope} (h : scB N P sc = true) : FnScope N P sc := by
  unfold scB at h
  simp only [Bool.and_eq_true, decide_eq_true_eq, Bool.not_eq_true', List.all_eq_true, Bool.or_eq_true, beq_iff_eq, decide_eq_false_iff_not] at h
  obtain ⟨⟨⟨⟨⟨⟨h1, h2⟩, h3⟩, h4⟩, h5⟩, h6⟩, h7⟩ := h
  exact ⟨h1, h2, h3, h4, h5, h6, h7⟩
/-! ### what the head tells -/
mutual
def gB (K : PySem.W.Frag) : U → Value → Bool
  | .non, v => (match v with
    | .none => true
    | _ => false)
  | .bl b, v => (match v with
    | .bool c => b == c
    | _ => false)
  | .int i, v => (match v with
    | .int j _ => decide (i = j)
    | _ => false)
  | .str x, v => (match v with
    | .str y _ => decide (x = y)
    | _ => false)
  | .tup us, v => (match v with
    | .ref a => (match K.lookup a with
      | some ⟨.type c, _, .seq its _, _⟩ => decide (c = "tuple") && (decide (its.size ≤ sizeLine) && gBs K us its.toList)
      | _ => false)
    | _ => false)
  | .ref _, _ => false
def gBs (K : PySem.W.Frag) : List U → List Value → Bool
  | [], vs => vs.isEmpty
  | u :: us, vs => (match vs with
    | v :: vs => gB K u v && gBs K us vs
    | [] => false)
end
mutual
theorem gB_ok {S : Sta} : ∀ (u : U) (uV : Value), gB S.K u uV = true → ∃ v, RelV v uV ∧ ∀ ι H, VR S ι H u v
  | .non, uV, h => by
    cases uV with
    | none => exact ⟨.non, rfl, fun _ _ => rfl⟩
    | _ => simp only [gB] at h; cases h
  | .bl b, uV, h => by
    cases uV with
    | bool c =>
      have e : b = c := by simpa [gB] using h
      subst e
      exact ⟨.bl b, rfl, fun _ _ => rfl⟩
    | _ => simp only [gB] at h; cases h
  | .int i, uV, h => by
    cases uV with
    | int j t =>
      have e : i = j := by simpa [gB] using h
      subst e
      exact ⟨.int i, ⟨t, rfl⟩, fun _ _ => rfl⟩
    | _ => simp only [gB] at h; cases h
  | .str x, uV, h => by
    cases uV with
    | str y t =>
      have e : x = y := by simpa [gB] using h
      subst e
      exact ⟨.str x, ⟨t, rfl⟩, fun _ _ => rfl⟩
    | _ => simp only [gB] at h; cases h
  | .tup us, uV, h => by
    cases uV with
    | ref a =>
      cases q : S.K.lookup a with
      | none => simp only [gB, q] at h; cases h
      | some o =>
        obtain ⟨oc, od, dt, sl⟩ := o
        cases oc with
        | type c =>
          cases dt with
          | seq its n =>
            simp only [gB, q, Bool.and_eq_true, decide_eq_true_eq] at h
            obtain ⟨h1, h2, h3⟩ := h
            obtain ⟨vs, r, rv⟩ := gBs_ok us its.toList h3
            exact ⟨.ref a, rfl, fun ι H => ⟨a, vs, rfl, .inr ⟨_, its, n, q, congrArg Value.type h1, rfl, h2, r⟩, rv ι H⟩⟩
          | _ => simp only [gB, q] at h; cases h
        | _ => simp only [gB, q] at h; cases h
    | _ => simp only [gB] at h; cases h
  | .ref _, uV, h => by simp only [gB] at h; cases h
theorem gBs_ok {S : Sta} : ∀ (us : List U) (vs : List Value), gBs S.K us vs = true → ∃ ws, Vals ws vs ∧ ∀ ι H, VRs S ι H us ws
  | [], vs, h => by
    have e : vs = [] := by simpa [gBs] using h
    subst e
    exact ⟨[], .nil, fun _ _ => rfl⟩
  | u :: us, vs, h => by
    cases vs with
    | nil => simp only [gBs] at h; cases h
    | cons v vs =>
      simp only [gBs, Bool.and_eq_true] at h
      obtain ⟨x, r, rv⟩ := gB_ok u v h.1
      obtain ⟨xs, rs, rvs⟩ := gBs_ok us vs h.2
      exact ⟨x :: xs, .cons r rs, fun ι H => ⟨x, xs, rfl, rv ι H, rvs ι H⟩⟩
end
/-- an own error class over ValueError with its own __init__ -/
def oexB (K : PySem.W.Frag) (C : Addr) : Bool := (match K.lookup C with
  | some ⟨.type t, _, .cls cd, sl⟩ => decide (t = "type") && (cd.hasDict && (!cd.hasDel && ((match cd.mro with
    | .ref C' :: bm => decide (C' = C) && PySem.HandSPX.refsVE bm
    | _ => false) && (match sl.toList with
    | [_, _, _, _, some (.builtin n), _] => decide (n = "ValueError.__new__")
    | _ => false))))
  | _ => false) && (He.eqO (PySem.W.findIn K (.ref C) "__setattr__") (some (some (.builtin "object.__setattr__"))) && (decide (PySem.W.subIn K (.ref C) (.type "BaseException") = some true) && (decide (PySem.W.typeIn K (.ref C) = some (.type "type")) && PySem.W.keepIn K (.ref C))))
theorem oexB_ok {K : PySem.W.Frag} {C : Addr} (h : oexB K C = true) : OexC K C := by
  unfold oexB at h
  simp only [Bool.and_eq_true, decide_eq_true_eq] at h
  obtain ⟨h1, h2, h3, h4, h5⟩ := h
  refine ⟨?_, He.eqO_ok h2, h3, h4, h5⟩
  split at h1
  · rename_i t dd cd sl q
    simp only [Bool.and_eq_true, decide_eq_true_eq, Bool.not_eq_true'] at h1
    obtain ⟨e1, e2, e3, e4, e5⟩ := h1
    obtain ⟨nm, bs, mro, ns, qn, hd, sn, sub, ab, col, del⟩ := cd
    simp only at e2 e3 e4
    subst e1 e2 e3
    split at e4
    · rename_i C' bm
      simp only [Bool.and_eq_true, decide_eq_true_eq] at e4
      obtain ⟨e6, e7⟩ := e4
      subst e6
      split at e5
      · rename_i k0 k1 k2 k3 n k5 hs
        have e8 := of_decide_eq_true e5
        subst e8
        refine ⟨nm, qn, ns, bs, bm, sn, sub, ab, col, dd, k0, k1, k2, k3, k5, ?_, e7⟩
        rw [q]
        have hs' : sl = #[k0, k1, k2, k3, some (.builtin "ValueError.__new__"), k5] := by
          apply Array.toList_inj.mp
          rw [hs]
        rw [hs']
      · cases e5
    · cases e4
  · cases h1
def excCB (K : PySem.W.Frag) (D : Addr) : Bool := decide (PySem.W.findIn K (.ref D) "__class__" = some (some (.builtin "object.__class__"))) && (decide (PySem.W.specialIn K (.builtin "object.__class__") "__get__" = some (some (.builtin "getset_descriptor.__get__"))) && (decide (PySem.W.takesIn K (.builtin "object.__class__") = some true) && decide (PySem.W.mroIn K D (.type "object") = some true)))
theorem excCB_ok {K : PySem.W.Frag} {D : Addr} (x : XfC K D) (h : excCB K D = true) : ExcC K D := by
  unfold excCB at h
  simp only [Bool.and_eq_true, decide_eq_true_eq] at h
  exact ⟨x.ga, x.gg, x.exC, x.hdC, h.1, h.2.1, h.2.2.1, h.2.2.2⟩
def so (s : String) : Str := Str.ofString s
def tyV (K : PySem.W.Frag) (D : PD) (t : String) : Value := if (D.tys.any fun p => p.1 == t && p.2) = true then .ref (He.ga K (so t)) else .type t
/-- the facts -/
def chkP (D : PD) (K : PySem.W.Frag) : Bool :=
  (D.free.all fun z => (He.Fa.free z).ok K) && ((D.defs.all fun p => p.c != "" || (He.Fa.glo (so p.f)).ok K) && ((D.cls.all fun c => (He.Fa.glo (so c)).ok K && ((He.Fa.cls (so c)).ok K && ((He.Fa.mkr (so c)).ok K && D.T.fld.all fun f => (He.Fa.noat (so c) (so f)).ok K))) &&
  ((D.errs.all fun e => (He.Fa.glo (so e.c)).ok K && (oexB K (He.ga K (so e.c)) && (xfB K (He.ga K (so e.c)) && (excCB K (He.ga K (so e.c)) && (He.eqO (PySem.W.findIn K (.ref (He.ga K (so e.c))) "__init__") (some (some (.ref (He.fAd K e.d.at_)))) && (PySem.W.isFn K (.ref (He.fAd K e.d.at_)) &&
    ((e.fl.all fun f => He.eqO (PySem.W.findIn K (.ref (He.ga K (so e.c))) (so f)) (some none)) && D.T.xfl.all fun f => He.eqO (PySem.W.findIn K (.ref (He.ga K (so e.c))) (so f)) (some none)))))))) &&
  ((D.tys.all fun p => !p.2 || (He.Fa.glo (so p.1)).ok K) && ((D.subs.all fun q => decide (PySem.W.exmOne K (.ref (He.ga K (so q.1))) (tyV K D q.2.1) = some q.2.2) && decide (PySem.W.kitOne K (.ref (He.ga K (so q.1))) (tyV K D q.2.1) = some q.2.2)) &&
  (D.T.gls.all fun p => match PySem.W.nsIn K mainGlobals p.1 with
    | some (some v) => gB K p.2 v
    | _ => false))))))
/-! ### the Hook -/
def hkDefs (D : PD) : List He.DefD := D.defs.map (·.d) ++ D.errs.map (·.d)
def obsP (D : PD) (fn : List He.DefD) (K : PySem.W.Frag) : He.AlD := (chkP D K && fn.all fun d => d.ok K, fn.map fun d => He.fnW K d.at_)
def hookP (n : Nat) (D : PD) (fn : List He.DefD) : PySem.W.Hook where
  α := He.AlD
  obs := fun s => obsP D fn (He.frG s.heap.get? (He.asD s.heap.get? n))
  val := fun _ => He.valD fn
  says := fun _ h => ∃ K : PySem.W.Frag, K.In h ∧ obsP D fn K = He.valD fn
  of := fun _ _ e => ⟨_, He.frG_in, e⟩
  keeps := fun _ _ _ ⟨K, hK, c⟩ k => ⟨K, PySem.W.Frag.In.keeps hK k, c⟩
def obP (n : Nat) (D : PD) (fn : List He.DefD) (s : PySem.W.SharedT) : He.AlD := obsP D fn (He.frG (HandSHeadRun.getT s) (He.asD (HandSHeadRun.getT s) n))
theorem obP_eq {n : Nat} {D : PD} {fn : List He.DefD} (s : PySem.W.SharedT) : obP n D fn s = (hookP n D fn).obs s.abs := by
  have e : HandSHeadRun.getT s = s.abs.heap.get? := funext (HandSHeadRun.getT_eq s)
  unfold obP
  rw [e]
  rfl
theorem says_chk {D : PD} {fn : List He.DefD} {K : PySem.W.Frag} (h : obsP D fn K = He.valD fn) : chkP D K = true := by
  have c := congrArg (fun z : He.AlD => z.1) h
  exact (Bool.and_eq_true_iff.mp c).1
theorem says_def {D : PD} {fn : List He.DefD} {K : PySem.W.Frag} (h : obsP D fn K = He.valD fn) {d : He.DefD} (hd : d ∈ fn) : ∃ fd, FunD K d.name d.qual d.params d.body d.scope (d.dvs K) (d.kws K) (He.fAd K d.at_) fd := by
  have c2 := (Bool.and_eq_true_iff.mp (show (chkP D K && fn.all fun d => d.ok K) = true from congrArg (fun z : He.AlD => z.1) h)).2
  have e : fn.map (fun d => He.fnW K d.at_) = fn.map He.DefD.val := congrArg (fun z : He.AlD => z.2) h
  refine He.DefD.funD ?_ (List.all_eq_true.mp c2 d hd)
  exact (List.map_inj_left.mp e) d hd
end PV
set_option Elab.async false
set_option linter.all false
set_option maxRecDepth 100000
set_option maxHeartbeats 4000000
/-! PyP2: every def of a checked program keeps its promise. -/
namespace PV
open PySem PySem.Spec L2
open PyProof.Rows (envOfC)
/-! ### binding -/
def plainArgs (a : Arguments) (ps : List Str) : Bool := a.posonlyargs.isEmpty && decide (a.args.map (·.arg) = ps) && a.vararg.isNone && a.kwonlyargs.isEmpty && a.kwarg.isNone && decide ps.Nodup
theorem lookup_zip_nd : ∀ {ps : List Str} {us : List Value} {n : Str} {v : Value}, ps.Nodup → (n, v) ∈ ps.zip us → (ps.zip us).lookup n = some v
  | [], _, _, _, _, h => by simp at h
  | _ :: _, [], _, _, _, h => by simp at h
  | p :: ps, u :: us, n, v, nd, h => by
    rw [List.zip_cons_cons] at h ⊢
    rcases List.mem_cons.mp h with h | h
    · cases h
      simp
    · have hn : n ≠ p := fun z => (List.nodup_cons.mp nd).1 (by rw [← z]; exact (List.of_mem_zip h).1)
      rw [List.lookup_cons, beq_eq_false_iff_ne.mpr hn]
      exact lookup_zip_nd (List.nodup_cons.mp nd).2 h
theorem filter_none : ∀ {ps : List Str} {us : List Value} {qs : List (Str × Value)}, us.length = ps.length → (∀ q ∈ ps.zip us, qs.lookup q.1 = some q.2) → (ps.filter fun n => (qs.lookup n).isNone) = [] ∧ (ps.filterMap fun n => (qs.lookup n).map (n, ·)) = ps.zip us
  | [], us, qs, hl, _ => by
    cases us with
    | nil => exact ⟨rfl, rfl⟩
    | cons _ _ => cases hl
  | p :: ps, us, qs, hl, h => by
    cases us with
    | nil => cases hl
    | cons u us =>
      have h1 := h (p, u) (by rw [List.zip_cons_cons]; exact List.mem_cons_self)
      obtain ⟨h2, h3⟩ := filter_none (ps := ps) (us := us) (qs := qs) (by simpa using hl) fun q hq => h q (by rw [List.zip_cons_cons]; exact List.mem_cons_of_mem _ hq)
      simp only at h1
      refine ⟨?_, ?_⟩
      · rw [List.filter_cons, h1]
        exact h2
      · rw [List.filterMap_cons, h1, List.zip_cons_cons]
        show (p, u) :: _ = _
        rw [h3]
theorem bind_plain {x qual : Str} {params : Arguments} {body : List Stmt} {scope : Scope} {ps : List Str} (h : plainArgs params ps = true) (kV doc pm : Value) (an : Option Addr) (cdv ct : Value) (us : List Value) (hl : us.length = ps.length) :
    bindArgs (PySem.W.fnOf x qual params body scope .none kV doc pm an cdv ct) ⟨us, []⟩ = pure (ps.zip us) := by
  unfold plainArgs at h
  simp only [Bool.and_eq_true, decide_eq_true_eq, List.isEmpty_iff, Option.isNone_iff_eq_none] at h
  obtain ⟨⟨⟨⟨⟨h1, h2⟩, h3⟩, h4⟩, h5⟩, h6⟩ := h
  obtain ⟨po, ar, va, ko, kd, kw, df⟩ := params
  simp only at h1 h2 h3 h4 h5
  subst h1 h3 h4 h5
  obtain ⟨g1, g2⟩ := filter_none (ps := ps) (us := us) (qs := ps.zip us) hl fun q hq => lookup_zip_nd h6 hq
  unfold bindArgs PySem.W.fnOf
  have hgt : ¬ (us.length > ps.length) := by omega
  simp [h2, g1, g2, hgt, seqItems?]
  rfl
/-! ### the check -/
def DefP.ok (D : PD) (p : DefP) : Bool := scB p.N p.ps p.d.scope && okB p.N D.T p.d.scope p.md.body p.d.body && decide (p.md.np = p.ps.length) && decide (p.md.ns = p.N.length)
def ErrP.ok (e : ErrP) : Bool := scB e.N e.ps e.d.scope && okErr e.N e.d.scope 1 e.fl e.d.body && !e.fl.isEmpty && !e.d.body.isEmpty && decide (e.ps.length = e.fl.length + 1) && decide e.fl.Nodup && decide (e.fl.length ≤ 800) && e.d.dfl.isEmpty && plainArgs e.d.params e.ps && e.d.kwd.isEmpty
def fnRow (D : PD) (q : Str × String) : Bool := decide (q.1 = so q.2) && D.defs.any fun p => p.c == "" && p.f == q.2 && decide (p.d.at_ = (so q.2, none)) && p.d.dfl.isEmpty && plainArgs p.d.params p.ps
def tyRow (D : PD) (q : Str × String) : Bool := decide (q.1 = so q.2) && D.tys.any fun p => p.1 == q.2 && (p.2 || (D.free.contains (so q.2) && (decide (bootBuiltins (so q.2) = some (.type q.2)) && decide (so q.2 ≠ "__name__"))) && !(D.tys.any fun p' => p'.1 == q.2 && p'.2))
def PD.okB (D : PD) : Bool := (D.defs.all (·.ok D)) && ((D.errs.all (·.ok)) && (decide (D.defs.map fun p => (p.c, p.f)).Nodup && (decide (D.errs.map fun e => e.c).Nodup && ((D.T.fns.all (fnRow D)) && ((D.T.errs.all fun q => decide (q.1 = so q.2) && D.errs.any fun e => e.c == q.2) && ((D.T.tys.all (tyRow D)) && bltN.all fun z => D.free.contains z))))))
theorem find_nd {α β : Type} [DecidableEq β] {k : α → β} : ∀ {l : List α} {a : α} {p : α → Bool}, (l.map k).Nodup → a ∈ l → (∀ b, p b = true ↔ k b = k a) → l.find? p = some a
  | [], _, _, _, h, _ => by cases h
  | b :: l, a, p, nd, h, hp => by
    rw [List.map_cons, List.nodup_cons] at nd
    rw [List.find?_cons]
    cases q : p b with
    | true =>
      rcases List.mem_cons.mp h with h | h
      · rw [h]
      · exact absurd (List.mem_map.mpr ⟨a, h, ((hp b).mp q).symm⟩) nd.1
    | false =>
      rcases List.mem_cons.mp h with h | h
      · subst h
        rw [(hp a).mpr rfl] at q
        cases q
      · exact find_nd nd.2 h hp
theorem PD.def_at {D : PD} (nd : (D.defs.map fun p => (p.c, p.f)).Nodup) {p : DefP} (h : p ∈ D.defs) : D.mp.defs p.c p.f = some p.md := by
  show (D.defs.find? _).map _ = _
  rw [find_nd (k := fun p => (p.c, p.f)) nd h (fun b => by simp)]
  rfl
theorem PD.fld_at {D : PD} (nd : (D.errs.map fun e => e.c).Nodup) {e : ErrP} (h : e ∈ D.errs) : D.mp.flds e.c = some e.fl := by
  show (D.errs.find? _).map _ = _
  rw [find_nd (k := fun e => e.c) nd h (fun b => by simp)]
  rfl
theorem PD.fld_of {D : PD} {c : String} {fl : List String} (h : D.mp.flds c = some fl) : ∃ e ∈ D.errs, e.c = c ∧ e.fl = fl := by
  obtain ⟨e, h1, h2⟩ := Option.map_eq_some_iff.mp (show (D.errs.find? _).map _ = _ from h)
  exact ⟨e, List.mem_of_find?_eq_some h1, by simpa using List.find?_some h1, h2⟩
theorem PD.sub_of {D : PD} {e t : String} {b : Bool} (h : D.mp.sub e t = some b) : (e, t, b) ∈ D.subs := by
  obtain ⟨⟨e', t', b'⟩, h1, h2⟩ := Option.map_eq_some_iff.mp (show (D.subs.find? _).map _ = _ from h)
  have h3 := List.mem_of_find?_eq_some h1
  have h4 := List.find?_some h1
  simp only [Bool.and_eq_true, beq_iff_eq] at h4
  obtain ⟨e1, e2⟩ := h4
  subst e1 e2
  simp only at h2
  subst h2
  exact h3
/-! ### the promise -/
abbrev sta (D : PD) (K : PySem.W.Frag) : Sta := ⟨K, fun c => He.ga K (so c), D.cls⟩
abbrev FD (K : PySem.W.Frag) (d : He.DefD) (fd : FuncData) : Prop := FunD K d.name d.qual d.params d.body d.scope (d.dvs K) (d.kws K) (He.fAd K d.at_) fd
/-- what the generator shows of the ways to make instances -/
def MkOk (D : PD) (sh : Msh) : Prop := ∃ p ∈ D.defs, p.c = sh.c ∧ p.f = "__init__" ∧ sh.z = so sh.c ∧ sh.c ∈ D.cls ∧ p.d.at_ = (so sh.c, some ("__init__" : Str)) ∧ ∀ (K : PySem.W.Frag) (fd : FuncData), FD K p.d fd → Shape K (sta D K) fd p.ps sh.n sh.ks sh.bd
/-- what stands behind the top -/
structure Facts (D : PD) (K : PySem.W.Frag) (mg : Str → Option Value) : Prop where
  ex : ∃ h : Heap, K.In h ∧ h.Ns mainGlobals mg
  chk : chkP D K = true
  fd : ∀ d ∈ hkDefs D, ∃ fd, FD K d fd
  ok : D.okB = true
  mks : ∀ sh ∈ D.T.mks, MkOk D sh
theorem run_hot {MP : MProg} {n : Nat} {L : List Nat} {c f : String} {us : List U} {G : Gp} : run MP n true L c f us G = .bad := by
  cases n <;> rfl
theorem run_len {D : PD} {n : Nat} (nd : (D.defs.map fun p => (p.c, p.f)).Nodup) {p : DefP} (h : p ∈ D.defs) (hn : p.md.np = p.ps.length) {L : List Nat} {us : List U} {G : Gp} {P : U → Gp → Prop} {E : KXc} (q : Sat (run D.mp n false L p.c p.f us G) P E) : us.length = p.ps.length := by
  cases n with
  | zero => exact q.elim
  | succ n =>
    simp only [run, PD.def_at nd h, Bool.false_eq_true, if_false] at q
    split at q
    · rename_i e
      rw [e, hn]
    · exact q.elim
section
variable {D : PD} {P : Program} {w : World} {K : PySem.W.Frag} {mg : Str → Option Value} {base : Heap}
theorem Facts.free {z : Str} (F : Facts D K mg) (h : z ∈ D.free) : mg z = none := by
  obtain ⟨hp, X, G⟩ := F.ex
  have c := F.chk
  unfold chkP at c
  simp only [Bool.and_eq_true, List.all_eq_true] at c
  exact He.free_ok X G (c.1 z h)
/-- the checks by name -/
structure Oks (D : PD) : Prop where
  defs : ∀ p ∈ D.defs, p.ok D = true
  errs : ∀ e ∈ D.errs, e.ok = true
  nd : (D.defs.map fun p => (p.c, p.f)).Nodup
  ne : (D.errs.map fun e => e.c).Nodup
  fns : ∀ q ∈ D.T.fns, fnRow D q = true
  rs : ∀ q ∈ D.T.errs, q.1 = so q.2 ∧ ∃ e ∈ D.errs, e.c = q.2
  tys : ∀ q ∈ D.T.tys, tyRow D q = true
  blt : ∀ z ∈ bltN, z ∈ D.free
theorem oks_of (h : D.okB = true) : Oks D := by
  unfold PD.okB at h
  simp only [Bool.and_eq_true, List.all_eq_true, decide_eq_true_eq, List.any_eq_true, beq_iff_eq] at h
  obtain ⟨h1, h2, h3, h4, h5, h6, h7, h8⟩ := h
  exact ⟨h1, h2, h3, h4, h5, h6, h7, fun z hz => by simpa using h8 z hz⟩
structure Chks (D : PD) (K : PySem.W.Frag) : Prop where
  fns : ∀ p ∈ D.defs, p.c = "" → (He.Fa.glo (so p.f)).ok K = true
  cls : ∀ c ∈ D.cls, (He.Fa.glo (so c)).ok K = true ∧ (He.Fa.cls (so c)).ok K = true ∧ (He.Fa.mkr (so c)).ok K = true ∧ ∀ f ∈ D.T.fld, (He.Fa.noat (so c) (so f)).ok K = true
  errs : ∀ e ∈ D.errs, (He.Fa.glo (so e.c)).ok K = true ∧ oexB K (He.ga K (so e.c)) = true ∧ xfB K (He.ga K (so e.c)) = true ∧ excCB K (He.ga K (so e.c)) = true ∧ PySem.W.findIn K (.ref (He.ga K (so e.c))) "__init__" = some (some (.ref (He.fAd K e.d.at_))) ∧ PySem.W.isFn K (.ref (He.fAd K e.d.at_)) = true ∧
    (∀ f ∈ e.fl, PySem.W.findIn K (.ref (He.ga K (so e.c))) (so f) = some none) ∧ ∀ f ∈ D.T.xfl, PySem.W.findIn K (.ref (He.ga K (so e.c))) (so f) = some none
  tys : ∀ p ∈ D.tys, p.2 = true → (He.Fa.glo (so p.1)).ok K = true
  subs : ∀ q ∈ D.subs, PySem.W.exmOne K (.ref (He.ga K (so q.1))) (tyV K D q.2.1) = some q.2.2 ∧ PySem.W.kitOne K (.ref (He.ga K (so q.1))) (tyV K D q.2.1) = some q.2.2
  gls : ∀ p ∈ D.T.gls, ∃ v, PySem.W.nsIn K mainGlobals p.1 = some (some v) ∧ gB K p.2 v = true
theorem chks_of (h : chkP D K = true) : Chks D K := by
  unfold chkP at h
  simp only [Bool.and_eq_true, List.all_eq_true, decide_eq_true_eq, Bool.or_eq_true, bne_iff_ne, ne_eq, Bool.not_eq_true'] at h
  obtain ⟨_, h2, h3, h4, h5, h6, h7⟩ := h
  refine ⟨fun p hp e => (h2 p hp).resolve_left fun z => z e, h3, fun e he => ?_, fun p hp e => ?_, h6, fun p hp => ?_⟩
  · obtain ⟨a1, a2, a3, a4, a5, a6, a7, a8⟩ := h4 e he
    exact ⟨a1, a2, a3, a4, He.eqO_ok a5, a6, fun f hf => He.eqO_ok (a7 f hf), fun f hf => He.eqO_ok (a8 f hf)⟩
  · rcases h5 p hp with z | z
    · rw [e] at z; cases z
    · exact z
  · have q := h7 p hp
    split at q
    · rename_i v hv
      exact ⟨v, hv, q⟩
    · cases q
theorem tyV_own {t : String} (h : (t, true) ∈ D.tys) : tyV K D t = .ref (He.ga K (so t)) := by
  unfold tyV
  rw [if_pos]
  simp only [List.any_eq_true]
  exact ⟨_, h, by simp⟩
/-- the world of a body, from the level below -/
theorem wld_of {n : Nat} {N ps : List Str} {qual : Str} {scope : Scope} {f : Addr} {cdv : Value} {A : Around} {outer : List PySem.Env} {s : Shared} {H : Hp} {E : XK} (F : Facts D K mg) (Sc : FnScope N ps scope)
    (IH : ∀ p ∈ D.defs, ∃ fd, FD K p.d fd ∧ FnOk P w K mg base (L2.CX P w) (2 * n + 1) (He.fAd K p.d.at_) fd p.ps (spRun (sta D K) (fun L us G => run D.mp n false L p.c p.f us G) p.ps.length))
    (hr : Room (2 * n + 2) (A.deeper (envOfC qual scope s.heap.objs.size f cdv))) : WldS (cxOf (L2.CX P w) P w K mg base N qual scope f cdv A outer s H E) (sta D K) none D.T (ctx D.mp n) (fun cls d _ H' => E cls d H') := by
  have O := oks_of F.ok
  have Cs := chks_of F.chk
  obtain ⟨hp, KX, G⟩ := F.ex
  refine ⟨⟨rfl, ?_, Sc.nd, takes_of rfl rfl rfl rfl, fun _ => rfl, fun _ => rfl, fun z hz => F.free (O.blt z hz), fun z u h => ?_, fun z g h => ?_, fun h => (nomatch h), fun sh h => ?_, fun g hg c hc => ?_, fun _ _ _ _ _ _ _ _ _ _ _ => no_xat, fun _ _ _ _ _ _ _ _ _ _ _ _ _ _ _ _ _ => no_xis⟩, Sc.kind, fun L c g us G => run_hot, fun _ => rfl, fun _ => passes_of rfl, fun _ => ⟨rfl, rfl⟩, fun z c h => ?_, fun c fl h => ?_, fun x t h => ?_⟩
  · have := hr.units
    show (A.deeper (envOfC qual scope s.heap.objs.size f cdv)).units + 32 < cLine
    omega
  · obtain ⟨v, h1, h2⟩ := Cs.gls _ h
    obtain ⟨x, r, hv⟩ := gB_ok (S := sta D K) u v h2
    exact ⟨x, v, PySem.W.mg_of KX G h1, r, hv⟩
  · have q := O.fns _ h
    unfold fnRow at q
    simp only [Bool.and_eq_true, decide_eq_true_eq, List.any_eq_true, beq_iff_eq, List.isEmpty_iff] at q
    obtain ⟨q1, p, hpm, ⟨⟨⟨q2, q3⟩, q4⟩, q5⟩, q6⟩ := q
    subst q3
    obtain ⟨fd, g1, g2⟩ := IH p hpm
    have hd : p.d.dvs K = [] := by unfold He.DefD.dvs; rw [q5]; rfl
    have g1' := g1
    unfold FD at g1'
    rw [hd] at g1'
    have ea : He.fAd K p.d.at_ = He.ga K (so p.f) := by rw [q4]; rfl
    refine ⟨He.fAd K p.d.at_, fd, p.ps, ?_, g1.kp, ⟨2 * n + 1, ?_, fun _ => hr⟩, FunD.bindsN g1' fun kV doc pm an cdv ct us hl => bind_plain q6 kV doc pm an cdv ct us hl, fun L us G P E q => ?_⟩
    · rw [q1, ea]
      exact He.glo_ok KX G (Cs.fns p hpm q2)
    · have := g2
      rw [q2] at this
      exact this
    · have e := O.defs p hpm
      unfold DefP.ok at e
      simp only [Bool.and_eq_true, decide_eq_true_eq] at e
      refine run_len O.nd hpm e.1.2 (n := n) (L := L) (us := us) (G := G) (P := P) (E := E) ?_
      rw [q2]
      exact q
  · obtain ⟨p, hpm, q1, q2, q3, q4, q5, q6⟩ := F.mks sh h
    obtain ⟨fd, g1, g2⟩ := IH p hpm
    obtain ⟨c1, c2, c3, c4⟩ := Cs.cls _ q4
    have ea : He.fAd K p.d.at_ = He.ma K (He.ga K (so sh.c)) "__init__" := by rw [q5]; rfl
    refine ⟨He.fAd K p.d.at_, fd, p.ps, q4, by rw [q3]; exact He.glo_ok KX G c1, by rw [ea]; exact He.mkr_ok c3, ⟨2 * n + 1, ?_, fun _ => hr⟩, q6 K fd g1, fun L us G P E q => ?_⟩
    · have := g2
      rw [q1, q2] at this
      exact this
    · have e := O.defs p hpm
      unfold DefP.ok at e
      simp only [Bool.and_eq_true, decide_eq_true_eq] at e
      refine run_len O.nd hpm e.1.2 (n := n) (L := L) (us := us) (G := G) (P := P) (E := E) ?_
      rw [q1, q2]
      exact q
  · obtain ⟨c1, c2, c3, c4⟩ := Cs.cls c hc
    exact ⟨He.cls_ok c2, He.noat_ok (c4 g hg)⟩
  · obtain ⟨q1, e, he, q2⟩ := O.rs _ h
    simp only at q1 q2
    subst q2
    have k := O.errs e he
    unfold ErrP.ok at k
    simp only [Bool.and_eq_true, decide_eq_true_eq, Bool.not_eq_true', List.isEmpty_iff] at k
    obtain ⟨⟨⟨⟨⟨⟨⟨⟨⟨k1, k2⟩, k3⟩, k4⟩, k5⟩, k6⟩, k7⟩, k8⟩, k9⟩, k10⟩ := k
    obtain ⟨a1, a2, a3, a4, a5, a6, a7, a8⟩ := Cs.errs e he
    obtain ⟨fd, g1⟩ := F.fd e.d (List.mem_append.mpr (.inr (List.mem_map.mpr ⟨e, he, rfl⟩)))
    have hd : e.d.dvs K = [] := by unfold He.DefD.dvs; rw [k8]; rfl
    have g1' := g1
    unfold FD at g1'
    rw [hd] at g1'
    have T := oexB_ok a2
    refine ⟨He.fAd K e.d.at_, 1, fd, e.ps, e.fl, PD.fld_at O.ne he, by rw [q1]; exact He.glo_ok KX G a1, T, a5, ?_, ?_, fun _ => hr.mono (by omega), FunD.bindsN g1' fun kV doc pm an cdv ct us hl => bind_plain k9 kV doc pm an cdv ct us hl⟩
    · have := a6
      unfold PySem.W.isFn at this
      exact beq_iff_eq.mp this
    · cases hfl : e.fl with
      | nil => rw [hfl] at k3; cases k3
      | cons f1 fl =>
        cases hb : e.d.body with
        | nil => rw [hb] at k4; cases k4
        | cons s1 st =>
          rw [hfl] at k2 k5 k6 k7 a7
          exact err_ok (k := 0) g1' (scB_ok k1) T hb k2 (by rw [k5]; rfl) a7 k6 (by simp only [List.length_cons] at k7; omega)
  · obtain ⟨e, he, q1, q2⟩ := PD.fld_of h
    subst q1 q2
    obtain ⟨a1, a2, a3, a4, a5, a6, a7, a8⟩ := Cs.errs e he
    exact ⟨xfB_ok a3, excCB_ok (xfB_ok a3) a4, a8⟩
  · have q := O.tys _ h
    unfold tyRow at q
    simp only [Bool.and_eq_true, decide_eq_true_eq, List.any_eq_true, beq_iff_eq, Bool.or_eq_true, Bool.not_eq_true'] at q
    obtain ⟨q1, ⟨t', b⟩, hm, q2, q3⟩ := q
    simp only at q1 q2 q3
    subst q1 q2
    have subs : ∀ e b, D.mp.sub e t' = some b → PySem.W.exmOne K (.ref (He.ga K (so e))) (tyV K D t') = some b ∧ PySem.W.kitOne K (.ref (He.ga K (so e))) (tyV K D t') = some b := fun e b h => Cs.subs _ (PD.sub_of h)
    rcases q3 with q3 | q3
    · subst q3
      have e := tyV_own (K := K) hm
      refine ⟨.ref (He.ga K (so t')), .ref (He.ga K (so t')), .inl (He.glo_ok KX G (Cs.tys _ hm rfl)), rfl, fun u h => h, fun e' b' h' => ?_, fun c fl b' _ h' => ?_⟩
      · have := (subs e' b' h').1
        rw [e] at this
        exact this
      · have := (subs c b' h').2
        rw [e] at this
        exact this
    · obtain ⟨⟨q4, q5, q6⟩, q7⟩ := q3
      have e : tyV K D t' = .type t' := by
        unfold tyV
        rw [q7]
        rfl
      refine ⟨.ty t', .type t', .inr ⟨F.free (by simpa using q4), q5, q6⟩, rfl, fun u h => h, fun e' b' h' => ?_, fun c fl b' _ h' => ?_⟩
      · have := (subs e' b' h').1
        rw [e] at this
        exact this
      · have := (subs c b' h').2
        rw [e] at this
        exact this
/-- every def keeps its promise at every level -/
theorem prog_ok (F : Facts D K mg) : ∀ (n : Nat), ∀ p ∈ D.defs, ∃ fd, FD K p.d fd ∧ FnOk P w K mg base (L2.CX P w) (2 * n + 1) (He.fAd K p.d.at_) fd p.ps (spRun (sta D K) (fun L us G => run D.mp n false L p.c p.f us G) p.ps.length)
  | 0, p, hp => by
    obtain ⟨fd, g⟩ := F.fd p.d (List.mem_append.mpr (.inl (List.mem_map.mpr ⟨p, hp, rfl⟩)))
    refine ⟨fd, g, ⟨fun vs H Q E h => h.1, fun A outer s H args us vs Q E _ _ _ _ h => ?_⟩⟩
    obtain ⟨_, _, _, _, _, _, _, _, _, z, _⟩ := h
    exact z.elim
  | n + 1, p, hp => by
    have O := oks_of F.ok
    obtain ⟨fd, g⟩ := F.fd p.d (List.mem_append.mpr (.inl (List.mem_map.mpr ⟨p, hp, rfl⟩)))
    have e := O.defs p hp
    unfold DefP.ok at e
    simp only [Bool.and_eq_true, decide_eq_true_eq] at e
    obtain ⟨⟨⟨e1, e2⟩, e3⟩, e4⟩ := e
    refine ⟨fd, g, ?_⟩
    have key := fn_ok (P := P) (w := w) (mg := mg) (base := base) (k := 2 * n + 2) (n := n) (S := sta D K) (MP := D.mp) (md := p.md) (c := p.c) (fn := p.f) g (scB_ok e1) (PD.def_at O.nd hp) e3 e4 (fun cdv A outer s H E hr => ok_b p.md.body (wld_of F (scB_ok e1) (prog_ok F n) hr) p.d.body e2)
    exact key
end
end PV
set_option Elab.async false
set_option linter.all false
set_option maxRecDepth 100000
set_option maxHeartbeats 4000000
/-! PyP3: the law's own def: its first statement takes the script, the rest is the interpreter's; the law's end. -/
namespace PV
open PySem PySem.Spec L2
open PyProof.Rows (envOfC)
/-- return [script[:63], 0, 0, False] -/
def freshB (N : List Str) (sc : Scope) : List Stmt → Bool
  | [.Return (some (.List [.Subscript (.Name z _) (.Slice none (some (.Constant (.int 63) _ _)) none _) _, .Constant (.int 0) _ _, .Constant (.int 0) _ _, .Constant (.bool false) _ _] _)) _] => decide (N[0]? = some z) && visB sc z && ndb z
  | _ => false
def spFresh (K : PySem.W.Frag) : Sp := fun vs H Q _ => ∃ (a : Addr) (xs : List V), vs = [.ref a] ∧ SqL K H a xs ∧ ∀ p0 p, H p0 = none → L2.upd H p0 (.lst (cutV xs none (some 63))) p = none → Q (.ref p) (L2.upd (L2.upd H p0 (.lst (cutV xs none (some 63)))) p (.lst [.ref p0, .int 0, .int 0, .bl false]))
theorem freshB_at {N : List Str} {sc : Scope} {body : List Stmt} (h : freshB N sc body = true) : ∃ z p1 j1 q1 p2 p3 j2 q2 j3 q3 j4 q4 p4 p5, body = [.Return (some (.List [.Subscript (.Name z p1) (.Slice none (some (.Constant (.int 63) j1 q1)) none p2) p3, .Constant (.int 0) j2 q2, .Constant (.int 0) j3 q3, .Constant (.bool false) j4 q4] p4)) p5] ∧ N[0]? = some z ∧ visB sc z = true ∧ ndb z = true := by
  unfold freshB at h
  split at h
  · simp only [Bool.and_eq_true, decide_eq_true_eq] at h
    exact ⟨_, _, _, _, _, _, _, _, _, _, _, _, _, _, rfl, h.1.1, h.1.2, h.2⟩
  · cases h
section
variable {D : PD} {P : Program} {w : World} {K : PySem.W.Frag} {mg : Str → Option Value} {base : Heap}
theorem fresh_ok {d : He.DefD} {fd : FuncData} {N ps : List Str} {k : Nat} (F : FD K d fd) (Sc : FnScope N ps d.scope) (hps : ps.length = 1) (h : freshB N d.scope d.body = true) : FnOk P w K mg base (L2.CX P w) (k + 1) (He.fAd K d.at_) fd ps (spFresh K) := by
  refine FunD.ok F Sc (fun vs H Q E q => ?_) (fun cdv A outer s H vs Q E hr hsp => ?_)
  · obtain ⟨a, xs, e, _⟩ := q
    rw [e, hps]
    rfl
  · obtain ⟨a, xs, e, hq, hQ⟩ := hsp
    subst e
    obtain ⟨z, p1, j1, q1, p2, p3, j2, q2, j3, q3, j4, q4, p4, p5, eb, g1, g2, g3⟩ := freshB_at h
    rw [eb]
    have at0 : (L2.start N [V.ref a])[0]? = some (some (.ref a)) := start_at rfl
    refine ⟨_, pss_one (ps_ret (pe_lst (pa_cons (pe_slice sl_list (pe_var g1 (vis_of g2) (ndb_of g3).1 (ndb_of g3).2) po_none (po_some pe_int)) (pa_cons pe_int (pa_cons pe_int (pa_cons pe_bl pa_nil)))))), ?_⟩
    refine ⟨.ref a, at0, ?_⟩
    refine ⟨63, rfl, a, xs, rfl, hq, fun p0 h0 => ?_⟩
    exact ⟨by rw [sizeLine_eq]; simp, fun p hp => hQ p0 p h0 hp⟩
/-- y = z(x) -/
def lawHd (N : List Str) (sc : Scope) (fresh : String) : List Stmt → Bool
  | .Assign [.Name y _] (.Call (.Name z _) [.Name x _] [] _) _ :: _ => decide (N[0]? = some x) && visB sc x && ndb x && decide (N[1]? = some y) && (sc.names.lookup y == some .local) && glB sc z && ndb z && decide (z = so fresh)
  | _ => false
theorem lawHd_at {N : List Str} {sc : Scope} {fresh : String} {body : List Stmt} (h : lawHd N sc fresh body = true) : ∃ y p1 z p2 x p3 p4 p5 rest, body = .Assign [.Name y p1] (.Call (.Name z p2) [.Name x p3] [] p4) p5 :: rest ∧ N[0]? = some x ∧ visB sc x = true ∧ ndb x = true ∧ N[1]? = some y ∧ sc.names.lookup y = some .local ∧ glB sc z = true ∧ ndb z = true ∧ z = so fresh := by
  unfold lawHd at h
  split at h
  · simp only [Bool.and_eq_true, decide_eq_true_eq, beq_iff_eq] at h
    obtain ⟨⟨⟨⟨⟨⟨⟨h1, h2⟩, h3⟩, h4⟩, h5⟩, h6⟩, h7⟩, h8⟩ := h
    exact ⟨_, _, _, _, _, _, _, _, _, rfl, h1, h2, h3, h4, h5, h6, h7, h8⟩
  · cases h
def spLaw (K : PySem.W.Frag) : Sp := fun vs H Q _ => ∃ (a : Addr) (ns : List Int), vs = [.ref a] ∧ ns.length ≤ 63 ∧ SqL K H a (ns.map V.int) ∧ ∀ H', Q (.bl true) H'
theorem cut63 {xs : List V} (h : xs.length ≤ 63) : cutV xs none (some 63) = xs := by
  unfold cutV
  rw [HT.sIx_none, show (63 : Int) = ((63 : Nat) : Int) from rfl, HT.sIx_nat, List.drop_zero, Nat.sub_zero, Nat.min_eq_right h, List.take_length]
theorem vrs_ints {S : Sta} {ι : List Addr} {H : Hp} : ∀ ns : List Int, VRs S ι H (ns.map U.int) (ns.map V.int)
  | [] => rfl
  | n :: ns => ⟨.int n, _, rfl, rfl, vrs_ints ns⟩
/-- what is left to be shown of a law -/
def LawRuns (D : PD) (n ns : Nat) (rest : List Stm) : Prop := ∀ is : List Int, is.length ≤ 63 → ∃ G, exB (ctx D.mp n) [] rest ((List.replicate ns SV.no).set 1 (.val (.ref 1))) [.lst (is.map U.int), .lst [.ref 0, .int 0, .int 0, .bl false]] = .rt (.bl true) G
theorem law_ok {pl pf : DefP} {n : Nat} {m1 : Stm} {rest : List Stm} (F : Facts D K mg) (hl : pl ∈ D.defs) (hf : pf ∈ D.defs) (hfc : pf.c = "") (hfr : freshB pf.N pf.d.scope pf.d.body = true) (hfps : pf.ps.length = 1) (hfat : pf.d.at_ = (so pf.f, none)) (hfd : pf.d.dfl = []) (hfpl : plainArgs pf.d.params pf.ps = true)
    (hlh : lawHd pl.N pl.d.scope pf.f pl.d.body = true) (hlps : pl.ps.length = 1) (hmd : pl.md.body = m1 :: rest) (hrun : LawRuns D n pl.N.length rest) : ∃ fd, FD K pl.d fd ∧ FnOk P w K mg base (L2.CX P w) (2 * n + 3) (He.fAd K pl.d.at_) fd pl.ps (spLaw K) := by
  have O := oks_of F.ok
  have Cs := chks_of F.chk
  obtain ⟨fd, g⟩ := F.fd pl.d (List.mem_append.mpr (.inl (List.mem_map.mpr ⟨pl, hl, rfl⟩)))
  obtain ⟨fdF, gF⟩ := F.fd pf.d (List.mem_append.mpr (.inl (List.mem_map.mpr ⟨pf, hf, rfl⟩)))
  have e := O.defs pl hl
  unfold DefP.ok at e
  simp only [Bool.and_eq_true, decide_eq_true_eq] at e
  obtain ⟨⟨⟨e1, e2⟩, e3⟩, e4⟩ := e
  have eF := O.defs pf hf
  unfold DefP.ok at eF
  simp only [Bool.and_eq_true, decide_eq_true_eq] at eF
  obtain ⟨y, p1, z, p2, x, p3, p4, p5, st, eb, g1, g2, g3, g4, g5, g6, g7, g8⟩ := lawHd_at hlh
  have Sc := scB_ok e1
  refine ⟨fd, g, FunD.ok g Sc (fun vs H Q E q => ?_) (fun cdv A outer s H vs Q E hr hsp => ?_)⟩
  · obtain ⟨a, ns, ev, _⟩ := q
    rw [ev, hlps]
    rfl
  · obtain ⟨a, ns, ev, hlen, hS, hQ⟩ := hsp
    subst ev
    rw [eb]
    have FF : FnOk P w K mg base (L2.CX P w) 1 (He.fAd K pf.d.at_) fdF pf.ps (spFresh K) := fresh_ok (k := 0) gF (scB_ok eF.1.1.1) hfps hfr
    obtain ⟨hp, KX, G⟩ := F.ex
    have hmF : mg z = some (.ref (He.fAd K pf.d.at_)) := by
      rw [g8, show He.fAd K pf.d.at_ = He.ga K (so pf.f) by rw [hfat]; rfl]
      exact He.glo_ok KX G (Cs.fns pf hf hfc)
    have gF' := gF
    unfold FD at gF'
    rw [show pf.d.dvs K = [] by unfold He.DefD.dvs; rw [hfd]; rfl] at gF'
    have bF := FunD.bindsN gF' fun kV doc pm an cdv ct us hl => bind_plain hfpl kV doc pm an cdv ct us hl
    have W := wld_of (P := P) (w := w) (base := base) (qual := pl.d.qual) (f := He.fAd K pl.d.at_) (cdv := cdv) (outer := outer) (s := s) (H := H) (E := E) F Sc (prog_ok F n) hr
    have at0 : (L2.start pl.N [V.ref a])[0]? = some (some (.ref a)) := start_at rfl
    rw [eb, hmd] at e2
    have e2' : okB pl.N D.T pl.d.scope rest st = true := by
      simp only [okB, Bool.and_eq_true] at e2
      exact e2.2
    have SBr := ok_b rest W st e2'
    have hN1 : 1 < pl.N.length := (List.getElem?_eq_some_iff.mp g4).1
    refine ⟨_, pss_cons (ps_set (i := 1) Sc.nd g4 (.inl g5) (pe_call FF (hr.mono (by omega)) (gl_of g6) hmF gF.kp bF .nil (passes_call W.w.tk fun _ _ _ _ h => h) (pa_cons (pe_var g1 (vis_of g2) (ndb_of g3).1 (ndb_of g3).2) pa_nil) (ndb_of g7).1)) pb_w, ?_⟩
    refine ⟨.ref a, at0, a, ns.map V.int, rfl, hS, fun p0 p hp0 hp => ?_⟩
    rw [cut63 (by simpa using hlen)] at hp ⊢
    obtain ⟨Gx, hx⟩ := hrun ns hlen
    have hne : p0 ≠ p := fun z => by
      rw [z, L2.upd_same] at hp
      cases hp
    have R : Rel (sta D K) [] [p0, p] [.lst (ns.map U.int), .lst [.ref 0, .int 0, .int 0, .bl false]] (L2.upd (L2.upd H p0 (.lst (ns.map V.int))) p (.lst [.ref p0, .int 0, .int 0, .bl false])) := by
      refine ⟨rfl, by simp [hne], fun i h => (by cases h), fun i c b h1 h2 => ?_⟩
      match i, h1, h2 with
      | 0, h1, h2 =>
        cases h1
        cases h2
        exact ⟨_, by rw [L2.upd_ne hne, L2.upd_same], ns.map V.int, rfl, vrs_ints ns⟩
      | 1, h1, h2 =>
        cases h1
        cases h2
        exact ⟨_, L2.upd_same, _, rfl, .ref p0, _, rfl, ⟨p0, rfl, rfl⟩, .int 0, _, rfl, rfl, .int 0, _, rfl, rfl, .bl false, _, rfl, rfl, rfl⟩
      | i + 2, h1, h2 => simp at h2
    have En : EnvR (sta D K) none [p0, p] (L2.upd (L2.upd H p0 (.lst (ns.map V.int))) p (.lst [.ref p0, .int 0, .int 0, .bl false])) ((List.replicate pl.N.length SV.no).set 1 (.val (.ref 1))) ((L2.start pl.N [V.ref a]).set 1 (some (.ref p))) := by
      have hl1 : (L2.start pl.N [V.ref a]).length = pl.N.length := by
        unfold L2.start
        simp
        omega
      refine ⟨by simp [hl1], fun i u h => ?_, fun i c fs h => ?_⟩
      · by_cases hi : 1 = i
        · subst hi
          rw [List.getElem?_set_self (by simpa using hN1)] at h
          cases h
          exact ⟨.ref p, List.getElem?_set_self (by rw [hl1]; exact hN1), p, rfl, rfl⟩
        · rw [List.getElem?_set_ne hi] at h
          have := List.mem_of_getElem? h
          rw [List.mem_replicate] at this
          cases this.2
      · by_cases hi : 1 = i
        · subst hi
          rw [List.getElem?_set_self (by simpa using hN1)] at h
          cases h
        · rw [List.getElem?_set_ne hi] at h
          have := List.mem_of_getElem? h
          rw [List.mem_replicate] at this
          cases this.2
    refine SBr [] _ _ _ _ _ ⟨fun _ _ => False, fun u _ => u = .bl true, fun _ _ => False, fun _ _ => False, fun _ _ _ _ => False⟩ _ R En (by rw [hx]; exact rfl) ⟨fun _ _ _ _ _ z => z.elim, fun u G1 v ι1 H1 hu _ _ r => ?_, fun _ _ _ _ _ z => z.elim, fun _ _ _ _ _ z => z.elim, fun _ _ _ _ _ _ _ _ z => z.elim⟩
    have hu' : u = .bl true := hu
    subst hu'
    have ev : v = .bl true := r
    rw [ev]
    exact hQ H1
end
/-- walk_ofE with the air of exceptions of each world -/
theorem walk_ofW {l : PySem.W.OpenLaw} {n k : Nat} {q : Program} {loose : List Str} {XP : (Str → Option Value) → Heap → Prop} {YP : World → Heap → Prop} {d : DefRec} {CX : World → CXT} {x : Str}
    (hn : l.most = some n) (hn2 : n ≤ sizeLine) (hdf : d.params.defaults = []) (hr : Room k PySem.callerA)
    (F : ∀ (w : World) (mg : Str → Option Value) (fa : Addr) (h : Heap), YP w h → h.Ns mainGlobals mg → mg d.name = some (.ref fa) →
      ∃ (K : PySem.W.Frag) (fd : FuncData) (sp : Sp), K.In h ∧ (∀ (s : Shared) (u : Value), BindsTo s fd ⟨[u], []⟩ [(x, u)]) ∧
        (∀ (H : Hp) (a : Addr) (ns : List Int), ns.length ≤ n → Only H → SqL K H a (ns.map V.int) → sp [.ref a] H (fun v _ => v = .bl true) fun _ _ _ => False) ∧
        ∀ base : Heap, K.In base → base.Ns mainGlobals mg → FnOk l.prog w K mg base (CX w) k fa fd [x] sp)
    (hCX : ∀ (w : World) (H : Hp) (s : Shared) (e : Value) (s' : Shared), CX w [] H s (fun _ _ _ => False) e s' → False) :
    PySem.W.WalkO q loose XP YP l.row.toRowW d [] (fun f vs => PySem.call f vs) := by
  refine Att.attach_call hn hdf fun w s₀ s₁ mg mb fa o pm cd doc a vs ns G Y ho hd hcd hmg hobj hints hlen hg => ?_
  obtain ⟨K, fd, sp, KX, hb, hsp, hF⟩ := F w mg fa _ Y G.T.g hmg
  exact law_call KX G.T.g G.T.b G.T.builtins G.T.nolimit hg hobj hints (Nat.le_trans hlen hn2) hr hF hb (fun H hO hS => hsp H a ns hlen hO hS) fun H e s' => hCX w H s₁ e s'
theorem FD.uniq {K : PySem.W.Frag} {d : He.DefD} {fd fd' : FuncData} (a : FD K d fd) (b : FD K d fd') : fd = fd' := by
  obtain ⟨_, _, _, _, _, _, _, _, _, _, _, h1, _⟩ := a.ex
  obtain ⟨_, _, _, _, _, _, _, _, _, _, _, h2, _⟩ := b.ex
  rw [h1] at h2
  cases h2
  rfl
/-- the law's own rows, kernel-decided -/
def lawRows (pl pf : DefP) (x : Str) : Bool := pl.c == "" && pf.c == "" && freshB pf.N pf.d.scope pf.d.body && decide (pf.ps.length = 1) && decide (pf.d.at_ = (so pf.f, none)) && pf.d.dfl.isEmpty && plainArgs pf.d.params pf.ps && lawHd pl.N pl.d.scope pf.f pl.d.body && decide (pl.ps = [x]) && decide (pl.d.at_ = (so pl.f, none)) && pl.d.dfl.isEmpty && plainArgs pl.d.params pl.ps
theorem law_end {l : PySem.W.OpenLaw} {m n : Nat} {q : Program} {loose : List Str} {XP : (Str → Option Value) → Heap → Prop} {d : DefRec} {D : PD} {pl pf : DefP} {x : Str} {m1 : Stm} {rest : List Stm}
    (hn : l.most = some 63) (hdf : d.params.defaults = []) (hr : Room (2 * n + 3) PySem.callerA) (hd : d.name = so pl.f) (hok : D.okB = true) (hmk : ∀ sh ∈ D.T.mks, MkOk D sh) (hl : pl ∈ D.defs) (hf : pf ∈ D.defs) (hrows : lawRows pl pf x = true) (hmd : pl.md.body = m1 :: rest) (hrun : LawRuns D n pl.N.length rest) :
    PySem.W.WalkO q loose XP (hookP m D (hkDefs D)).says l.row.toRowW d [] (fun f vs => PySem.call f vs) := by
  unfold lawRows at hrows
  simp only [Bool.and_eq_true, decide_eq_true_eq, beq_iff_eq, List.isEmpty_iff] at hrows
  obtain ⟨⟨⟨⟨⟨⟨⟨⟨⟨⟨⟨r1, r2⟩, r3⟩, r4⟩, r5⟩, r6⟩, r7⟩, r8⟩, r9⟩, r10⟩, r11⟩, r12⟩ := hrows
  refine walk_ofW (l := l) (n := 63) (k := 2 * n + 3) (x := x) (CX := fun w => L2.CX l.prog w) hn (by rw [sizeLine_eq]; decide) hdf hr ?_ (fun w H s e s' z => ?_)
  · intro w mg fa h Y G hmg
    obtain ⟨K, KX, c⟩ := Y
    have F : Facts D K mg := ⟨⟨h, KX, G⟩, says_chk c, fun d hd => says_def c hd, hok, hmk⟩
    have Cs := chks_of F.chk
    obtain ⟨fd, g⟩ := F.fd pl.d (List.mem_append.mpr (.inl (List.mem_map.mpr ⟨pl, hl, rfl⟩)))
    have efa : fa = He.fAd K pl.d.at_ := by
      have e1 := He.glo_ok KX G (Cs.fns pl hl r1)
      rw [hd] at hmg
      rw [hmg] at e1
      cases e1
      rw [r10]
      rfl
    subst efa
    have g' := g
    unfold FD at g'
    rw [show pl.d.dvs K = [] by unfold He.DefD.dvs; rw [r11]; rfl] at g'
    refine ⟨K, fd, spLaw K, KX, fun s u => ?_, fun H a ns hlen _ hS => ⟨a, ns, rfl, hlen, hS, fun _ => rfl⟩, fun base _ _ => ?_⟩
    · have b := FunD.bindsA (ps := pl.ps) g' (fun kV doc pm an cdv ct us hl => bind_plain r12 kV doc pm an cdv ct us hl) s [u] (by rw [r9]; rfl)
      rw [r9] at b
      exact b
    · obtain ⟨fd2, g2, hF⟩ := law_ok (P := l.prog) (w := w) (base := base) F hl hf r2 r3 r4 r5 r6 r7 r8 (by rw [r9]; rfl) hmd hrun
      have e := FD.uniq g g2
      subst e
      rw [r9] at hF
      exact hF
  · obtain ⟨_, _, _, _, _, _, _, _, _, _, _, _, z⟩ := z
    exact z
end PV
set_option Elab.async false
set_option linter.all false
set_option maxRecDepth 100000
set_option maxHeartbeats 4000000
/-! PyMk: how a constructor's parameters are filled. -/
namespace PV
open PySem PySem.Spec L2
def permL {α : Type} (idx : List Nat) (l : List α) : List α := idx.filterMap fun i => l[i]?
theorem vals_at2 {vs : List V} {us : List Value} (r : Vals vs us) : ∀ i : Nat, (∃ v u, vs[i]? = some v ∧ us[i]? = some u ∧ RelV v u) ∨ (vs[i]? = none ∧ us[i]? = none) := by
  induction r with
  | nil => exact fun i => .inr ⟨rfl, rfl⟩
  | cons h _ ih => exact fun i => match i with
    | 0 => .inl ⟨_, _, rfl, rfl, h⟩
    | i + 1 => by simpa using ih i
theorem permL_cons {α : Type} {i : Nat} {idx : List Nat} {l : List α} : permL (i :: idx) l = (match l[i]? with
    | some a => a :: permL idx l
    | none => permL idx l) := by
  unfold permL
  rw [List.filterMap_cons]
  cases l[i]? <;> rfl
theorem vals_perm {vs : List V} {us : List Value} (r : Vals vs us) : ∀ idx : List Nat, Vals (permL idx vs) (permL idx us)
  | [] => .nil
  | i :: idx => by
    rw [permL_cons, permL_cons]
    rcases vals_at2 r i with ⟨v, u, e1, e2, h⟩ | ⟨e1, e2⟩
    · rw [e1, e2]
      exact .cons h (vals_perm r idx)
    · rw [e1, e2]
      exact vals_perm r idx
/-- a constant of the text -/
def constV : U → Option V
  | .non => some .non
  | .bl b => some (.bl b)
  | .int i => some (.int i)
  | .str x => some (.str x)
  | _ => none
theorem constV_ok {S : Sta} {ι : List Addr} {H : Hp} {u : U} {v : V} (h : constV u = some v) : VR S ι H u v := by
  cases u <;> cases h <;> rfl
def eqV : V → U → Bool
  | .non, .non => true
  | .bl a, .bl b => a == b
  | .int a, .int b => decide (a = b)
  | .str a, .str b => decide (a = b)
  | _, _ => false
theorem eqV_ok {v : V} {u : U} (h : eqV v u = true) : constV u = some v := by
  cases v <;> cases u <;> first | rfl | (cases h; done) | (simp only [eqV, beq_iff_eq, decide_eq_true_eq] at h; subst h; rfl)
def shOne (n m : Nat) (ms : List V) (b : Nat ⊕ U) (i : Nat) : Bool := match b with
  | .inl k => (decide (k < n) && decide (i = k + 1)) || (decide (n ≤ k) && decide (i = 1 + n + m + (k - n)))
  | .inr u => decide (1 + n ≤ i) && (match ms[i - (1 + n)]? with
    | some v => eqV v u
    | none => false)
def shRow (n m : Nat) (ms : List V) : Bnd → List Nat → Bool
  | [], [] => true
  | b :: bd, i :: idx => shOne n m ms b i && shRow n m ms bd idx
  | _, _ => false
section
variable {S : Sta} {ι : List Addr} {H : Hp}
theorem sh_rel {x : V} {us ws : List U} {vs zs ms : List V} {n : Nat} (l1 : us.length = n) (r1 : VRs S ι H us vs) (r2 : VRs S ι H ws zs) : ∀ {bd : Bnd} {idx : List Nat} {pus : List U}, shRow n ms.length ms bd idx = true → bindP bd (us ++ ws) = some pus → VRs S ι H pus (permL idx ((x :: vs) ++ (ms ++ zs)))
  | [], [], pus, _, e => by
    have e' : pus = [] := by
      unfold bindP at e
      simpa using e.symm
    subst e'
    rfl
  | b :: bd, i :: idx, pus, h, e => by
    have h' : (shOne n ms.length ms b i && shRow n ms.length ms bd idx) = true := h
    rw [Bool.and_eq_true] at h'
    have e' : ((match b with
      | .inl k => (us ++ ws)[k]?
      | .inr u => some u).bind fun u => (bindP bd (us ++ ws)).bind fun r => some (u :: r)) = some pus := by
      unfold bindP at e ⊢
      rw [List.mapM_cons] at e
      exact e
    cases hb : (match b with
      | .inl k => (us ++ ws)[k]?
      | .inr u => some u) with
    | none => rw [hb] at e'; cases e'
    | some u =>
      rw [hb] at e'
      cases hr : bindP bd (us ++ ws) with
      | none => rw [hr] at e'; cases e'
      | some r =>
        rw [hr] at e'
        cases e'
        have ih := sh_rel (x := x) l1 r1 r2 h'.2 hr
        have hl := r1.length
        have at_ : ∃ v, ((x :: vs) ++ (ms ++ zs))[i]? = some v ∧ VR S ι H u v := by
          have h1 := h'.1
          unfold shOne at h1
          cases b with
          | inl k =>
            simp only [Bool.or_eq_true, Bool.and_eq_true, decide_eq_true_eq] at h1
            simp only at hb
            rcases h1 with ⟨k1, k2⟩ | ⟨k1, k2⟩
            · subst k2
              rw [List.getElem?_append_left (by omega)] at hb
              obtain ⟨v, v1, v2⟩ := r1.get hb
              refine ⟨v, ?_, v2⟩
              rw [List.getElem?_append_left (by rw [List.length_cons]; omega), List.getElem?_cons_succ]
              exact v1
            · subst k2
              rw [List.getElem?_append_right (by omega)] at hb
              obtain ⟨v, v1, v2⟩ := r2.get hb
              refine ⟨v, ?_, v2⟩
              rw [List.getElem?_append_right (by rw [List.length_cons]; omega), List.getElem?_append_right (by rw [List.length_cons]; omega), List.length_cons, ← v1]
              congr 1
              omega
          | inr w =>
            simp only [Bool.and_eq_true, decide_eq_true_eq] at h1
            simp only at hb
            cases hb
            obtain ⟨k1, k2⟩ := h1
            split at k2
            · rename_i v hv
              refine ⟨v, ?_, constV_ok (eqV_ok k2)⟩
              rw [List.getElem?_append_right (by rw [List.length_cons]; omega), List.getElem?_append_left (by have := (List.getElem?_eq_some_iff.mp hv).1; rw [List.length_cons]; omega), List.length_cons, ← hv]
              congr 1
              omega
            · cases k2
        obtain ⟨v, v1, v2⟩ := at_
        rw [permL_cons, v1]
        exact ⟨v, _, rfl, v2, ih⟩
  | [], _ :: _, _, h, _ => by cases h
  | _ :: _, [], _, h, _ => by cases h
/-- keyword-only parameters -/
theorem shape_of {K : PySem.W.Frag} {x qual : Str} {params : Arguments} {body : List Stmt} {scope : Scope} {kws : List (Str × V)} {f : Addr} {fd : FuncData} {ps : List Str} (F : FunD K x qual params body scope [] kws f fd) (n : Nat) (ks : List Str) (ms : List (Str × V)) (idx : List Nat) (bd : Bnd) (hk : kws ≠ []) (hms : ∀ q ∈ ms, q ∈ kws)
    (hrow : shRow n ms.length (ms.map (·.2)) bd idx = true)
    (h : ∀ (D : Addr) (doc pm : Value) (an : Option Addr) (cdv ct : Value) (us mv ws : List Value), us.length = n + 1 → mv.length = ms.length → ws.length = ks.length →
      KwChain D ((ms.map (·.1)).zip mv) (bindArgs (PySem.W.fnOf x qual params body scope .none (.ref D) doc pm an cdv ct) ⟨us, ks.zip ws⟩) (ps.zip (permL (0 :: idx) (us ++ (mv ++ ws))))) : Shape K S fd ps n ks bd := by
  obtain ⟨mv, hb⟩ := FunD.kbinds0 (ps := ps) F (n + 1) ks ms (fun us mv ws => permL (0 :: idx) (us ++ (mv ++ ws))) hk hms (fun r1 r2 r3 => vals_perm (r1.append (r2.append r3)) _) h
  refine ⟨_, _, hb, fun ι H x us ws pus vs zs l1 l2 e r1 r2 => ?_⟩
  refine ⟨permL idx ((x :: vs) ++ (ms.map (·.2) ++ zs)), ?_, sh_rel l1 r1 r2 (by rw [List.length_map]; exact hrow) e⟩
  show permL (0 :: idx) ((x :: vs) ++ _) = _
  rw [permL_cons]
  rfl
/-- no keyword-only parameters; called by places and names -/
theorem shape_plain {K : PySem.W.Frag} {x qual : Str} {params : Arguments} {body : List Stmt} {scope : Scope} {kws : List (Str × V)} {f : Addr} {fd : FuncData} {ps : List Str} (F : FunD K x qual params body scope [] kws f fd) (n : Nat) (ks : List Str) (idx : List Nat) (bd : Bnd)
    (hrow : shRow n 0 [] bd idx = true)
    (h : ∀ (kV doc pm : Value) (an : Option Addr) (cdv ct : Value) (us ws : List Value), us.length = n + 1 → ws.length = ks.length → bindArgs (PySem.W.fnOf x qual params body scope .none kV doc pm an cdv ct) ⟨us, ks.zip ws⟩ = pure (ps.zip (permL (0 :: idx) (us ++ ws)))) : Shape K S fd ps n ks bd := by
  obtain ⟨oc, od, dV, kV, doc, pm, an, cdv, ct, osl, rfl, lk, hcd, hD, hK⟩ := F.ex
  rcases hD with ⟨_, rfl⟩ | ⟨e, _⟩
  · refine ⟨fun us ws => permL (0 :: idx) (us ++ ws), fun us ws => permL (0 :: idx) (us ++ ws), ⟨fun s us ws X l1 l2 => .of_eq (h kV doc pm an cdv ct us ws l1 l2), fun r1 r2 => vals_perm (r1.append r2) _⟩, fun ι H x us ws pus vs zs l1 l2 e r1 r2 => ?_⟩
    refine ⟨permL idx ((x :: vs) ++ zs), ?_, ?_⟩
    · show permL (0 :: idx) ((x :: vs) ++ _) = _
      rw [permL_cons]
      rfl
    · have := sh_rel (x := x) (ms := []) l1 r1 r2 hrow e
      simpa using this
  · exact absurd rfl e
end
end PV
set_option Elab.async false
set_option linter.all false
set_option maxRecDepth 100000
set_option maxHeartbeats 4000000
/-! PyW: what a run leads to, construct by construct (rows for simp), and the rules of loops and calls. -/
namespace PV
open PySem
section
variable {α β : Type} {C : Ctx} {L : List Nat} {d : Env} {G : Gp} {P : U → Gp → Prop} {E : KXc} {K : FK}
theorem sat_ok {a : α} {P : α → Gp → Prop} : Sat (.ok a G) P E = P a G := rfl
theorem sat_ex {c : String} {fs : List (String × U)} {P : α → Gp → Prop} : Sat (.ex c fs G) P E = E c fs G := rfl
theorem sat_bad {P : α → Gp → Prop} : Sat (.bad : Res α) P E = False := rfl
theorem sat_bind {r : Res α} {f : α → Gp → Res β} {P : β → Gp → Prop} : Sat (r.bind f) P E = Sat r (fun a G => Sat (f a G) P E) E := Sat.bind_eq
theorem fsat_nx : FSat (.nx d G) K = K.nx d G := rfl
theorem fsat_rt {u : U} : FSat (.rt u G) K = K.rt u G := rfl
theorem fsat_bk : FSat (.bk d G) K = K.bk d G := rfl
theorem fsat_ct : FSat (.ct d G) K = K.ct d G := rfl
theorem fsat_ex {c : String} {fs : List (String × U)} : FSat (.ex c fs d G) K = K.ex c fs d G := rfl
theorem fsat_bad : FSat .bad K = False := rfl
theorem fsat_st {r : Res α} {f : α → Gp → Fl} : FSat (r.st d f) K = Sat r (fun a G => FSat (f a G) K) (fun c fs G => K.ex c fs d G) := by
  cases r <;> rfl
theorem fsat_nil : FSat (exB C L [] d G) K = K.nx d G := by
  unfold exB
  rfl
theorem fsat_cons {s : Stm} {ss : List Stm} : FSat (exB C L (s :: ss) d G) K = FSat (exS C L s d G) { K with nx := fun d1 G1 => FSat (exB C L ss d1 G1) K } := by
  rw [exB]
  cases exS C L s d G <;> rfl
/-- a def's call -/
theorem sat_run {MP : MProg} {n : Nat} {c f : String} {us : List U} {md : MDef} (h : MP.defs c f = some md) (hl : us.length = md.np) {d : Env} (hd : start md us = d) : Sat (run MP (n + 1) false L c f us G) P E = FSat (exB ⟨false, run MP n, MP.flds, MP.sub⟩ L md.body d G) ⟨fun _ G => P .non G, P, fun _ _ => False, fun _ _ => False, fun c fs _ G => E c fs G⟩ := by
  subst hd
  unfold run
  rw [if_neg (by decide), h]
  simp only [hl, if_true]
  show Sat (exB ⟨false, run MP n, MP.flds, MP.sub⟩ L md.body (start md us) G).res P E = _
  cases exB ⟨false, run MP n, MP.flds, MP.sub⟩ L md.body (start md us) G <;> rfl
theorem Sat.use {r : Res α} {P P' : α → Gp → Prop} {E E' : KXc} (h : Sat r P E) (hp : ∀ a G, P a G → P' a G) (he : ∀ c fs G, E c fs G → E' c fs G := by intro _ _ _ h; exact h.elim) : Sat r P' E' := h.mono hp he
abbrev noE : KXc := fun _ _ _ => False
/-- more fuel gives the same -/
theorem sat_eq {r : Res α} {P : α → Gp → Prop} (h : Sat r P noE) : ∃ a G, r = .ok a G ∧ P a G := by
  cases r with
  | ok a G => exact ⟨a, G, rfl, h⟩
  | ex _ _ _ => exact h.elim
  | bad => exact h.elim
/-! ### loops -/
/-- over items that are known -/
theorem for_its {body : U → Env → Gp → Fl} {us : List U} {m : Nat} (hm : m = us.length) (I : Nat → Env → Gp → Prop) (h0 : I 0 d G)
    (hs : ∀ i (hi : i < us.length) d G, I i d G → FSat (body us[i] d G) ⟨fun d G => I (i + 1) d G, K.rt, K.nx, fun d G => I (i + 1) d G, K.ex⟩) (he : ∀ d G, I us.length d G → K.nx d G) : FSat (forL (.its us) body m 0 d G) K := by
  subst hm
  have key : ∀ (m i : Nat) (d : Env) (G : Gp), i + m = us.length → I i d G → FSat (forL (.its us) body m i d G) K := by
    intro m
    induction m with
    | zero =>
      intro i d G hi h
      have e : us[i]? = none := List.getElem?_eq_none (by omega)
      simp only [forL, itemAt, e]
      exact he d G (by rw [← hi]; exact h)
    | succ m ih =>
      intro i d G hi h
      have hl : i < us.length := by omega
      have e : us[i]? = some us[i] := List.getElem?_eq_getElem hl
      simp only [forL, itemAt, e]
      have q := hs i hl d G h
      cases r : body us[i] d G with
      | nx d1 G1 => rw [r] at q; exact ih (i + 1) d1 G1 (by omega) q
      | ct d1 G1 => rw [r] at q; exact ih (i + 1) d1 G1 (by omega) q
      | bk d1 G1 => rw [r] at q; exact q
      | rt u G1 => rw [r] at q; exact q
      | ex c fs d1 G1 => rw [r] at q; exact q
      | bad => rw [r] at q; exact q.elim
  exact key us.length 0 d G (by omega) h0
/-- over a list as it stands -/
theorem for_live {body : U → Env → Gp → Fl} {a : Nat} {us : List U} {m : Nat} (hm : m = us.length) (I : Nat → Env → Gp → Prop) (h0 : I 0 d G) (hI : ∀ i d G, I i d G → G[a]? = some (.lst us))
    (hs : ∀ i (hi : i < us.length) d G, I i d G → FSat (body us[i] d G) ⟨fun d G => I (i + 1) d G, K.rt, K.nx, fun d G => I (i + 1) d G, K.ex⟩) (he : ∀ d G, I us.length d G → K.nx d G) : FSat (forL (.live a) body m 0 d G) K := by
  subst hm
  have key : ∀ (m i : Nat) (d : Env) (G : Gp), i + m = us.length → I i d G → FSat (forL (.live a) body m i d G) K := by
    intro m
    induction m with
    | zero =>
      intro i d G hi h
      have e : us[i]? = none := List.getElem?_eq_none (by omega)
      simp only [forL, itemAt, hI i d G h, e]
      exact he d G (by rw [← hi]; exact h)
    | succ m ih =>
      intro i d G hi h
      have hl : i < us.length := by omega
      have e : us[i]? = some us[i] := List.getElem?_eq_getElem hl
      simp only [forL, itemAt, hI i d G h, e]
      have q := hs i hl d G h
      cases r : body us[i] d G with
      | nx d1 G1 => rw [r] at q; exact ih (i + 1) d1 G1 (by omega) q
      | ct d1 G1 => rw [r] at q; exact ih (i + 1) d1 G1 (by omega) q
      | bk d1 G1 => rw [r] at q; exact q
      | rt u G1 => rw [r] at q; exact q
      | ex c fs d1 G1 => rw [r] at q; exact q
      | bad => rw [r] at q; exact q.elim
  exact key us.length 0 d G (by omega) h0
theorem whl_by {c : Env → Gp → Res Bool} {b : Env → Gp → Fl} (I : Nat → Env → Gp → Prop) {m : Nat} (h0 : I m d G) (hm : m < FUEL)
    (hs : ∀ m d G, I m d G → Sat (c d G) (fun r G1 => if r = true then FSat (b d G1) ⟨fun d G => ∃ k < m, I k d G, K.rt, K.nx, fun d G => ∃ k < m, I k d G, K.ex⟩ else K.nx d G1) (fun c fs G => K.ex c fs d G)) : FSat (whlL c b FUEL d G) K := by
  have key : ∀ (k m : Nat) (d : Env) (G : Gp), m < k → I m d G → FSat (whlL c b k d G) K := by
    intro k
    induction k with
    | zero => intro m d G hm; omega
    | succ k ih =>
      intro m d G hm h
      have q := hs m d G h
      unfold whlL
      rw [fsat_st]
      refine q.mono (fun r G1 q => ?_) (fun _ _ _ x => x)
      by_cases hr : r = true
      · rw [if_pos hr] at q ⊢
        cases e : b d G1 with
        | nx d1 G2 =>
          rw [e] at q
          obtain ⟨m', l, q⟩ := q
          exact ih m' d1 G2 (by omega) q
        | ct d1 G2 =>
          rw [e] at q
          obtain ⟨m', l, q⟩ := q
          exact ih m' d1 G2 (by omega) q
        | bk d1 G1 => rw [e] at q; exact q
        | rt u G1 => rw [e] at q; exact q
        | ex c fs d1 G1 => rw [e] at q; exact q
        | bad => rw [e] at q; exact q.elim
      · rw [if_neg hr] at q ⊢
        exact q
  exact key FUEL m d G hm h0
/-- the turns of a comprehension over known items -/
theorem lc_its {body : U → Gp → Res (Option U)} {us : List U} {m : Nat} {P : List U → Gp → Prop} (hm : m = us.length) (I : Nat → List U → Gp → Prop) (h0 : I 0 [] G)
    (hs : ∀ i (hi : i < us.length) ws G, I i ws G → Sat (body us[i] G) (fun o G1 => I (i + 1) (ws ++ o.toList) G1) noE) (he : ∀ ws G, I us.length ws G → P ws G) : Sat (lcLoop (.its us) body m 0 G) P noE := by
  subst hm
  have key : ∀ (m i : Nat) (ws : List U) (G : Gp), i + m = us.length → I i ws G → Sat (lcLoop (.its us) body m i G) (fun vs G1 => P (ws ++ vs) G1) noE := by
    intro m
    induction m with
    | zero =>
      intro i ws G hi h
      have e : us[i]? = none := List.getElem?_eq_none (by omega)
      simp only [lcLoop, itemAt, e]
      show P (ws ++ []) G
      rw [List.append_nil]
      exact he ws G (by rw [← hi]; exact h)
    | succ m ih =>
      intro i ws G hi h
      have hl : i < us.length := by omega
      have e : us[i]? = some us[i] := List.getElem?_eq_getElem hl
      simp only [lcLoop, itemAt, e]
      obtain ⟨o, G1, q1, q2⟩ := sat_eq (hs i hl ws G h)
      rw [q1]
      obtain ⟨vs, G2, q3, q4⟩ := sat_eq (ih (i + 1) (ws ++ o.toList) G1 (by omega) q2)
      simp only [q3]
      show P (ws ++ (o.toList ++ vs)) G2
      rw [← List.append_assoc]
      exact q4
  exact (key us.length 0 [] G (by omega) h0).mono (fun vs G1 q => by simpa using q) (fun _ _ _ h => h)
theorem lc_live {body : U → Gp → Res (Option U)} {a : Nat} {us : List U} {m : Nat} {P : List U → Gp → Prop} (hm : m = us.length) (I : Nat → List U → Gp → Prop) (h0 : I 0 [] G) (hI : ∀ i ws G, I i ws G → G[a]? = some (.lst us))
    (hs : ∀ i (hi : i < us.length) ws G, I i ws G → Sat (body us[i] G) (fun o G1 => I (i + 1) (ws ++ o.toList) G1) noE) (he : ∀ ws G, I us.length ws G → P ws G) : Sat (lcLoop (.live a) body m 0 G) P noE := by
  subst hm
  have key : ∀ (m i : Nat) (ws : List U) (G : Gp), i + m = us.length → I i ws G → Sat (lcLoop (.live a) body m i G) (fun vs G1 => P (ws ++ vs) G1) noE := by
    intro m
    induction m with
    | zero =>
      intro i ws G hi h
      have e : us[i]? = none := List.getElem?_eq_none (by omega)
      simp only [lcLoop, itemAt, hI i ws G h, e]
      show P (ws ++ []) G
      rw [List.append_nil]
      exact he ws G (by rw [← hi]; exact h)
    | succ m ih =>
      intro i ws G hi h
      have hl : i < us.length := by omega
      have e : us[i]? = some us[i] := List.getElem?_eq_getElem hl
      simp only [lcLoop, itemAt, hI i ws G h, e]
      obtain ⟨o, G1, q1, q2⟩ := sat_eq (hs i hl ws G h)
      rw [q1]
      obtain ⟨vs, G2, q3, q4⟩ := sat_eq (ih (i + 1) (ws ++ o.toList) G1 (by omega) q2)
      simp only [q3]
      show P (ws ++ (o.toList ++ vs)) G2
      rw [← List.append_assoc]
      exact q4
  exact (key us.length 0 [] G (by omega) h0).mono (fun vs G1 q => by simpa using q) (fun _ _ _ h => h)
end
end PV
set_option Elab.async false
set_option linter.all false
set_option maxRecDepth 100000
set_option maxHeartbeats 4000000
/-! PyM: a machine for simp: runs are followed construct by construct; what comes behind stays shut (Tag). Printed by gen_m.py. -/
namespace PV
open PySem
universe u
/-- shuts what it speaks of against simp -/
abbrev Tag {α : Sort u} (a : α) : Type := Unit
def SatT {α : Type} (r : Res α) (P : α → Gp → Prop) (E : KXc) (_ : Tag P) : Prop := Sat r P E
def FSatT (r : Fl) (K : FK) (_ : Tag K) : Prop := FSat r K
def OptT {α : Type} (o : Option α) (f : α → Prop) (_ : Tag f) : Prop := match o with
  | some a => f a
  | none => False
def OptP {α β : Type} (o : Option (α × β)) (f : α → β → Prop) (_ : Tag f) : Prop := match o with
  | some (a, b) => f a b
  | none => False
def OptW (o : Option (Wk × List Nat × Nat)) (f : Wk → List Nat → Nat → Prop) (_ : Tag f) : Prop := match o with
  | some (a, b, c) => f a b c
  | none => False
def Br (b : Bool) (A B : Prop) (_ : Tag A) (_ : Tag B) : Prop := if b = true then A else B
def asInt : U → Option Int
  | .int i => some i
  | _ => none
def asBl : U → Option Bool
  | .bl b => some b
  | _ => none
def asRef : U → Option Nat
  | .ref r => some r
  | _ => none
def emD : Cell → Option Unit
  | .dct [] => some ()
  | _ => none
def augU (op : Operator) (x y : U) : Option U := match op, x, y with
  | .Add, .int a, .int b => some (.int (a + b))
  | .Sub, .int a, .int b => some (.int (a - b))
  | _, _, _ => none
def isiC (t : String) : Cell → Option Bool
  | .lst _ => some (t == "list")
  | .dct _ => some (t == "dict")
  | _ => none
def isiU (G : Gp) (u : U) (t : String) : Option Bool := match u with
  | .non => some false
  | .bl _ => some (t == "bool" || t == "int")
  | .int _ => some (t == "int")
  | .str _ => some (t == "str")
  | .tup _ => some (t == "tuple")
  | .ref i => (G[i]?).bind (isiC t)
def exnS (d : Env) (i : Nat) : Option (String × List (String × U)) := match d[i]? with
  | some (.exn c fs) => some (c, fs)
  | _ => none
def lstC : Cell → Option (List U)
  | .lst us => some us
  | _ => none
def lenC : Cell → Option Nat
  | .lst us => some us.length
  | .dct ks => some ks.length
  | _ => none
def truC : Cell → Option Bool
  | .lst us => some (!us.isEmpty)
  | .dct ks => some (!ks.isEmpty)
  | _ => none
def subCI (k : Int) : Cell → Option U
  | .lst us => L2.atI us k
  | .dct ks => lookK (.inl k) ks
  | _ => none
def subCS (x : Str) : Cell → Option U
  | .dct ks => lookK (.inr x) ks
  | _ => none
def setCI (L : List Nat) (r : Nat) (k : Int) (u : U) (G : Gp) : Cell → Option Gp
  | .lst us => (L2.ixN us.length k).map fun j => G.set r (.lst (us.set j u))
  | .dct ks => if ks.length < LIM ∧ r ∉ L then some (G.set r (.dct (putK ks (.inl k) u))) else none
  | _ => none
def setCS (L : List Nat) (r : Nat) (x : Str) (u : U) (G : Gp) : Cell → Option Gp
  | .dct ks => if ks.length < LIM ∧ r ∉ L then some (G.set r (.dct (putK ks (.inr x) u))) else none
  | _ => none
def atC (f : String) : Cell → Option U
  | .ins _ fs => fs.lookup f
  | _ => none
def memC (G : Gp) (x : U) : Cell → Option Bool
  | .lst us => inL (eqU DEP G) x us
  | .dct ks => (keyOf x).map fun k => (lookK k ks).isSome
  | _ => none
def appC (i : Nat) (u : U) (G : Gp) : Cell → Option Gp
  | .lst xs => if xs.length < LIM then some (G.set i (.lst (xs ++ [u]))) else none
  | _ => none
def slcC (lo hi : Option Int) (G : Gp) : Cell → Option (U × Gp)
  | .lst us => some (.ref G.length, G ++ [.lst (cut us lo hi)])
  | _ => none
def insC : Cell → Option (String × List (String × U))
  | .ins c fs => some (c, fs)
  | _ => none
section
variable {α β : Type} {cl : Bool → List Nat → String → String → List U → Gp → Res U} {fl : String → Option (List String)} {sb : String → String → Option Bool} {C : Ctx} {L : List Nat} {d : Env} {G : Gp} {P : U → Gp → Prop} {E : KXc} {K : FK}
theorem satT_c {r : Res α} {P P' : α → Gp → Prop} (h : ∀ a G, P a G = P' a G) : SatT r P E () = SatT r P' E () := by
  have e : P = P' := funext fun a => funext fun G => h a G
  subst e
  rfl
theorem optT_c {o : Option α} {f f' : α → Prop} (h : ∀ a, f a = f' a) : OptT o f () = OptT o f' () := by
  have e : f = f' := funext h
  subst e
  rfl
theorem br_c {b : Bool} {A B A' B' : Prop} (h1 : A = A') (h2 : B = B') : Br b A B () () = Br b A' B' () () := by
  subst h1 h2
  rfl
theorem satT {r : Res α} {P : α → Gp → Prop} (h : SatT r P E ()) : Sat r P E := h
theorem fsatT {r : Fl} (h : FSatT r K ()) : FSat r K := h
theorem SatT.use {r : Res α} {P P' : α → Gp → Prop} {E' : KXc} (h : Sat r P noE) (hp : ∀ a G, P a G → P' a G) : SatT r  P' E' () := h.mono hp fun _ _ _ z => z.elim
theorem SatT.useE {r : Res α} {P P' : α → Gp → Prop} {E' : KXc} (h : Sat r P E) (hp : ∀ a G, P a G → P' a G) (he : ∀ c fs G, E c fs G → E' c fs G) : SatT r  P' E' () := h.mono hp he
theorem br_of {b : Bool} {A B : Prop} (h1 : b = true → A) (h2 : b = false → B) : Br b A B () () := by
  cases b with
  | true => exact h1 rfl
  | false => exact h2 rfl
def bodyF (C : Ctx) (L : List Nat) (b : List Stm) (tg : Tg) : U → Env → Gp → Fl := fun x d G => match asg tg x d with
  | none => .bad
  | some d1 => exB C L b d1 G
def bodyL (C : Ctx) (L : List Nat) (cnd : List Ts) (elt : Ex) (tg : Tg) (d : Env) : U → Gp → Res (Option U) := fun x G2 => match asg tg x d with
  | none => .bad
  | some d1 => (tsts C L cnd d1 G2).bind fun b G3 => if b = true then (ev C L elt d1 G3).bind fun u G4 => .ok (some u) G4 else .ok none G3
def tstF (C : Ctx) (L : List Nat) (c : Ts) : Env → Gp → Res Bool := fun d G => tst C L c d G
def exBF (C : Ctx) (L : List Nat) (b : List Stm) : Env → Gp → Fl := fun d G => exB C L b d G
def divB (j : Int) : Bool := decide (0 < j ∧ j.natAbs < 2 ^ 4000)
def powB (i j : Int) : Bool := decide (0 ≤ j ∧ j ≤ 1000000 ∧ i.natAbs < 2 ^ 64)
theorem lim_eq : LIM = 1000000 := rfl
theorem big4000 : (1000000000000000000000000000000000000000000000000000000000000 : Nat) < 2 ^ 4000 := by
  have h : (2 : Nat) ^ 200 ≤ 2 ^ 4000 := Nat.pow_le_pow_right (by decide) (by decide)
  exact Nat.lt_of_lt_of_le (by decide) h
theorem br_mul {i j : Int} {A B : Prop} (h : (-18446744073709551616 < i ∧ i < 18446744073709551616) ∨ (-18446744073709551616 < j ∧ j < 18446744073709551616)) (a : A) : Br (mulOk i j) A B () () := by
  have : mulOk i j = true := by
    unfold mulOk
    simp only [Bool.or_eq_true, Bool.and_eq_true, decide_eq_true_eq, Int.reducePow, Int.reduceNeg]
    exact h
  rw [this]
  exact a
theorem br_div {j : Int} {A B : Prop} (h : 0 < j ∧ j < 1000000000000000000000000000000000000000000000000000000000000) (a : A) : Br (divB j) A B () () := by
  have : divB j = true := by
    unfold divB
    rw [decide_eq_true_eq]
    refine ⟨h.1, Nat.lt_trans ?_ big4000⟩
    omega
  rw [this]
  exact a
theorem br_pow {i j : Int} {A B : Prop} (h : 0 ≤ j ∧ j ≤ 1000000 ∧ -18446744073709551616 < i ∧ i < 18446744073709551616) (a : A) : Br (powB i j) A B () () := by
  have : powB i j = true := by
    unfold powB
    rw [decide_eq_true_eq]
    refine ⟨h.1, h.2.1, ?_⟩
    omega
  rw [this]
  exact a
theorem br_t {b : Bool} {A B : Prop} (h : b = true) (a : A) : Br b A B () () := by
  rw [h]
  exact a
theorem br_f {b : Bool} {A B : Prop} (h : b = false) (a : B) : Br b A B () () := by
  rw [h]
  exact a
theorem br_dec {p : Prop} [Decidable p] {A B : Prop} (h : p) (a : A) : Br (decide p) A B () () := br_t (decide_eq_true h) a
theorem br_decn {p : Prop} [Decidable p] {A B : Prop} (h : ¬ p) (a : B) : Br (decide p) A B () () := br_f (decide_eq_false h) a
/-- both ways end alike: first the condition, then the ways -/
theorem br_cases {p : Prop} [Decidable p] {A B : Prop} (a : p → A) (b : ¬ p → B) : Br (decide p) A B () () := br_of (fun h => a (of_decide_eq_true h)) (fun h => b (of_decide_eq_false h))
theorem opt_of {α : Type} {o : Option α} {a : α} {f : α → Prop} (h : o = some a) (k : f a) : OptT o f () := by
  rw [h]
  exact k
theorem m_br1 {A B : Prop} : Br true A B () () = A := by simp [Br]
theorem m_br0 {A B : Prop} : Br false A B () () = B := by simp [Br]
theorem m_brn {b : Bool} {A B : Prop} : Br (!b) A B () () = Br b B A () () := by cases b <;> simp [Br]
theorem m_ok {a : α} {P : α → Gp → Prop} : SatT (.ok a G) P E () = P a G := rfl
theorem m_exn {c : String} {fs : List (String × U)} {P : α → Gp → Prop} : SatT (.ex c fs G) P E () = E c fs G := rfl
theorem m_bad {P : α → Gp → Prop} : SatT (.bad : Res α) P E () = False := rfl
theorem m_bind {r : Res α} {f : α → Gp → Res β} {P : β → Gp → Prop} : SatT (r.bind f) P E () = SatT r (fun a G => SatT (f a G) P E ()) E () := Sat.bind_eq
theorem m_ofO {o : Option α} {P : α → Gp → Prop} : SatT (Res.ofO o G) P E () = OptT o (fun a => P a G) () := by cases o <;> rfl
theorem m_site {p : Prop} [Decidable p] {r r' : Res α} {P : α → Gp → Prop} : SatT (if p then r else r') P E () = Br (decide p) (SatT r P E ()) (SatT r' P E ()) () () := by by_cases h : p <;> simp [h, Br, SatT]
theorem m_some {a : α} {f : α → Prop} : OptT (some a) f () = f a := rfl
theorem m_none {f : α → Prop} : OptT none f () = False := rfl
theorem m_map {o : Option α} {g : α → β} {f : β → Prop} : OptT (o.map g) f () = OptT o (fun a => f (g a)) () := by cases o <;> rfl
theorem m_obind {o : Option α} {g : α → Option β} {f : β → Prop} : OptT (o.bind g) f () = OptT o (fun a => OptT (g a) f ()) () := by cases o <;> rfl
theorem m_oite {p : Prop} [Decidable p] {a b : Option α} {f : α → Prop} : OptT (if p then a else b) f () = Br (decide p) (OptT a f ()) (OptT b f ()) () () := by by_cases h : p <;> simp [h, Br, OptT]
theorem m_someP {a : α} {b : β} {f : α → β → Prop} : OptP (some (a, b)) f () = f a b := rfl
theorem m_noneP {f : α → β → Prop} : OptP none f () = False := rfl
theorem m_bindP {γ : Type} {o : Option γ} {g : γ → Option (α × β)} {f : α → β → Prop} : OptP (o.bind g) f () = OptT o (fun a => OptP (g a) f ()) () := by cases o <;> rfl
theorem m_someW {a : Wk} {b : List Nat} {c : Nat} {f : Wk → List Nat → Nat → Prop} : OptW (some (a, b, c)) f () = f a b c := rfl
theorem m_noneW {f : Wk → List Nat → Nat → Prop} : OptW none f () = False := rfl
theorem m_bindW {γ : Type} {o : Option γ} {g : γ → Option (Wk × List Nat × Nat)} {f : Wk → List Nat → Nat → Prop} : OptW (o.bind g) f () = OptT o (fun a => OptW (g a) f ()) () := by cases o <;> rfl
theorem m_iteW {p : Prop} [Decidable p] {a b : Option (Wk × List Nat × Nat)} {f : Wk → List Nat → Nat → Prop} : OptW (if p then a else b) f () = Br (decide p) (OptW a f ()) (OptW b f ()) () () := by by_cases h : p <;> simp [h, Br, OptW]
theorem m_nm {i : Nat} : SatT (ev C L (.nm i) d G) P E () = OptT (slot d i) (fun u => P u G) () := by rw [ev]; exact m_ofO
theorem m_cI {i : Int} : SatT (ev C L (.cI i) d G) P E () = P (.int i) G := by rw [ev]; rfl
theorem m_cS {s : String} : SatT (ev C L (.cS s) d G) P E () = P (.str (Str.ofString s)) G := by rw [ev]; rfl
theorem m_cB {b : Bool} : SatT (ev C L (.cB b) d G) P E () = P (.bl b) G := by rw [ev]; rfl
theorem m_cN : SatT (ev C L .cN d G) P E () = P .non G := by rw [ev]; rfl
theorem m_gl {x : String} {u : U} : SatT (ev C L (.gl x u) d G) P E () = P u G := by rw [ev]; rfl
theorem m_bin {op : Operator} {a b : Ex} : SatT (ev C L (.bin op a b) d G) P E () = SatT (ev C L a d G) (fun x G1 => SatT (ev C L b d G1) (fun y G2 => SatT (binop op x y G2) P E ()) E ()) E () := by
  rw [ev, m_bind]
  exact satT_c fun x G1 => m_bind
theorem m_neg {a : Ex} : SatT (ev C L (.neg a) d G) P E () = SatT (ev C L a d G) (fun x G1 => OptT (asInt x) (fun i => P (.int (-i)) G1) ()) E () := by
  rw [ev, m_bind]
  refine satT_c fun x G1 => ?_
  cases x <;> rfl
theorem m_cmp {op : CmpOp} {a b : Ex} : SatT (ev C L (.cmp op a b) d G) P E () = SatT (ev C L a d G) (fun x G1 => SatT (ev C L b d G1) (fun y G2 => OptT (cmpop op x y G2) (fun r => P (.bl r) G2) ()) E ()) E () := by
  rw [ev, m_bind]
  exact satT_c fun x G1 => m_bind.trans (satT_c fun y G2 => m_ofO.trans m_map)
theorem m_cmp2 {op op2 : CmpOp} {a b c : Ex} : SatT (ev C L (.cmp2 op op2 a b c) d G) P E () = SatT (ev C L a d G) (fun x G1 => SatT (ev C L b d G1) (fun y G2 => OptT (cmpop op x y G2) (fun r => Br r (SatT (ev C L c d G2) (fun z G3 => OptT (cmpop op2 y z G3) (fun r => P (.bl r) G3) ()) E ()) (P (.bl false) G2) () ()) ()) E ()) E () := by
  rw [ev, m_bind]
  refine satT_c fun x G1 => m_bind.trans (satT_c fun y G2 => ?_)
  cases cmpop op x y G2 with
  | none => rfl
  | some r => cases r with
    | true =>
      rw [m_some, m_br1]
      exact m_bind.trans (satT_c fun z G3 => m_ofO.trans m_map)
    | false => rw [m_ok, m_some, m_br0]
theorem m_and1 {e : Ex} : SatT (ev C L (.and [e]) d G) P E () = SatT (ev C L e d G) P E () := by rw [ev, evA]
theorem m_or1 {e : Ex} : SatT (ev C L (.or [e]) d G) P E () = SatT (ev C L e d G) P E () := by rw [ev, evA]
theorem m_and2 {e e' : Ex} {es : List Ex} : SatT (ev C L (.and (e :: e' :: es)) d G) P E () = SatT (ev C L e d G) (fun x G1 => OptT (asBl x) (fun b => Br b (SatT (ev C L (.and (e' :: es)) d G1) P E ()) (P (.bl false) G1) () ()) ()) E () := by
  rw [ev, evA, m_bind]
  refine satT_c fun x G1 => ?_
  cases x with
  | bl b => cases b with
    | true =>
      simp only [if_true, asBl, m_some, m_br1]
      rw [ev]
    | false => rfl
  | _ => rfl
theorem m_or2 {e e' : Ex} {es : List Ex} : SatT (ev C L (.or (e :: e' :: es)) d G) P E () = SatT (ev C L e d G) (fun x G1 => OptT (asBl x) (fun b => Br b (P (.bl true) G1) (SatT (ev C L (.or (e' :: es)) d G1) P E ()) () ()) ()) E () := by
  rw [ev, evA, m_bind]
  refine satT_c fun x G1 => ?_
  cases x with
  | bl b => cases b with
    | true => rfl
    | false =>
      simp only [if_true, asBl, m_some, m_br0]
      rw [ev]
  | _ => rfl
theorem m_not {a : Ex} : SatT (ev C L (.not a) d G) P E () = SatT (ev C L a d G) (fun x G1 => OptT (asBl x) (fun b => P (.bl (!b)) G1) ()) E () := by
  rw [ev, m_bind]
  refine satT_c fun x G1 => ?_
  cases x <;> rfl
theorem m_ite {r : Bool} {a b : Res α} {P : α → Gp → Prop} : SatT (if r = true then a else b) P E () = Br r (SatT a P E ()) (SatT b P E ()) () () := by cases r <;> simp [Br, SatT]
theorem m_ife {c : Ts} {a b : Ex} : SatT (ev C L (.ife c a b) d G) P E () = SatT (tst C L c d G) (fun r G1 => Br r (SatT (ev C L a d G1) P E ()) (SatT (ev C L b d G1) P E ()) () ()) E () := by
  rw [ev, m_bind]
  exact satT_c fun r G1 => m_ite
theorem m_call {f : String} {as : List Ex} : SatT (ev ⟨false, cl, fl, sb⟩ L (.call f as) d G) P E () = SatT (evs ⟨false, cl, fl, sb⟩ L as d G) (fun us G1 => SatT (cl false L "" f us G1) P E ()) E () := by rw [ev, m_bind]
theorem m_mk {c : String} {as kw : List Ex} {ks : List String} {bd : Bnd} : SatT (ev ⟨false, cl, fl, sb⟩ L (.mk c as ks kw bd) d G) P E () = SatT (evs ⟨false, cl, fl, sb⟩ L as d G) (fun us G1 => SatT (evs ⟨false, cl, fl, sb⟩ L kw d G1) (fun ws G2 => OptT (bindP bd (us ++ ws)) (fun ps => SatT (cl false L c "__init__" (.ref G2.length :: ps) (G2 ++ [.ins c []])) (fun u G3 => u = .non ∧ P (.ref G2.length) G3) E ()) ()) E ()) E () := by
  rw [ev, m_bind]
  refine satT_c fun us G1 => m_bind.trans (satT_c fun ws G2 => ?_)
  cases bindP bd (us ++ ws) with
  | none => rfl
  | some ps =>
    simp only [m_some]
    cases cl false L c "__init__" (.ref G2.length :: ps) (G2 ++ [.ins c []]) with
    | ok u G3 => cases u <;> simp [SatT, Sat]
    | ex _ _ _ => rfl
    | bad => rfl
theorem m_meth {o : Ex} {m : String} {as : List Ex} : SatT (ev ⟨false, cl, fl, sb⟩ L (.meth o m as) d G) P E () = SatT (ev ⟨false, cl, fl, sb⟩ L o d G) (fun x G1 => OptT (asRef x) (fun r => OptT (G1[r]?) (fun c => OptP (insC c) (fun cn fs => Br (fs.lookup m).isNone (SatT (evs ⟨false, cl, fl, sb⟩ L as d G1) (fun us G2 => SatT (cl false L cn m (x :: us) G2) P E ()) E ()) False () ()) ()) ()) ()) E () := by
  rw [ev, m_bind]
  refine satT_c fun x G1 => ?_
  cases x with
  | ref r =>
    simp only [asRef, m_some]
    cases G1[r]? with
    | none => rfl
    | some c => cases c with
      | ins c fs =>
        simp only [m_some, insC, m_someP]
        cases h : (fs.lookup m).isNone with
        | true =>
          rw [if_pos rfl, m_bind, m_br1]
        | false =>
          rw [if_neg (by decide), m_br0]
          rfl
      | _ => rfl
  | _ => rfl
theorem m_bif {h : Bool} {f : String} {as : List Ex} : SatT (ev ⟨h, cl, fl, sb⟩ L (.bif f as) d G) P E () = SatT (evs ⟨h, cl, fl, sb⟩ L as d G) (fun us G1 => SatT (bifU h f us G1) P E ()) E () := by rw [ev, m_bind]
theorem m_isi {a : Ex} {ty : String} : SatT (ev C L (.isi a ty) d G) P E () = SatT (ev C L a d G) (fun x G1 => OptT (isiB G1 x ty) (fun b => P (.bl b) G1) ()) E () := by
  rw [ev, m_bind]
  exact satT_c fun x G1 => m_ofO.trans m_map
theorem m_bm {o : Ex} {m : String} {as : List Ex} : SatT (ev C L (.bm o m as) d G) P E () = SatT (ev C L o d G) (fun x G1 => Br (bmT G1 x m) (SatT (evs C L as d G1) (fun us G2 => SatT (bmU L x m us G2) P E ()) E ()) False () ()) E () := by
  rw [ev, m_bind]
  refine satT_c fun x G1 => ?_
  cases h : bmT G1 x m with
  | true =>
    rw [if_pos rfl, m_bind, m_br1]
  | false =>
    rw [if_neg (by decide), m_br0]
    rfl
theorem m_attr {o : Ex} {f : String} : SatT (ev C L (.attr o f) d G) P E () = SatT (ev C L o d G) (fun x G1 => OptT (attrU G1 x f) (fun u => P u G1) ()) E () := by
  rw [ev, m_bind]
  exact satT_c fun x G1 => m_ofO
theorem m_xatC {i : Nat} {f : String} : SatT (ev C L (.xat i f) d G) P E () = OptP (exnS d i) (fun cn fs => Br (C.flds cn).isSome (OptT (fs.lookup f) (fun u => P u G) ()) False () ()) () := by
  rw [ev]
  unfold exnS
  cases d[i]? with
  | none => rfl
  | some s => cases s with
    | exn c fs =>
      simp only [m_someP]
      cases h : (C.flds c).isSome with
      | true => simp only [h, if_true, m_ofO, m_br1]
      | false => simp only [h, m_br0]; rfl
    | _ => rfl
theorem m_xisC {i : Nat} {ty : String} : SatT (ev C L (.xis i ty) d G) P E () = OptP (exnS d i) (fun cn fs => Br (!fs.isEmpty && (C.flds cn).isSome) (OptT (C.sub cn ty) (fun b => P (.bl b) G) ()) False () ()) () := by
  rw [ev]
  unfold exnS
  cases d[i]? with
  | none => rfl
  | some s => cases s with
    | exn c fs => cases fs with
      | nil => rfl
      | cons a fs =>
        simp only [m_someP]
        cases h : (C.flds c).isSome with
        | true => simp only [h, if_true, m_ofO, m_map, List.isEmpty_cons, Bool.not_false, Bool.true_and, m_br1]
        | false => simp only [h, List.isEmpty_cons, Bool.not_false, Bool.true_and, m_br0]; rfl
    | _ => rfl
theorem m_xat {h : Bool} {i : Nat} {f : String} : SatT (ev ⟨h, cl, fl, sb⟩ L (.xat i f) d G) P E () = OptP (exnS d i) (fun cn fs => Br (fl cn).isSome (OptT (fs.lookup f) (fun u => P u G) ()) False () ()) () := m_xatC
theorem m_xis {h : Bool} {i : Nat} {ty : String} : SatT (ev ⟨h, cl, fl, sb⟩ L (.xis i ty) d G) P E () = OptP (exnS d i) (fun cn fs => Br (!fs.isEmpty && (fl cn).isSome) (OptT (sb cn ty) (fun b => P (.bl b) G) ()) False () ()) () := m_xisC
theorem m_sub {a i : Ex} : SatT (ev C L (.sub a i) d G) P E () = SatT (ev C L a d G) (fun x G1 => SatT (ev C L i d G1) (fun y G2 => OptT (subU G2 x y) (fun u => P u G2) ()) E ()) E () := by
  rw [ev, m_bind]
  exact satT_c fun x G1 => m_bind.trans (satT_c fun y G2 => m_ofO)
theorem m_slc {a : Ex} {lo hi : Option Ex} : SatT (ev C L (.slc a lo hi) d G) P E () = SatT (ev C L a d G) (fun x G1 => SatT (evo C L lo d G1) (fun l G2 => SatT (evo C L hi d G2) (fun h G3 => SatT (slcU x l h G3) P E ()) E ()) E ()) E () := by
  rw [ev, m_bind]
  exact satT_c fun x G1 => m_bind.trans (satT_c fun l G2 => m_bind)
theorem m_tup {es : List Ex} : SatT (ev C L (.tup es) d G) P E () = SatT (evs C L es d G) (fun us G1 => P (.tup us) G1) E () := by
  rw [ev, m_bind]
  rfl
theorem m_lst {es : List Ex} : SatT (ev C L (.lst es) d G) P E () = SatT (evs C L es d G) (fun us G1 => P (.ref G1.length) (G1 ++ [.lst us])) E () := by
  rw [ev, m_bind]
  rfl
theorem m_dct0 : SatT (ev C L (.dct []) d G) P E () = P (.ref G.length) (G ++ [.dct []]) := by
  rw [ev, if_pos (by decide), evp]
  simp only [Res.bind]
  rw [List.getElem?_append_right (Nat.le_refl _), Nat.sub_self]
  simp only [List.getElem?_cons_zero]
  rw [m_ok, List.set_append_right _ _ (Nat.le_refl _), Nat.sub_self]
  rfl
theorem m_dct {kvs : List Ex} : SatT (ev C L (.dct kvs) d G) P E () = Br (decide (kvs.length ≤ 30)) (SatT (evp C L kvs d (G ++ [.dct []])) (fun r G1 => OptT (G1[G.length]?) (fun c => OptT (emD c) (fun _ => P (.ref G.length) (G1.set G.length (.dct (r.foldl (fun a p => putK a p.1 p.2) [])))) ()) ()) E ()) False () () := by
  rw [ev]
  by_cases h : kvs.length ≤ 30
  · rw [if_pos h, m_bind, decide_eq_true h, m_br1]
    refine satT_c fun r G1 => ?_
    cases G1[G.length]? with
    | none => rfl
    | some c => cases c with
      | dct ks => cases ks <;> rfl
      | _ => rfl
  · rw [if_neg h, decide_eq_false h, m_br0]
    rfl
theorem m_ep0 {P : List (Key × U) → Gp → Prop} : SatT (evp C L [] d G) P E () = P [] G := by rw [evp]; rfl
theorem m_ep1 {k v : Ex} {r : List Ex} {P : List (Key × U) → Gp → Prop} : SatT (evp C L (k :: v :: r) d G) P E () = SatT (ev C L k d G) (fun x G1 => SatT (ev C L v d G1) (fun u G2 => SatT (evp C L r d G2) (fun ps G3 => OptT (keyOf x) (fun y => P ((y, u) :: ps) G3) ()) E ()) E ()) E () := by
  rw [evp, m_bind]
  refine satT_c fun x G1 => m_bind.trans (satT_c fun u G2 => m_bind.trans (satT_c fun ps G3 => ?_))
  cases keyOf x <;> rfl
theorem m_lc {k : SrcK} {src : List Ex} {tg : Tg} {cnd : List Ts} {elt : Ex} {own : List Nat} : SatT (ev ⟨false, cl, fl, sb⟩ L (.lc k src tg cnd elt own) d G) P E () = SatT (evs ⟨false, cl, fl, sb⟩ L src d G) (fun us G1 => OptW (walk k us G1) (fun wk lk nn => Br (lk.isEmpty && decide (nn ≤ LIM)) (SatT (lcLoop wk (bodyL ⟨false, cl, fl, sb⟩ (lk ++ L) cnd elt tg (wipeE d own)) nn 0 G1) (fun us G5 => P (.ref G5.length) (G5 ++ [.lst us])) noE ()) False () ()) ()) E () := by
  rw [ev]
  simp only [Bool.false_eq_true, if_false]
  rw [m_bind]
  refine satT_c fun us G1 => ?_
  cases walk k us G1 with
  | none => rfl
  | some r =>
    obtain ⟨w, lk, n⟩ := r
    simp only [m_someW]
    by_cases h : lk.isEmpty = false ∨ LIM < n
    · rw [if_pos h]
      have : (lk.isEmpty && decide (n ≤ LIM)) = false := by
        rcases h with h | h
        · rw [h]; rfl
        · rw [decide_eq_false (by omega), Bool.and_false]
      rw [this, m_br0]
      rfl
    · rw [if_neg h]
      have : (lk.isEmpty && decide (n ≤ LIM)) = true := by
        rw [Bool.and_eq_true, decide_eq_true_eq]
        refine ⟨?_, by omega⟩
        cases q : lk.isEmpty with
        | true => rfl
        | false => exact absurd (.inl q) h
      rw [this, m_br1]
      show SatT (match lcLoop w (bodyL ⟨false, cl, fl, sb⟩ (lk ++ L) cnd elt tg (wipeE d own)) n 0 G1 with
        | .ok us G5 => .ok (.ref G5.length) (G5 ++ [.lst us])
        | _ => .bad) P E () = _
      generalize lcLoop w (bodyL ⟨false, cl, fl, sb⟩ (lk ++ L) cnd elt tg (wipeE d own)) n 0 G1 = z
      cases z <;> rfl
theorem l_body {cnd : List Ts} {elt : Ex} {tg : Tg} {x : U} {P : Option U → Gp → Prop} : Sat (bodyL C L cnd elt tg d x G) P E = OptT (asg tg x d) (fun d1 => SatT (tsts C L cnd d1 G) (fun b G3 => Br b (SatT (ev C L elt d1 G3) (fun u G4 => P (some u) G4) E ()) (P none G3) () ()) E ()) () := by
  unfold bodyL
  cases asg tg x d with
  | none => rfl
  | some d1 =>
    simp only [m_some]
    refine Eq.trans (b := SatT ((tsts C L cnd d1 G).bind fun b G3 => if b = true then (ev C L elt d1 G3).bind fun u G4 => .ok (some u) G4 else .ok none G3) P E ()) rfl ?_
    rw [m_bind]
    refine satT_c fun b G3 => ?_
    cases b with
    | true =>
      rw [if_pos rfl, m_br1, m_bind]
      rfl
    | false => rfl
theorem f_body {b : List Stm} {tg : Tg} {x : U} : FSat (bodyF C L b tg x d G) K = OptT (asg tg x d) (fun d1 => FSatT (exB C L b d1 G) K ()) () := by
  unfold bodyF
  cases asg tg x d <;> rfl
theorem m_es0 {P : List U → Gp → Prop} : SatT (evs C L [] d G) P E () = P [] G := by rw [evs]; rfl
theorem m_es1 {e : Ex} {es : List Ex} {P : List U → Gp → Prop} : SatT (evs C L (e :: es) d G) P E () = SatT (ev C L e d G) (fun u G1 => SatT (evs C L es d G1) (fun us G2 => P (u :: us) G2) E ()) E () := by
  rw [evs, m_bind]
  exact satT_c fun u G1 => m_bind
theorem m_eo0 {P : Option Int → Gp → Prop} : SatT (evo C L none d G) P E () = P none G := by rw [evo]; rfl
theorem m_eo1 {e : Ex} {P : Option Int → Gp → Prop} : SatT (evo C L (some e) d G) P E () = SatT (ev C L e d G) (fun u G1 => OptT (asInt u) (fun i => P (some i) G1) ()) E () := by
  rw [evo, m_bind]
  refine satT_c fun u G1 => ?_
  cases u <;> rfl
section
variable {P : Bool → Gp → Prop}
theorem m_te {x : Ex} : SatT (tst C L (.e x) d G) P E () = SatT (ev C L x d G) (fun u G1 => OptT (truthy G1 u) (fun b => P b G1) ()) E () := by
  rw [tst, m_bind]
  exact satT_c fun u G1 => m_ofO
theorem m_tnot {a : Ts} : SatT (tst C L (.not a) d G) P E () = SatT (tst C L a d G) (fun r G1 => P (!r) G1) E () := by
  rw [tst, m_bind]
  rfl
theorem m_tand1 {e : Ts} : SatT (tst C L (.and [e]) d G) P E () = SatT (tst C L e d G) P E () := by rw [tst, tstA]
theorem m_tor1 {e : Ts} : SatT (tst C L (.or [e]) d G) P E () = SatT (tst C L e d G) P E () := by rw [tst, tstA]
theorem m_tand2 {e e' : Ts} {es : List Ts} : SatT (tst C L (.and (e :: e' :: es)) d G) P E () = SatT (tst C L e d G) (fun b G1 => Br b (SatT (tst C L (.and (e' :: es)) d G1) P E ()) (P false G1) () ()) E () := by
  rw [tst, tstA, m_bind]
  refine satT_c fun b G1 => ?_
  cases b with
  | true =>
    simp only [if_true, m_br1]
    rw [tst]
  | false => rfl
theorem m_tor2 {e e' : Ts} {es : List Ts} : SatT (tst C L (.or (e :: e' :: es)) d G) P E () = SatT (tst C L e d G) (fun b G1 => Br b (P true G1) (SatT (tst C L (.or (e' :: es)) d G1) P E ()) () ()) E () := by
  rw [tst, tstA, m_bind]
  refine satT_c fun b G1 => ?_
  cases b with
  | true => rfl
  | false =>
    simp only [if_true, m_br0]
    rw [tst]
theorem m_ts0 : SatT (tsts C L [] d G) P E () = P true G := by rw [tsts]; rfl
theorem m_ts1 {e : Ts} {es : List Ts} : SatT (tsts C L (e :: es) d G) P E () = SatT (tst C L e d G) (fun r G1 => Br r (SatT (tsts C L es d G1) P E ()) (P false G1) () ()) E () := by
  rw [tsts, m_bind]
  refine satT_c fun r G1 => ?_
  cases r <;> rfl
end
/-! ### statements -/
abbrev exE (K : FK) (d : Env) : KXc := fun c fs G => K.ex c fs d G
theorem m_st {r : Res α} {f : α → Gp → Fl} : FSatT (r.st d f) K () = SatT r (fun a G => FSatT (f a G) K ()) (exE K d) () := fsat_st
theorem m_nx : FSatT (.nx d G) K () = K.nx d G := rfl
theorem m_b0 : FSatT (exB C L [] d G) K () = K.nx d G := fsat_nil
theorem m_bcons {s : Stm} {ss : List Stm} : FSatT (exB C L (s :: ss) d G) K () = FSatT (exS C L s d G) ⟨fun d1 G1 => FSatT (exB C L ss d1 G1) K (), K.rt, K.bk, K.ct, K.ex⟩ () := fsat_cons
theorem m_app1 {s : Stm} {a b : List Stm} : FSatT (exB C L ((s :: a) ++ b) d G) K () = FSatT (exB C L (s :: (a ++ b)) d G) K () := rfl
theorem m_app0 {b : List Stm} : FSatT (exB C L ([] ++ b) d G) K () = FSatT (exB C L b d G) K () := rfl
theorem exB_app : ∀ {a b : List Stm} {d : Env} {G : Gp} {K : FK}, FSat (exB C L (a ++ b) d G) K = FSat (exB C L a d G) ⟨fun d1 G1 => FSat (exB C L b d1 G1) K, K.rt, K.bk, K.ct, K.ex⟩
  | [], b, d, G, K => by rw [fsat_nil]; rfl
  | s :: a, b, d, G, K => by
    rw [List.cons_append, fsat_cons, fsat_cons]
    congr 1
    have : (fun (d1 : Env) (G1 : Gp) => FSat (exB C L (a ++ b) d1 G1) K) = fun d1 G1 => FSat (exB C L a d1 G1) ⟨fun d1 G1 => FSat (exB C L b d1 G1) K, K.rt, K.bk, K.ct, K.ex⟩ := by
      funext d1 G1
      exact exB_app
    rw [this]
theorem m_fite {b : Bool} {A B : Fl} : FSatT (if b = true then A else B) K () = Br b (FSatT A K ()) (FSatT B K ()) () () := by cases b <;> simp [Br, FSatT]
theorem m_iff {c : Ts} {a b ss : List Stm} : FSatT (exB C L (.iff c a b :: ss) d G) K () = SatT (tst C L c d G) (fun r G1 => Br r (FSatT (exB C L (a ++ ss) d G1) K ()) (FSatT (exB C L (b ++ ss) d G1) K ()) () ()) (exE K d) () := by
  rw [m_bcons, exS, m_st]
  refine satT_c fun r G1 => ?_
  unfold FSatT
  rw [exB_app, exB_app]
  cases r <;> simp [Br]
theorem m_set {tg : Tg} {e : Ex} {ss : List Stm} : FSatT (exB ⟨false, cl, fl, sb⟩ L (.set tg e :: ss) d G) K () = SatT (ev ⟨false, cl, fl, sb⟩ L e d G) (fun u G1 => OptT (asg tg u d) (fun d1 => FSatT (exB ⟨false, cl, fl, sb⟩ L ss d1 G1) K ()) ()) (exE K d) () := by
  rw [m_bcons, exS]
  simp only [Bool.false_and, Bool.false_eq_true, if_false]
  rw [m_st]
  refine satT_c fun u G1 => ?_
  cases asg tg u d <;> rfl
theorem m_setH {h : Bool} {i : Nat} {e : Ex} {ss : List Stm} : FSatT (exB ⟨h, cl, fl, sb⟩ L (.set (.nm i) e :: ss) d G) K () = SatT (ev ⟨h, cl, fl, sb⟩ L e d G) (fun u G1 => OptT (asg (.nm i) u d) (fun d1 => FSatT (exB ⟨h, cl, fl, sb⟩ L ss d1 G1) K ()) ()) (exE K d) () := by
  rw [m_bcons, exS]
  simp only [Tg.isTup, Bool.and_false, Bool.false_eq_true, if_false]
  rw [m_st]
  refine satT_c fun u G1 => ?_
  cases asg (.nm i) u d <;> rfl
theorem m_setI {o i e : Ex} {ss : List Stm} : FSatT (exB C L (.setI o i e :: ss) d G) K () = SatT (ev C L e d G) (fun u G1 => SatT (ev C L o d G1) (fun x G2 => SatT (ev C L i d G2) (fun y G3 => OptT (setU L x y u G3) (fun G4 => FSatT (exB C L ss d G4) K ()) ()) (exE K d) ()) (exE K d) ()) (exE K d) () := by
  rw [m_bcons, exS]
  refine m_st.trans (satT_c fun u G1 => m_st.trans (satT_c fun x G2 => m_st.trans (satT_c fun y G3 => ?_)))
  cases setU L x y u G3 <;> rfl
theorem m_setF {o e : Ex} {f : String} {ss : List Stm} : FSatT (exB C L (.setF o f e :: ss) d G) K () = SatT (ev C L e d G) (fun u G1 => SatT (ev C L o d G1) (fun x G2 => OptT (asRef x) (fun r => OptT (G2[r]?) (fun c => OptP (insC c) (fun cn fs => Br (decide (fs.length < 1000)) (FSatT (exB C L ss d (G2.set r (.ins cn (putFld f u fs)))) K ()) False () ()) ()) ()) ()) (exE K d) ()) (exE K d) () := by
  rw [m_bcons, exS]
  refine m_st.trans (satT_c fun u G1 => m_st.trans (satT_c fun x G2 => ?_))
  cases x with
  | ref r =>
    simp only [asRef, m_some]
    cases G2[r]? with
    | none => rfl
    | some c => cases c with
      | ins c fs =>
        simp only [m_some, insC, m_someP]
        by_cases h : fs.length < 1000 <;> simp [h, Br, FSatT, FSat]
      | _ => rfl
  | _ => rfl
theorem m_aug {i : Nat} {op : Operator} {e : Ex} {ss : List Stm} : FSatT (exB C L (.aug i op e :: ss) d G) K () = OptT (slot d i) (fun x => SatT (ev C L e d G) (fun y G1 => OptT (augU op x y) (fun z => OptT (asg (.nm i) z d) (fun d1 => FSatT (exB C L ss d1 G1) K ()) ()) ()) (exE K d) ()) () := by
  rw [m_bcons, exS]
  cases hs : slot d i with
  | none => rfl
  | some x =>
    simp only [m_some, m_st]
    have hi : i < d.length := by
      unfold slot at hs
      by_cases hi : i < d.length
      · exact hi
      · rw [List.getElem?_eq_none (by omega)] at hs
        cases hs
    refine satT_c fun y G1 => ?_
    have ha : ∀ z, asg (.nm i) z d = some (d.set i (.val z)) := fun z => by
      unfold asg
      rw [if_pos hi]
    have hb : ∀ (o : Option U), OptT o (fun z => OptT (asg (.nm i) z d) (fun d1 => FSatT (exB C L ss d1 G1) K ()) ()) () = OptT o (fun z => FSatT (exB C L ss (d.set i (.val z)) G1) K ()) () := fun o => optT_c fun z => by rw [ha]; rfl
    rw [hb]
    cases op <;> cases x <;> cases y <;> rfl
theorem m_exp {e : Ex} {ss : List Stm} : FSatT (exB C L (.exp e :: ss) d G) K () = SatT (ev C L e d G) (fun _ G1 => FSatT (exB C L ss d G1) K ()) (exE K d) () := by
  rw [m_bcons, exS, m_st]
  rfl
theorem m_ret {e : Ex} {ss : List Stm} : FSatT (exB C L (.ret e :: ss) d G) K () = SatT (ev C L e d G) (fun u G1 => K.rt u G1) (exE K d) () := by
  rw [m_bcons, exS, m_st]
  rfl
theorem m_retN {ss : List Stm} : FSatT (exB C L (.retN :: ss) d G) K () = K.rt .non G := by
  rw [m_bcons, exS]
  rfl
theorem m_pass {ss : List Stm} : FSatT (exB C L (.pass :: ss) d G) K () = FSatT (exB C L ss d G) K () := by
  rw [m_bcons, exS]
  rfl
theorem m_brk {ss : List Stm} : FSatT (exB C L (.brk :: ss) d G) K () = K.bk d G := by
  rw [m_bcons, exS]
  rfl
theorem m_cont {ss : List Stm} : FSatT (exB C L (.cont :: ss) d G) K () = K.ct d G := by
  rw [m_bcons, exS]
  rfl
theorem m_whl {c : Ts} {b ss : List Stm} : FSatT (exB ⟨false, cl, fl, sb⟩ L (.whl c b :: ss) d G) K () = FSatT (whlL (tstF ⟨false, cl, fl, sb⟩ L c) (exBF ⟨false, cl, fl, sb⟩ L b) FUEL d G) ⟨fun d1 G1 => FSatT (exB ⟨false, cl, fl, sb⟩ L ss d1 G1) K (), K.rt, K.bk, K.ct, K.ex⟩ () := by
  rw [m_bcons, exS]
  simp only [Bool.false_eq_true, if_false]
  unfold tstF exBF
  with_reducible rfl
theorem m_for {k : SrcK} {src : List Ex} {tg : Tg} {b ss : List Stm} : FSatT (exB ⟨false, cl, fl, sb⟩ L (.for k src tg b :: ss) d G) K () = SatT (evs ⟨false, cl, fl, sb⟩ L src d G) (fun us G1 => OptW (walk k us G1) (fun wk lk nn => Br lk.isEmpty (FSatT (forL wk (bodyF ⟨false, cl, fl, sb⟩ (lk ++ L) b tg) nn 0 d G1) ⟨fun d1 G1 => FSatT (exB ⟨false, cl, fl, sb⟩ L ss d1 G1) K (), K.rt, K.bk, K.ct, K.ex⟩ ()) False () ()) ()) (exE K d) () := by
  rw [m_bcons, exS]
  simp only [Bool.false_eq_true, if_false]
  refine m_st.trans (satT_c fun us G1 => ?_)
  cases walk k us G1 with
  | none => rfl
  | some r =>
    obtain ⟨w, lk, n⟩ := r
    simp only [m_someW]
    cases h : lk.isEmpty with
    | true => simp only [h, Bool.true_eq_false, if_false, m_br1]; rfl
    | false => simp only [h, if_true, m_br0]; rfl
theorem m_raise {c : String} {as : List Ex} {ss : List Stm} : FSatT (exB ⟨false, cl, fl, sb⟩ L (.raise c as :: ss) d G) K () = SatT (evs ⟨false, cl, fl, sb⟩ L as d G) (fun us G1 => OptT (fl c) (fun fs => Br (decide (fs.length = us.length)) (K.ex c (fs.zip us) d G1) False () ()) ()) (exE K d) () := by
  rw [m_bcons, exS]
  simp only [Bool.false_eq_true, if_false]
  refine m_st.trans (satT_c fun us G1 => ?_)
  cases fl c with
  | none => rfl
  | some fs =>
    simp only [m_some]
    by_cases h : fs.length = us.length <;> simp [h, Br, FSatT, FSat]
theorem m_try {c : String} {i : Nat} {b h ss : List Stm} : FSatT (exB ⟨false, cl, fl, sb⟩ L (.try1 b c i h :: ss) d G) K () = FSatT (exB ⟨false, cl, fl, sb⟩ L b d G) ⟨fun d1 G1 => FSatT (exB ⟨false, cl, fl, sb⟩ L ss d1 G1) K (), K.rt, K.bk, K.ct, fun e fs d1 G1 => OptT (sb e c) (fun r => Br r (FSatT (exB ⟨true, cl, fl, sb⟩ L h (d1.set i (.exn e fs)) G1) ⟨fun d2 G2 => FSatT (exB ⟨false, cl, fl, sb⟩ L ss (scrub i d2) G2) K (), K.rt, fun d2 G2 => K.bk (scrub i d2) G2, fun d2 G2 => K.ct (scrub i d2) G2, fun _ _ _ _ => False⟩ ()) (K.ex e fs d1 G1) () ()) ()⟩ () := by
  rw [m_bcons, exS]
  simp only [Bool.false_eq_true, if_false]
  cases q : exB ⟨false, cl, fl, sb⟩ L b d G with
  | ex e fs d1 G1 =>
    simp only []
    show FSatT (match sb e c with
      | some true => (exB ⟨true, cl, fl, sb⟩ L h (d1.set i (.exn e fs)) G1).scrub i
      | some false => .ex e fs d1 G1
      | none => .bad) _ _ = OptT (sb e c) _ ()
    cases sb e c with
    | none => rfl
    | some r => cases r with
      | true =>
        simp only [m_some, m_br1]
        cases exB ⟨true, cl, fl, sb⟩ L h (d1.set i (.exn e fs)) G1 <;> rfl
      | false => rfl
  | _ => rfl
/-! ### values -/
theorem v_len {h : Bool} {u : U} : SatT (bifU h "len" [u] G) P E () = OptT (lenU G u) (fun n => P (.int n) G) () := by
  unfold bifU
  rw [if_neg (by cases h <;> simp)]
  simp only []
  cases lenU G u <;> rfl
theorem v_all {u : U} : SatT (bifU false "all" [u] G) P E () = OptT ((listAt G u).bind allBl) (fun bs => P (.bl (bs.all id)) G) () := by
  unfold bifU
  rw [if_neg (by simp)]
  simp only []
  cases (listAt G u).bind allBl <;> rfl
theorem v_any {u : U} : SatT (bifU false "any" [u] G) P E () = OptT ((listAt G u).bind allBl) (fun bs => P (.bl (bs.any id)) G) () := by
  unfold bifU
  rw [if_neg (by simp)]
  simp only []
  cases (listAt G u).bind allBl <;> rfl
theorem v_intb {h b : Bool} : SatT (bifU h "int" [.bl b] G) P E () = P (.int (if b = true then 1 else 0)) G := by
  unfold bifU
  rw [if_neg (by cases h <;> simp)]
  rfl
theorem v_inti {h : Bool} {i : Int} : SatT (bifU h "int" [.int i] G) P E () = P (.int i) G := by
  unfold bifU
  rw [if_neg (by cases h <;> simp)]
  rfl
theorem v_lenT {us : List U} : lenU G (.tup us) = some us.length := rfl
theorem v_lenS {x : Str} : lenU G (.str x) = if x.length ≤ 1000000 then some x.length else none := rfl
theorem v_lenR {i : Nat} : lenU G (.ref i) = (G[i]?).bind lenC := by
  simp only [lenU]
  cases G[i]? with
  | none => rfl
  | some c => cases c <;> rfl
theorem v_lenCl {us : List U} : lenC (.lst us) = some us.length := rfl
theorem v_lenCd {us : List (Key × U)} : lenC (.dct us) = some us.length := rfl
theorem v_lat {i : Nat} : listAt G (.ref i) = (G[i]?).bind lstC := by
  show (match G[i]? with
    | some (.lst us) => some us
    | _ => none) = _
  cases G[i]? with
  | none => rfl
  | some c => cases c <;> rfl
theorem v_lstC {us : List U} : lstC (.lst us) = some us := rfl
theorem v_seqT {us : List U} : seqAt G (.tup us) = some us := rfl
theorem v_seqR {i : Nat} : seqAt G (.ref i) = (G[i]?).bind lstC := v_lat
theorem v_asI {i : Int} : asInt (.int i) = some i := rfl
theorem v_asB {b : Bool} : asBl (.bl b) = some b := rfl
theorem v_asR {r : Nat} : asRef (.ref r) = some r := rfl
theorem v_trB {b : Bool} : truthy G (.bl b) = some b := rfl
theorem v_trN : truthy G .non = some false := rfl
theorem v_trI {i : Int} : truthy G (.int i) = some (i != 0) := rfl
theorem v_trT {us : List U} : truthy G (.tup us) = some (!us.isEmpty) := rfl
theorem v_trR {i : Nat} : truthy G (.ref i) = (G[i]?).bind truC := by
  simp only [truthy]
  cases G[i]? with
  | none => rfl
  | some c => cases c <;> rfl
theorem v_truCl {us : List U} : truC (.lst us) = some (!us.isEmpty) := rfl
theorem v_truCd {ks : List (Key × U)} : truC (.dct ks) = some (!ks.isEmpty) := rfl
theorem v_subT {us : List U} {k : Int} : subU G (.tup us) (.int k) = L2.atI us k := rfl
theorem v_subS {z : Str} {k : Int} : subU G (.str z) (.int k) = if z.length ≤ 1000000 then (L2.atI z.cps.toList k).map fun c => U.str ⟨#[c]⟩ else none := rfl
theorem v_subRI {r : Nat} {k : Int} : subU G (.ref r) (.int k) = (G[r]?).bind (subCI k) := by
  simp only [subU]
  cases G[r]? with
  | none => rfl
  | some c => cases c <;> rfl
theorem v_subRS {r : Nat} {x : Str} : subU G (.ref r) (.str x) = (G[r]?).bind (subCS x) := by
  simp only [subU]
  cases G[r]? with
  | none => rfl
  | some c => cases c <;> rfl
theorem v_subCIl {us : List U} {k : Int} : subCI k (.lst us) = L2.atI us k := rfl
theorem v_subCId {ks : List (Key × U)} {k : Int} : subCI k (.dct ks) = lookK (.inl k) ks := rfl
theorem v_subCSd {ks : List (Key × U)} {x : Str} : subCS x (.dct ks) = lookK (.inr x) ks := rfl
theorem v_setRI {r : Nat} {k : Int} {u : U} : setU L (.ref r) (.int k) u G = (G[r]?).bind (setCI L r k u G) := by
  simp only [setU]
  cases G[r]? with
  | none => rfl
  | some c => cases c <;> rfl
theorem v_setRS {r : Nat} {x : Str} {u : U} : setU L (.ref r) (.str x) u G = (G[r]?).bind (setCS L r x u G) := by
  simp only [setU]
  cases G[r]? with
  | none => rfl
  | some c => cases c <;> rfl
theorem v_setCIl {r : Nat} {k : Int} {u : U} {us : List U} : setCI L r k u G (.lst us) = (L2.ixN us.length k).map fun j => G.set r (.lst (us.set j u)) := rfl
theorem v_setCId {r : Nat} {k : Int} {u : U} {ks : List (Key × U)} : setCI L r k u G (.dct ks) = if ks.length < 1000000 ∧ r ∉ L then some (G.set r (.dct (putK ks (.inl k) u))) else none := rfl
theorem v_setCSd {r : Nat} {x : Str} {u : U} {ks : List (Key × U)} : setCS L r x u G (.dct ks) = if ks.length < 1000000 ∧ r ∉ L then some (G.set r (.dct (putK ks (.inr x) u))) else none := rfl
theorem v_attr {r : Nat} {f : String} : attrU G (.ref r) f = (G[r]?).bind (atC f) := by
  simp only [attrU]
  cases G[r]? with
  | none => rfl
  | some c => cases c <;> rfl
theorem v_atC {c f : String} {fs : List (String × U)} : atC f (.ins c fs) = fs.lookup f := rfl
theorem v_insC {c : String} {fs : List (String × U)} : insC (.ins c fs) = some (c, fs) := rfl
theorem v_emD : emD (.dct []) = some () := rfl
theorem v_keyI {i : Int} : keyOf (.int i) = some (.inl i) := rfl
theorem v_keyS {x : Str} : keyOf (.str x) = some (.inr x) := rfl
theorem v_isi {u : U} {ty : String} (h : bltT.contains ty = true) : isiB G u ty = isiU G u ty := by
  unfold isiB isiU
  rw [if_pos h]
  cases u with
  | ref i =>
    simp only []
    cases G[i]? with
    | none => rfl
    | some c => cases c <;> rfl
  | _ => rfl
theorem v_isi_bool {u : U} : isiB G u "bool" = isiU G u "bool" := v_isi rfl
theorem v_isi_int {u : U} : isiB G u "int" = isiU G u "int" := v_isi rfl
theorem v_isi_str {u : U} : isiB G u "str" = isiU G u "str" := v_isi rfl
theorem v_isi_list {u : U} : isiB G u "list" = isiU G u "list" := v_isi rfl
theorem v_isi_tuple {u : U} : isiB G u "tuple" = isiU G u "tuple" := v_isi rfl
theorem v_isi_dict {u : U} : isiB G u "dict" = isiU G u "dict" := v_isi rfl
theorem v_memS {c : Nat} {z : Str} : memU G (.str ⟨#[c]⟩) (.str z) = some (decide (c ∈ z.cps.toList)) := rfl
theorem v_new {c : Cell} : (G ++ [c])[G.length]? = some c := by rw [List.getElem?_append_right (Nat.le_refl _), Nat.sub_self]; rfl
theorem v_isN {ty : String} : isiU G .non ty = some false := rfl
theorem v_isB {b : Bool} {ty : String} : isiU G (.bl b) ty = some (ty == "bool" || ty == "int") := rfl
theorem v_isI {i : Int} {ty : String} : isiU G (.int i) ty = some (ty == "int") := rfl
theorem v_isS {x : Str} {ty : String} : isiU G (.str x) ty = some (ty == "str") := rfl
theorem v_isT {us : List U} {ty : String} : isiU G (.tup us) ty = some (ty == "tuple") := rfl
theorem v_isR {i : Nat} {ty : String} : isiU G (.ref i) ty = (G[i]?).bind (isiC ty) := rfl
theorem v_isCl {us : List U} {ty : String} : isiC ty (.lst us) = some (ty == "list") := rfl
theorem v_isCd {ks : List (Key × U)} {ty : String} : isiC ty (.dct ks) = some (ty == "dict") := rfl
theorem v_app {i : Nat} {u : U} : SatT (bmU L (.ref i) "append" [u] G) P E () = OptT ((G[i]?).bind (appC i u G)) (fun G1 => P .non G1) () := by
  unfold bmU
  simp only []
  cases G[i]? with
  | none => rfl
  | some c => cases c with
    | lst xs =>
      simp only [Option.bind_some, appC]
      by_cases h : xs.length < LIM <;> simp [h, SatT, Sat, OptT]
    | _ => rfl
theorem v_appC {i : Nat} {u : U} {xs : List U} : appC i u G (.lst xs) = if xs.length < 1000000 then some (G.set i (.lst (xs ++ [u]))) else none := rfl
theorem v_join {a : Str} {u : U} : SatT (bmU L (.str a) "join" [u] G) P E () = OptT ((seqAt G u).bind allStr) (fun ys => Br (decide ((ys.map (·.length)).sum + ys.length * a.length ≤ LIM)) (P (.str (Txt.join a ys)) G) False () ()) () := by
  unfold bmU
  simp only []
  cases (seqAt G u).bind allStr with
  | none => rfl
  | some ys =>
    simp only [m_some]
    by_cases h : (ys.map (·.length)).sum + ys.length * a.length ≤ LIM <;> simp [h, SatT, Sat, Br]
theorem v_upper {a : Str} : SatT (bmU L (.str a) "upper" [] G) P E () = Br (decide (a.length ≤ LIM)) (P (.str (Txt.upper a)) G) False () () := by
  unfold bmU
  by_cases h : a.length ≤ LIM <;> simp [h, SatT, Sat, Br]
theorem v_bmA {i : Nat} : bmT G (.ref i) "append" = (((G[i]?).bind lstC).isSome) := by
  simp only [bmT, bmV]
  cases G[i]? with
  | none => rfl
  | some c => cases c <;> rfl
theorem v_bmJ {a : Str} : bmT G (.str a) "join" = true := rfl
theorem v_bmU {a : Str} : bmT G (.str a) "upper" = true := rfl
theorem v_slcT {us : List U} {lo hi : Option Int} : SatT (slcU (.tup us) lo hi G) P E () = Br (decide (HT.sIx us.length 0 lo = 0 ∧ HT.sIx us.length us.length hi = us.length)) False (P (.tup (cut us lo hi)) G) () () := by
  unfold slcU
  by_cases h : HT.sIx us.length 0 lo = 0 ∧ HT.sIx us.length us.length hi = us.length <;> simp [h, SatT, Sat, Br]
theorem v_slcS {z : Str} {lo hi : Option Int} : SatT (slcU (.str z) lo hi G) P E () = Br (decide (z.length ≤ LIM)) (P (.str (L2.cutS z lo hi)) G) False () () := by
  unfold slcU
  by_cases h : z.length ≤ LIM <;> simp [h, SatT, Sat, Br]
theorem v_slcR {r : Nat} {lo hi : Option Int} : SatT (slcU (.ref r) lo hi G) P E () = OptT ((G[r]?).bind lstC) (fun us => P (.ref G.length) (G ++ [.lst (cut us lo hi)])) () := by
  unfold slcU
  simp only []
  cases G[r]? with
  | none => rfl
  | some c => cases c <;> rfl
theorem v_addI {i j : Int} : SatT (binop .Add (.int i) (.int j) G) P E () = P (.int (i + j)) G := rfl
theorem v_subI {i j : Int} : SatT (binop .Sub (.int i) (.int j) G) P E () = P (.int (i - j)) G := rfl
theorem v_mulI {i j : Int} : SatT (binop .Mult (.int i) (.int j) G) P E () = Br (mulOk i j) (P (.int (i * j)) G) False () () := by
  show SatT (if mulOk i j = true then .ok (.int (i * j)) G else .bad) P E () = _
  cases mulOk i j <;> rfl
theorem v_mulS {a : Str} {k : Int} : SatT (binop .Mult (.str a) (.int k) G) P E () = Br (decide (0 ≤ k ∧ k ≤ 1000 ∧ a.length * k.toNat ≤ LIM)) (P (.str (repS a k.toNat)) G) False () () := by
  show SatT (if 0 ≤ k ∧ k ≤ 1000 ∧ a.length * k.toNat ≤ LIM then .ok (.str (repS a k.toNat)) G else .bad) P E () = _
  rw [m_site]
  rfl
theorem v_divI {i j : Int} : SatT (binop .FloorDiv (.int i) (.int j) G) P E () = Br (divB j) (P (.int (i / j)) G) False () () := by
  show SatT (if 0 < j ∧ j.natAbs < 2 ^ 4000 then .ok (.int (i / j)) G else .bad) P E () = _
  rw [m_site]
  rfl
theorem v_modI {i j : Int} : SatT (binop .Mod (.int i) (.int j) G) P E () = Br (decide (0 < j)) (P (.int (i % j)) G) False () () := by
  show SatT (if 0 < j then .ok (.int (i % j)) G else .bad) P E () = _
  rw [m_site]
  rfl
theorem v_powI {i j : Int} : SatT (binop .Pow (.int i) (.int j) G) P E () = Br (powB i j) (P (.int (i ^ j.toNat)) G) False () () := by
  show SatT (if 0 ≤ j ∧ j ≤ 1000000 ∧ i.natAbs < 2 ^ 64 then .ok (.int (i ^ j.toNat)) G else .bad) P E () = _
  rw [m_site]
  rfl
theorem v_addS {a b : Str} : SatT (binop .Add (.str a) (.str b) G) P E () = Br (decide (a.length + b.length ≤ LIM)) (P (.str (a ++ b)) G) False () () := by
  show SatT (if a.length + b.length ≤ LIM then .ok (.str (a ++ b)) G else .bad) P E () = _
  rw [m_site]
  rfl
theorem v_addT {us ws : List U} : SatT (binop .Add (.tup us) (.tup ws) G) P E () = Br (decide (us.length + ws.length ≤ LIM)) (P (.tup (us ++ ws)) G) False () () := by
  show SatT (if us.length + ws.length ≤ LIM then .ok (.tup (us ++ ws)) G else .bad) P E () = _
  rw [m_site]
  rfl
theorem v_addL {i j : Nat} : SatT (binop .Add (.ref i) (.ref j) G) P E () = OptT ((G[i]?).bind lstC) (fun us => OptT ((G[j]?).bind lstC) (fun ws => Br (decide (us.length + ws.length ≤ LIM)) (P (.ref G.length) (G ++ [.lst (us ++ ws)])) False () ()) ()) () := by
  show SatT (match G[i]?, G[j]? with
    | some (.lst us), some (.lst ws) => if us.length + ws.length ≤ LIM then .ok (.ref G.length) (G ++ [.lst (us ++ ws)]) else .bad
    | _, _ => .bad) P E () = _
  cases G[i]? with
  | none => rfl
  | some c => cases c with
    | lst us =>
      cases G[j]? with
      | none => rfl
      | some c' => cases c' with
        | lst ws =>
          show SatT (if us.length + ws.length ≤ LIM then .ok (.ref G.length) (G ++ [.lst (us ++ ws)]) else .bad) P E () = _
          rw [m_site]
          rfl
        | _ => rfl
    | _ => rfl
theorem v_augA {i j : Int} : augU .Add (.int i) (.int j) = some (.int (i + j)) := rfl
theorem v_augS {i j : Int} : augU .Sub (.int i) (.int j) = some (.int (i - j)) := rfl
theorem v_eq {x y : U} : cmpop .Eq x y G = eqU DEP G x y := rfl
theorem v_ne {x y : U} : cmpop .NotEq x y G = neU G x y := rfl
theorem v_is {x : U} : cmpop .Is x .non G = some (isNon x) := rfl
theorem v_isnt {x : U} : cmpop .IsNot x .non G = some (!isNon x) := rfl
theorem v_in {x y : U} : cmpop .In x y G = memU G x y := rfl
theorem v_notin {x y : U} : cmpop .NotIn x y G = (memU G x y).map (!·) := rfl
theorem v_lt {i j : Int} : cmpop .Lt (.int i) (.int j) G = some (decide (i < j)) := rfl
theorem v_le {i j : Int} : cmpop .LtE (.int i) (.int j) G = some (decide (i ≤ j)) := rfl
theorem v_gt {i j : Int} : cmpop .Gt (.int i) (.int j) G = some (decide (j < i)) := rfl
theorem v_ge {i j : Int} : cmpop .GtE (.int i) (.int j) G = some (decide (j ≤ i)) := rfl
theorem v_isNonN : isNon .non = true := rfl
theorem v_isNonB {b : Bool} : isNon (.bl b) = false := rfl
theorem v_isNonI {i : Int} : isNon (.int i) = false := rfl
theorem v_isNonS {x : Str} : isNon (.str x) = false := rfl
theorem v_isNonT {us : List U} : isNon (.tup us) = false := rfl
theorem v_isNonR {i : Nat} : isNon (.ref i) = false := rfl
theorem v_memT {x : U} {us : List U} : memU G x (.tup us) = inL (eqU DEP G) x us := rfl
theorem v_memR {x : U} {i : Nat} : memU G x (.ref i) = (G[i]?).bind (memC G x) := by
  simp only [memU]
  cases G[i]? with
  | none => rfl
  | some c => cases c with
    | dct ks =>
      simp only [Option.bind_some, memC]
      cases keyOf x <;> rfl
    | _ => rfl
theorem v_memCl {x : U} {us : List U} : memC G x (.lst us) = inL (eqU DEP G) x us := rfl
theorem v_memCd {x : U} {ks : List (Key × U)} : memC G x (.dct ks) = (keyOf x).map fun k => (lookK k ks).isSome := rfl
theorem v_walkT {us : List U} : walk .plain [.tup us] G = some (.its us, [], us.length) := rfl
theorem v_walkR {n : Int} : walk .range [.int n] G = if -1000000 ≤ n ∧ n ≤ 1000000 then some (.its ((List.range n.toNat).map fun (i : Nat) => .int i), [], n.toNat) else none := rfl
theorem v_walkR2 {a b : Int} : walk .range [.int a, .int b] G = if -1000000 ≤ a ∧ a ≤ 1000000 ∧ -1000000 ≤ b ∧ b ≤ 1000000 then some (.its ((List.range (b - a).toNat).map fun (i : Nat) => .int (a + i)), [], (b - a).toNat) else none := rfl
theorem v_walkS {x : Str} : walk .plain [.str x] G = if x.length ≤ 1000000 then some (.its (x.cps.toList.map fun c => .str ⟨#[c]⟩), [], x.length) else none := rfl
theorem v_walkET {us : List U} : walk .enum [.tup us] G = some (.its (us.zipIdx.map fun p => .tup [.int (p.2 : Nat), p.1]), [], us.length) := rfl
def walkC (i : Nat) : Cell → Option (Wk × List Nat × Nat)
  | .lst us => some (.live i, [], us.length)
  | .dct ks => some (.its (ks.map fun kv => keyU kv.1), [i], ks.length)
  | _ => none
def walkCE (i : Nat) : Cell → Option (Wk × List Nat × Nat)
  | .lst us => some (.enum i, [], us.length)
  | _ => none
theorem v_walkL {i : Nat} : walk .plain [.ref i] G = (G[i]?).bind (walkC i) := by
  simp only [walk]
  cases G[i]? with
  | none => rfl
  | some c => cases c <;> rfl
theorem v_walkE {i : Nat} : walk .enum [.ref i] G = (G[i]?).bind (walkCE i) := by
  simp only [walk]
  cases G[i]? with
  | none => rfl
  | some c => cases c <;> rfl
theorem v_walkCl {i : Nat} {us : List U} : walkC i (.lst us) = some (.live i, [], us.length) := rfl
theorem v_walkCEl {i : Nat} {us : List U} : walkCE i (.lst us) = some (.enum i, [], us.length) := rfl
theorem v_ix {n : Nat} {i : Int} : L2.ixN n i = if 0 ≤ i then (if i < n then some i.toNat else none) else if -(n : Int) ≤ i then some (i + n).toNat else none := rfl
theorem v_wipe0 : wipeE d [] = d := rfl
theorem v_wipe1 {i : Nat} {is : List Nat} : wipeE d (i :: is) = (wipeE d is).set i .no := rfl
theorem v_eqNN {n : Nat} : eqU (n + 1) G .non .non = some (true) := rfl
theorem v_eqNB {n : Nat} {b : Bool} : eqU (n + 1) G .non (.bl b) = some (false) := rfl
theorem v_eqNI {n : Nat} {b : Int} : eqU (n + 1) G .non (.int b) = some (false) := rfl
theorem v_eqNS {n : Nat} {b : Str} : eqU (n + 1) G .non (.str b) = some (false) := rfl
theorem v_eqNT {n : Nat} {b : List U} : eqU (n + 1) G .non (.tup b) = some (false) := rfl
theorem v_eqBN {n : Nat} {a : Bool} : eqU (n + 1) G (.bl a) .non = some (false) := rfl
theorem v_eqBB {n : Nat} {a : Bool} {b : Bool} : eqU (n + 1) G (.bl a) (.bl b) = some (decide (a = b)) := rfl
theorem v_eqBI {n : Nat} {a : Bool} {b : Int} : eqU (n + 1) G (.bl a) (.int b) = some (decide (b2i a = b)) := rfl
theorem v_eqBS {n : Nat} {a : Bool} {b : Str} : eqU (n + 1) G (.bl a) (.str b) = some (false) := rfl
theorem v_eqBT {n : Nat} {a : Bool} {b : List U} : eqU (n + 1) G (.bl a) (.tup b) = some (false) := rfl
theorem v_eqIN {n : Nat} {a : Int} : eqU (n + 1) G (.int a) .non = some (false) := rfl
theorem v_eqIB {n : Nat} {a : Int} {b : Bool} : eqU (n + 1) G (.int a) (.bl b) = some (decide (a = b2i b)) := rfl
theorem v_eqII {n : Nat} {a : Int} {b : Int} : eqU (n + 1) G (.int a) (.int b) = some (decide (a = b)) := rfl
theorem v_eqIS {n : Nat} {a : Int} {b : Str} : eqU (n + 1) G (.int a) (.str b) = some (false) := rfl
theorem v_eqIT {n : Nat} {a : Int} {b : List U} : eqU (n + 1) G (.int a) (.tup b) = some (false) := rfl
theorem v_eqSN {n : Nat} {a : Str} : eqU (n + 1) G (.str a) .non = some (false) := rfl
theorem v_eqSB {n : Nat} {a : Str} {b : Bool} : eqU (n + 1) G (.str a) (.bl b) = some (false) := rfl
theorem v_eqSI {n : Nat} {a : Str} {b : Int} : eqU (n + 1) G (.str a) (.int b) = some (false) := rfl
theorem v_eqSS {n : Nat} {a : Str} {b : Str} : eqU (n + 1) G (.str a) (.str b) = some (decide (a = b)) := rfl
theorem v_eqST {n : Nat} {a : Str} {b : List U} : eqU (n + 1) G (.str a) (.tup b) = some (false) := rfl
theorem v_eqTN {n : Nat} {a : List U} : eqU (n + 1) G (.tup a) .non = some (false) := rfl
theorem v_eqTB {n : Nat} {a : List U} {b : Bool} : eqU (n + 1) G (.tup a) (.bl b) = some (false) := rfl
theorem v_eqTI {n : Nat} {a : List U} {b : Int} : eqU (n + 1) G (.tup a) (.int b) = some (false) := rfl
theorem v_eqTS {n : Nat} {a : List U} {b : Str} : eqU (n + 1) G (.tup a) (.str b) = some (false) := rfl
theorem dep_eq : DEP = 12 := rfl
theorem v_eqTT {n : Nat} {a b : List U} : eqU (n + 1) G (.tup a) (.tup b) = eqL (eqU n G) a b := rfl
theorem m_eqL0 {f : U → U → Option Bool} : eqL f [] [] = some true := rfl
theorem m_eqL1 {f : U → U → Option Bool} {u w : U} {us ws : List U} : eqL f (u :: us) (w :: ws) = (f u w).bind fun b => (eqL f us ws).bind fun r => some (b && r) := rfl
theorem m_eqL2 {f : U → U → Option Bool} {u : U} {us : List U} : eqL f (u :: us) [] = some false := rfl
theorem m_eqL3 {f : U → U → Option Bool} {u : U} {us : List U} : eqL f [] (u :: us) = some false := rfl
theorem m_inL0 {f : U → U → Option Bool} {x : U} {k : Bool → Prop} : OptT (inL f x []) k () = k false := rfl
theorem m_inL1 {f : U → U → Option Bool} {x y : U} {ys : List U} {k : Bool → Prop} : OptT (inL f x (y :: ys)) k () = OptT (f y x) (fun b => Br b (k true) (OptT (inL f x ys) k ()) () ()) () := by
  unfold inL
  cases f y x with
  | none => rfl
  | some b => cases b <;> rfl
theorem v_neU {x y : U} (h1 : isDct G x = false) (h2 : isDct G y = false) : neU G x y = (eqU DEP G x y).map (!·) := by
  unfold neU
  rw [h1, h2, if_pos rfl]
theorem v_neSS {a b : Str} : neU G (.str a) (.str b) = some (!decide (a = b)) := rfl
theorem v_neII {a b : Int} : neU G (.int a) (.int b) = some (!decide (a = b)) := rfl
theorem v_neTT {a b : List U} : neU G (.tup a) (.tup b) = (eqU DEP G (.tup a) (.tup b)).map (!·) := rfl
theorem v_pf0 {f : String} {u : U} : putFld f u [] = [(f, u)] := rfl
theorem v_pf1 {f : String} {u w : U} {fs : List (String × U)} : putFld f u ((f, w) :: fs) = (f, u) :: fs := by simp [putFld]
theorem v_pf2 {f g : String} {u w : U} {fs : List (String × U)} (h : (g == f) = false) : putFld f u ((g, w) :: fs) = (g, w) :: putFld f u fs := by
  have : g ≠ f := fun e => by rw [e] at h; simp at h
  simp [putFld, this]
theorem v_lk1 {f : String} {u : U} {fs : List (String × U)} : List.lookup f ((f, u) :: fs) = some u := by simp [List.lookup]
theorem v_lk2 {f g : String} {u : U} {fs : List (String × U)} (h : (f == g) = false) : List.lookup f ((g, u) :: fs) = List.lookup f fs := by
  rw [List.lookup_cons, h]
theorem v_lk0 {f : String} : List.lookup f ([] : List (String × U)) = none := rfl
def scrF : SV → SV
  | .exn _ _ => .no
  | s => s
theorem v_scr {i : Nat} : scrub i d = (d.map scrF).set i .no := by
  unfold scrub
  congr 1
theorem v_scrV {u : U} : scrF (.val u) = .val u := rfl
theorem v_scrN : scrF .no = .no := rfl
theorem v_scrE {c : String} {fs : List (String × U)} : scrF (.exn c fs) = .no := rfl
theorem v_six0 {n k : Nat} : HT.sIx n k none = k := rfl
theorem v_six1 {n k : Nat} {v : Int} : HT.sIx n k (some v) = if v < 0 then (v + (n : Int)).toNat else min v.toNat n := rfl
theorem v_setNew {c c' : Cell} : (G ++ [c]).set G.length c' = G ++ [c'] := by
  rw [List.set_append_right _ _ (Nat.le_refl _), Nat.sub_self]
  rfl
theorem v_putK1 {k : Key} {u : U} : List.foldl (fun a (p : Key × U) => putK a p.1 p.2) [] [(k, u)] = [(k, u)] := rfl
theorem v_osq {a b : String} : (Str.ofString a = Str.ofString b) = (a = b) := propext ⟨ofString_inj, fun h => by rw [h]⟩
theorem v_dctN : isDct G .non = false := rfl
theorem v_dctB {b : Bool} : isDct G (.bl b) = false := rfl
theorem v_dctI {i : Int} : isDct G (.int i) = false := rfl
theorem v_dctS {x : Str} : isDct G (.str x) = false := rfl
theorem v_dctT {us : List U} : isDct G (.tup us) = false := rfl
theorem set_same {i : Nat} {c : Cell} (h : G[i]? = some c) : G.set i c = G := by
  apply List.ext_getElem?
  intro j
  by_cases e : i = j
  · subst e
    rw [List.getElem?_set_self (List.getElem?_eq_some_iff.mp h).1, h]
  · rw [List.getElem?_set_ne e]
theorem v_asgT {ts : List Tg} {us : List U} : asg (.tup ts) (.tup us) d = asg.asgs ts us d := rfl
theorem v_asgs0 : asg.asgs [] [] d = some d := rfl
theorem v_asgs1 {g : Tg} {ts : List Tg} {u : U} {us : List U} : asg.asgs (g :: ts) (u :: us) d = (asg g u d).bind fun d1 => asg.asgs ts us d1 := rfl
theorem v_bindP0 {us : List U} : bindP [] us = some [] := rfl
theorem v_bindP1 {k : Nat} {bd : Bnd} {us : List U} : bindP (.inl k :: bd) us = (us[k]?).bind fun u => (bindP bd us).bind fun r => some (u :: r) := by
  unfold bindP
  rw [List.mapM_cons]
  rfl
theorem v_bindP2 {w : U} {bd : Bnd} {us : List U} : bindP (.inr w :: bd) us = (bindP bd us).bind fun r => some (w :: r) := by
  unfold bindP
  rw [List.mapM_cons]
  rfl

theorem slot_0 {u : U} : slot (.val u :: d) 0 = some u := rfl
theorem slot_1 {u : U} {a0 : SV} : slot (a0 :: .val u :: d) 1 = some u := rfl
theorem slot_2 {u : U} {a0 a1 : SV} : slot (a0 :: a1 :: .val u :: d) 2 = some u := rfl
theorem slot_3 {u : U} {a0 a1 a2 : SV} : slot (a0 :: a1 :: a2 :: .val u :: d) 3 = some u := rfl
theorem slot_4 {u : U} {a0 a1 a2 a3 : SV} : slot (a0 :: a1 :: a2 :: a3 :: .val u :: d) 4 = some u := rfl
theorem slot_5 {u : U} {a0 a1 a2 a3 a4 : SV} : slot (a0 :: a1 :: a2 :: a3 :: a4 :: .val u :: d) 5 = some u := rfl
theorem slot_6 {u : U} {a0 a1 a2 a3 a4 a5 : SV} : slot (a0 :: a1 :: a2 :: a3 :: a4 :: a5 :: .val u :: d) 6 = some u := rfl
theorem slot_7 {u : U} {a0 a1 a2 a3 a4 a5 a6 : SV} : slot (a0 :: a1 :: a2 :: a3 :: a4 :: a5 :: a6 :: .val u :: d) 7 = some u := rfl
theorem slot_8 {u : U} {a0 a1 a2 a3 a4 a5 a6 a7 : SV} : slot (a0 :: a1 :: a2 :: a3 :: a4 :: a5 :: a6 :: a7 :: .val u :: d) 8 = some u := rfl
theorem slot_9 {u : U} {a0 a1 a2 a3 a4 a5 a6 a7 a8 : SV} : slot (a0 :: a1 :: a2 :: a3 :: a4 :: a5 :: a6 :: a7 :: a8 :: .val u :: d) 9 = some u := rfl
theorem slot_10 {u : U} {a0 a1 a2 a3 a4 a5 a6 a7 a8 a9 : SV} : slot (a0 :: a1 :: a2 :: a3 :: a4 :: a5 :: a6 :: a7 :: a8 :: a9 :: .val u :: d) 10 = some u := rfl
theorem slot_11 {u : U} {a0 a1 a2 a3 a4 a5 a6 a7 a8 a9 a10 : SV} : slot (a0 :: a1 :: a2 :: a3 :: a4 :: a5 :: a6 :: a7 :: a8 :: a9 :: a10 :: .val u :: d) 11 = some u := rfl
theorem slot_12 {u : U} {a0 a1 a2 a3 a4 a5 a6 a7 a8 a9 a10 a11 : SV} : slot (a0 :: a1 :: a2 :: a3 :: a4 :: a5 :: a6 :: a7 :: a8 :: a9 :: a10 :: a11 :: .val u :: d) 12 = some u := rfl
theorem slot_13 {u : U} {a0 a1 a2 a3 a4 a5 a6 a7 a8 a9 a10 a11 a12 : SV} : slot (a0 :: a1 :: a2 :: a3 :: a4 :: a5 :: a6 :: a7 :: a8 :: a9 :: a10 :: a11 :: a12 :: .val u :: d) 13 = some u := rfl
theorem slot_14 {u : U} {a0 a1 a2 a3 a4 a5 a6 a7 a8 a9 a10 a11 a12 a13 : SV} : slot (a0 :: a1 :: a2 :: a3 :: a4 :: a5 :: a6 :: a7 :: a8 :: a9 :: a10 :: a11 :: a12 :: a13 :: .val u :: d) 14 = some u := rfl
theorem slot_15 {u : U} {a0 a1 a2 a3 a4 a5 a6 a7 a8 a9 a10 a11 a12 a13 a14 : SV} : slot (a0 :: a1 :: a2 :: a3 :: a4 :: a5 :: a6 :: a7 :: a8 :: a9 :: a10 :: a11 :: a12 :: a13 :: a14 :: .val u :: d) 15 = some u := rfl
theorem slot_16 {u : U} {a0 a1 a2 a3 a4 a5 a6 a7 a8 a9 a10 a11 a12 a13 a14 a15 : SV} : slot (a0 :: a1 :: a2 :: a3 :: a4 :: a5 :: a6 :: a7 :: a8 :: a9 :: a10 :: a11 :: a12 :: a13 :: a14 :: a15 :: .val u :: d) 16 = some u := rfl
theorem slot_17 {u : U} {a0 a1 a2 a3 a4 a5 a6 a7 a8 a9 a10 a11 a12 a13 a14 a15 a16 : SV} : slot (a0 :: a1 :: a2 :: a3 :: a4 :: a5 :: a6 :: a7 :: a8 :: a9 :: a10 :: a11 :: a12 :: a13 :: a14 :: a15 :: a16 :: .val u :: d) 17 = some u := rfl
theorem slot_18 {u : U} {a0 a1 a2 a3 a4 a5 a6 a7 a8 a9 a10 a11 a12 a13 a14 a15 a16 a17 : SV} : slot (a0 :: a1 :: a2 :: a3 :: a4 :: a5 :: a6 :: a7 :: a8 :: a9 :: a10 :: a11 :: a12 :: a13 :: a14 :: a15 :: a16 :: a17 :: .val u :: d) 18 = some u := rfl
theorem slot_19 {u : U} {a0 a1 a2 a3 a4 a5 a6 a7 a8 a9 a10 a11 a12 a13 a14 a15 a16 a17 a18 : SV} : slot (a0 :: a1 :: a2 :: a3 :: a4 :: a5 :: a6 :: a7 :: a8 :: a9 :: a10 :: a11 :: a12 :: a13 :: a14 :: a15 :: a16 :: a17 :: a18 :: .val u :: d) 19 = some u := rfl
theorem slot_20 {u : U} {a0 a1 a2 a3 a4 a5 a6 a7 a8 a9 a10 a11 a12 a13 a14 a15 a16 a17 a18 a19 : SV} : slot (a0 :: a1 :: a2 :: a3 :: a4 :: a5 :: a6 :: a7 :: a8 :: a9 :: a10 :: a11 :: a12 :: a13 :: a14 :: a15 :: a16 :: a17 :: a18 :: a19 :: .val u :: d) 20 = some u := rfl
theorem slot_21 {u : U} {a0 a1 a2 a3 a4 a5 a6 a7 a8 a9 a10 a11 a12 a13 a14 a15 a16 a17 a18 a19 a20 : SV} : slot (a0 :: a1 :: a2 :: a3 :: a4 :: a5 :: a6 :: a7 :: a8 :: a9 :: a10 :: a11 :: a12 :: a13 :: a14 :: a15 :: a16 :: a17 :: a18 :: a19 :: a20 :: .val u :: d) 21 = some u := rfl
theorem slot_22 {u : U} {a0 a1 a2 a3 a4 a5 a6 a7 a8 a9 a10 a11 a12 a13 a14 a15 a16 a17 a18 a19 a20 a21 : SV} : slot (a0 :: a1 :: a2 :: a3 :: a4 :: a5 :: a6 :: a7 :: a8 :: a9 :: a10 :: a11 :: a12 :: a13 :: a14 :: a15 :: a16 :: a17 :: a18 :: a19 :: a20 :: a21 :: .val u :: d) 22 = some u := rfl
theorem slot_23 {u : U} {a0 a1 a2 a3 a4 a5 a6 a7 a8 a9 a10 a11 a12 a13 a14 a15 a16 a17 a18 a19 a20 a21 a22 : SV} : slot (a0 :: a1 :: a2 :: a3 :: a4 :: a5 :: a6 :: a7 :: a8 :: a9 :: a10 :: a11 :: a12 :: a13 :: a14 :: a15 :: a16 :: a17 :: a18 :: a19 :: a20 :: a21 :: a22 :: .val u :: d) 23 = some u := rfl
theorem slot_24 {u : U} {a0 a1 a2 a3 a4 a5 a6 a7 a8 a9 a10 a11 a12 a13 a14 a15 a16 a17 a18 a19 a20 a21 a22 a23 : SV} : slot (a0 :: a1 :: a2 :: a3 :: a4 :: a5 :: a6 :: a7 :: a8 :: a9 :: a10 :: a11 :: a12 :: a13 :: a14 :: a15 :: a16 :: a17 :: a18 :: a19 :: a20 :: a21 :: a22 :: a23 :: .val u :: d) 24 = some u := rfl
theorem slot_25 {u : U} {a0 a1 a2 a3 a4 a5 a6 a7 a8 a9 a10 a11 a12 a13 a14 a15 a16 a17 a18 a19 a20 a21 a22 a23 a24 : SV} : slot (a0 :: a1 :: a2 :: a3 :: a4 :: a5 :: a6 :: a7 :: a8 :: a9 :: a10 :: a11 :: a12 :: a13 :: a14 :: a15 :: a16 :: a17 :: a18 :: a19 :: a20 :: a21 :: a22 :: a23 :: a24 :: .val u :: d) 25 = some u := rfl
theorem slot_26 {u : U} {a0 a1 a2 a3 a4 a5 a6 a7 a8 a9 a10 a11 a12 a13 a14 a15 a16 a17 a18 a19 a20 a21 a22 a23 a24 a25 : SV} : slot (a0 :: a1 :: a2 :: a3 :: a4 :: a5 :: a6 :: a7 :: a8 :: a9 :: a10 :: a11 :: a12 :: a13 :: a14 :: a15 :: a16 :: a17 :: a18 :: a19 :: a20 :: a21 :: a22 :: a23 :: a24 :: a25 :: .val u :: d) 26 = some u := rfl
theorem slot_27 {u : U} {a0 a1 a2 a3 a4 a5 a6 a7 a8 a9 a10 a11 a12 a13 a14 a15 a16 a17 a18 a19 a20 a21 a22 a23 a24 a25 a26 : SV} : slot (a0 :: a1 :: a2 :: a3 :: a4 :: a5 :: a6 :: a7 :: a8 :: a9 :: a10 :: a11 :: a12 :: a13 :: a14 :: a15 :: a16 :: a17 :: a18 :: a19 :: a20 :: a21 :: a22 :: a23 :: a24 :: a25 :: a26 :: .val u :: d) 27 = some u := rfl
theorem slot_28 {u : U} {a0 a1 a2 a3 a4 a5 a6 a7 a8 a9 a10 a11 a12 a13 a14 a15 a16 a17 a18 a19 a20 a21 a22 a23 a24 a25 a26 a27 : SV} : slot (a0 :: a1 :: a2 :: a3 :: a4 :: a5 :: a6 :: a7 :: a8 :: a9 :: a10 :: a11 :: a12 :: a13 :: a14 :: a15 :: a16 :: a17 :: a18 :: a19 :: a20 :: a21 :: a22 :: a23 :: a24 :: a25 :: a26 :: a27 :: .val u :: d) 28 = some u := rfl
theorem slot_29 {u : U} {a0 a1 a2 a3 a4 a5 a6 a7 a8 a9 a10 a11 a12 a13 a14 a15 a16 a17 a18 a19 a20 a21 a22 a23 a24 a25 a26 a27 a28 : SV} : slot (a0 :: a1 :: a2 :: a3 :: a4 :: a5 :: a6 :: a7 :: a8 :: a9 :: a10 :: a11 :: a12 :: a13 :: a14 :: a15 :: a16 :: a17 :: a18 :: a19 :: a20 :: a21 :: a22 :: a23 :: a24 :: a25 :: a26 :: a27 :: a28 :: .val u :: d) 29 = some u := rfl
theorem exn_0 {c : String} {fs : List (String × U)} : exnS (.exn c fs :: d) 0 = some (c, fs) := rfl
theorem exn_1 {c : String} {fs : List (String × U)} {a0 : SV} : exnS (a0 :: .exn c fs :: d) 1 = some (c, fs) := rfl
theorem exn_2 {c : String} {fs : List (String × U)} {a0 a1 : SV} : exnS (a0 :: a1 :: .exn c fs :: d) 2 = some (c, fs) := rfl
theorem exn_3 {c : String} {fs : List (String × U)} {a0 a1 a2 : SV} : exnS (a0 :: a1 :: a2 :: .exn c fs :: d) 3 = some (c, fs) := rfl
theorem exn_4 {c : String} {fs : List (String × U)} {a0 a1 a2 a3 : SV} : exnS (a0 :: a1 :: a2 :: a3 :: .exn c fs :: d) 4 = some (c, fs) := rfl
theorem exn_5 {c : String} {fs : List (String × U)} {a0 a1 a2 a3 a4 : SV} : exnS (a0 :: a1 :: a2 :: a3 :: a4 :: .exn c fs :: d) 5 = some (c, fs) := rfl
theorem exn_6 {c : String} {fs : List (String × U)} {a0 a1 a2 a3 a4 a5 : SV} : exnS (a0 :: a1 :: a2 :: a3 :: a4 :: a5 :: .exn c fs :: d) 6 = some (c, fs) := rfl
theorem exn_7 {c : String} {fs : List (String × U)} {a0 a1 a2 a3 a4 a5 a6 : SV} : exnS (a0 :: a1 :: a2 :: a3 :: a4 :: a5 :: a6 :: .exn c fs :: d) 7 = some (c, fs) := rfl
theorem exn_8 {c : String} {fs : List (String × U)} {a0 a1 a2 a3 a4 a5 a6 a7 : SV} : exnS (a0 :: a1 :: a2 :: a3 :: a4 :: a5 :: a6 :: a7 :: .exn c fs :: d) 8 = some (c, fs) := rfl
theorem exn_9 {c : String} {fs : List (String × U)} {a0 a1 a2 a3 a4 a5 a6 a7 a8 : SV} : exnS (a0 :: a1 :: a2 :: a3 :: a4 :: a5 :: a6 :: a7 :: a8 :: .exn c fs :: d) 9 = some (c, fs) := rfl
theorem exn_10 {c : String} {fs : List (String × U)} {a0 a1 a2 a3 a4 a5 a6 a7 a8 a9 : SV} : exnS (a0 :: a1 :: a2 :: a3 :: a4 :: a5 :: a6 :: a7 :: a8 :: a9 :: .exn c fs :: d) 10 = some (c, fs) := rfl
theorem exn_11 {c : String} {fs : List (String × U)} {a0 a1 a2 a3 a4 a5 a6 a7 a8 a9 a10 : SV} : exnS (a0 :: a1 :: a2 :: a3 :: a4 :: a5 :: a6 :: a7 :: a8 :: a9 :: a10 :: .exn c fs :: d) 11 = some (c, fs) := rfl
theorem exn_12 {c : String} {fs : List (String × U)} {a0 a1 a2 a3 a4 a5 a6 a7 a8 a9 a10 a11 : SV} : exnS (a0 :: a1 :: a2 :: a3 :: a4 :: a5 :: a6 :: a7 :: a8 :: a9 :: a10 :: a11 :: .exn c fs :: d) 12 = some (c, fs) := rfl
theorem exn_13 {c : String} {fs : List (String × U)} {a0 a1 a2 a3 a4 a5 a6 a7 a8 a9 a10 a11 a12 : SV} : exnS (a0 :: a1 :: a2 :: a3 :: a4 :: a5 :: a6 :: a7 :: a8 :: a9 :: a10 :: a11 :: a12 :: .exn c fs :: d) 13 = some (c, fs) := rfl
theorem exn_14 {c : String} {fs : List (String × U)} {a0 a1 a2 a3 a4 a5 a6 a7 a8 a9 a10 a11 a12 a13 : SV} : exnS (a0 :: a1 :: a2 :: a3 :: a4 :: a5 :: a6 :: a7 :: a8 :: a9 :: a10 :: a11 :: a12 :: a13 :: .exn c fs :: d) 14 = some (c, fs) := rfl
theorem exn_15 {c : String} {fs : List (String × U)} {a0 a1 a2 a3 a4 a5 a6 a7 a8 a9 a10 a11 a12 a13 a14 : SV} : exnS (a0 :: a1 :: a2 :: a3 :: a4 :: a5 :: a6 :: a7 :: a8 :: a9 :: a10 :: a11 :: a12 :: a13 :: a14 :: .exn c fs :: d) 15 = some (c, fs) := rfl
theorem exn_16 {c : String} {fs : List (String × U)} {a0 a1 a2 a3 a4 a5 a6 a7 a8 a9 a10 a11 a12 a13 a14 a15 : SV} : exnS (a0 :: a1 :: a2 :: a3 :: a4 :: a5 :: a6 :: a7 :: a8 :: a9 :: a10 :: a11 :: a12 :: a13 :: a14 :: a15 :: .exn c fs :: d) 16 = some (c, fs) := rfl
theorem exn_17 {c : String} {fs : List (String × U)} {a0 a1 a2 a3 a4 a5 a6 a7 a8 a9 a10 a11 a12 a13 a14 a15 a16 : SV} : exnS (a0 :: a1 :: a2 :: a3 :: a4 :: a5 :: a6 :: a7 :: a8 :: a9 :: a10 :: a11 :: a12 :: a13 :: a14 :: a15 :: a16 :: .exn c fs :: d) 17 = some (c, fs) := rfl
theorem exn_18 {c : String} {fs : List (String × U)} {a0 a1 a2 a3 a4 a5 a6 a7 a8 a9 a10 a11 a12 a13 a14 a15 a16 a17 : SV} : exnS (a0 :: a1 :: a2 :: a3 :: a4 :: a5 :: a6 :: a7 :: a8 :: a9 :: a10 :: a11 :: a12 :: a13 :: a14 :: a15 :: a16 :: a17 :: .exn c fs :: d) 18 = some (c, fs) := rfl
theorem exn_19 {c : String} {fs : List (String × U)} {a0 a1 a2 a3 a4 a5 a6 a7 a8 a9 a10 a11 a12 a13 a14 a15 a16 a17 a18 : SV} : exnS (a0 :: a1 :: a2 :: a3 :: a4 :: a5 :: a6 :: a7 :: a8 :: a9 :: a10 :: a11 :: a12 :: a13 :: a14 :: a15 :: a16 :: a17 :: a18 :: .exn c fs :: d) 19 = some (c, fs) := rfl
theorem exn_20 {c : String} {fs : List (String × U)} {a0 a1 a2 a3 a4 a5 a6 a7 a8 a9 a10 a11 a12 a13 a14 a15 a16 a17 a18 a19 : SV} : exnS (a0 :: a1 :: a2 :: a3 :: a4 :: a5 :: a6 :: a7 :: a8 :: a9 :: a10 :: a11 :: a12 :: a13 :: a14 :: a15 :: a16 :: a17 :: a18 :: a19 :: .exn c fs :: d) 20 = some (c, fs) := rfl
theorem exn_21 {c : String} {fs : List (String × U)} {a0 a1 a2 a3 a4 a5 a6 a7 a8 a9 a10 a11 a12 a13 a14 a15 a16 a17 a18 a19 a20 : SV} : exnS (a0 :: a1 :: a2 :: a3 :: a4 :: a5 :: a6 :: a7 :: a8 :: a9 :: a10 :: a11 :: a12 :: a13 :: a14 :: a15 :: a16 :: a17 :: a18 :: a19 :: a20 :: .exn c fs :: d) 21 = some (c, fs) := rfl
theorem exn_22 {c : String} {fs : List (String × U)} {a0 a1 a2 a3 a4 a5 a6 a7 a8 a9 a10 a11 a12 a13 a14 a15 a16 a17 a18 a19 a20 a21 : SV} : exnS (a0 :: a1 :: a2 :: a3 :: a4 :: a5 :: a6 :: a7 :: a8 :: a9 :: a10 :: a11 :: a12 :: a13 :: a14 :: a15 :: a16 :: a17 :: a18 :: a19 :: a20 :: a21 :: .exn c fs :: d) 22 = some (c, fs) := rfl
theorem exn_23 {c : String} {fs : List (String × U)} {a0 a1 a2 a3 a4 a5 a6 a7 a8 a9 a10 a11 a12 a13 a14 a15 a16 a17 a18 a19 a20 a21 a22 : SV} : exnS (a0 :: a1 :: a2 :: a3 :: a4 :: a5 :: a6 :: a7 :: a8 :: a9 :: a10 :: a11 :: a12 :: a13 :: a14 :: a15 :: a16 :: a17 :: a18 :: a19 :: a20 :: a21 :: a22 :: .exn c fs :: d) 23 = some (c, fs) := rfl
theorem exn_24 {c : String} {fs : List (String × U)} {a0 a1 a2 a3 a4 a5 a6 a7 a8 a9 a10 a11 a12 a13 a14 a15 a16 a17 a18 a19 a20 a21 a22 a23 : SV} : exnS (a0 :: a1 :: a2 :: a3 :: a4 :: a5 :: a6 :: a7 :: a8 :: a9 :: a10 :: a11 :: a12 :: a13 :: a14 :: a15 :: a16 :: a17 :: a18 :: a19 :: a20 :: a21 :: a22 :: a23 :: .exn c fs :: d) 24 = some (c, fs) := rfl
theorem exn_25 {c : String} {fs : List (String × U)} {a0 a1 a2 a3 a4 a5 a6 a7 a8 a9 a10 a11 a12 a13 a14 a15 a16 a17 a18 a19 a20 a21 a22 a23 a24 : SV} : exnS (a0 :: a1 :: a2 :: a3 :: a4 :: a5 :: a6 :: a7 :: a8 :: a9 :: a10 :: a11 :: a12 :: a13 :: a14 :: a15 :: a16 :: a17 :: a18 :: a19 :: a20 :: a21 :: a22 :: a23 :: a24 :: .exn c fs :: d) 25 = some (c, fs) := rfl
theorem exn_26 {c : String} {fs : List (String × U)} {a0 a1 a2 a3 a4 a5 a6 a7 a8 a9 a10 a11 a12 a13 a14 a15 a16 a17 a18 a19 a20 a21 a22 a23 a24 a25 : SV} : exnS (a0 :: a1 :: a2 :: a3 :: a4 :: a5 :: a6 :: a7 :: a8 :: a9 :: a10 :: a11 :: a12 :: a13 :: a14 :: a15 :: a16 :: a17 :: a18 :: a19 :: a20 :: a21 :: a22 :: a23 :: a24 :: a25 :: .exn c fs :: d) 26 = some (c, fs) := rfl
theorem exn_27 {c : String} {fs : List (String × U)} {a0 a1 a2 a3 a4 a5 a6 a7 a8 a9 a10 a11 a12 a13 a14 a15 a16 a17 a18 a19 a20 a21 a22 a23 a24 a25 a26 : SV} : exnS (a0 :: a1 :: a2 :: a3 :: a4 :: a5 :: a6 :: a7 :: a8 :: a9 :: a10 :: a11 :: a12 :: a13 :: a14 :: a15 :: a16 :: a17 :: a18 :: a19 :: a20 :: a21 :: a22 :: a23 :: a24 :: a25 :: a26 :: .exn c fs :: d) 27 = some (c, fs) := rfl
theorem exn_28 {c : String} {fs : List (String × U)} {a0 a1 a2 a3 a4 a5 a6 a7 a8 a9 a10 a11 a12 a13 a14 a15 a16 a17 a18 a19 a20 a21 a22 a23 a24 a25 a26 a27 : SV} : exnS (a0 :: a1 :: a2 :: a3 :: a4 :: a5 :: a6 :: a7 :: a8 :: a9 :: a10 :: a11 :: a12 :: a13 :: a14 :: a15 :: a16 :: a17 :: a18 :: a19 :: a20 :: a21 :: a22 :: a23 :: a24 :: a25 :: a26 :: a27 :: .exn c fs :: d) 28 = some (c, fs) := rfl
theorem exn_29 {c : String} {fs : List (String × U)} {a0 a1 a2 a3 a4 a5 a6 a7 a8 a9 a10 a11 a12 a13 a14 a15 a16 a17 a18 a19 a20 a21 a22 a23 a24 a25 a26 a27 a28 : SV} : exnS (a0 :: a1 :: a2 :: a3 :: a4 :: a5 :: a6 :: a7 :: a8 :: a9 :: a10 :: a11 :: a12 :: a13 :: a14 :: a15 :: a16 :: a17 :: a18 :: a19 :: a20 :: a21 :: a22 :: a23 :: a24 :: a25 :: a26 :: a27 :: a28 :: .exn c fs :: d) 29 = some (c, fs) := rfl
theorem asg_0 {u : U} {x : SV} : asg (.nm 0) u (x :: d) = some (.val u :: d) := by
  unfold asg
  rw [if_pos (by simp)]
  rfl
theorem asg_1 {u : U} {x : SV} {a0 : SV} : asg (.nm 1) u (a0 :: x :: d) = some (a0 :: .val u :: d) := by
  unfold asg
  rw [if_pos (by simp)]
  rfl
theorem asg_2 {u : U} {x : SV} {a0 a1 : SV} : asg (.nm 2) u (a0 :: a1 :: x :: d) = some (a0 :: a1 :: .val u :: d) := by
  unfold asg
  rw [if_pos (by simp)]
  rfl
theorem asg_3 {u : U} {x : SV} {a0 a1 a2 : SV} : asg (.nm 3) u (a0 :: a1 :: a2 :: x :: d) = some (a0 :: a1 :: a2 :: .val u :: d) := by
  unfold asg
  rw [if_pos (by simp)]
  rfl
theorem asg_4 {u : U} {x : SV} {a0 a1 a2 a3 : SV} : asg (.nm 4) u (a0 :: a1 :: a2 :: a3 :: x :: d) = some (a0 :: a1 :: a2 :: a3 :: .val u :: d) := by
  unfold asg
  rw [if_pos (by simp)]
  rfl
theorem asg_5 {u : U} {x : SV} {a0 a1 a2 a3 a4 : SV} : asg (.nm 5) u (a0 :: a1 :: a2 :: a3 :: a4 :: x :: d) = some (a0 :: a1 :: a2 :: a3 :: a4 :: .val u :: d) := by
  unfold asg
  rw [if_pos (by simp)]
  rfl
theorem asg_6 {u : U} {x : SV} {a0 a1 a2 a3 a4 a5 : SV} : asg (.nm 6) u (a0 :: a1 :: a2 :: a3 :: a4 :: a5 :: x :: d) = some (a0 :: a1 :: a2 :: a3 :: a4 :: a5 :: .val u :: d) := by
  unfold asg
  rw [if_pos (by simp)]
  rfl
theorem asg_7 {u : U} {x : SV} {a0 a1 a2 a3 a4 a5 a6 : SV} : asg (.nm 7) u (a0 :: a1 :: a2 :: a3 :: a4 :: a5 :: a6 :: x :: d) = some (a0 :: a1 :: a2 :: a3 :: a4 :: a5 :: a6 :: .val u :: d) := by
  unfold asg
  rw [if_pos (by simp)]
  rfl
theorem asg_8 {u : U} {x : SV} {a0 a1 a2 a3 a4 a5 a6 a7 : SV} : asg (.nm 8) u (a0 :: a1 :: a2 :: a3 :: a4 :: a5 :: a6 :: a7 :: x :: d) = some (a0 :: a1 :: a2 :: a3 :: a4 :: a5 :: a6 :: a7 :: .val u :: d) := by
  unfold asg
  rw [if_pos (by simp)]
  rfl
theorem asg_9 {u : U} {x : SV} {a0 a1 a2 a3 a4 a5 a6 a7 a8 : SV} : asg (.nm 9) u (a0 :: a1 :: a2 :: a3 :: a4 :: a5 :: a6 :: a7 :: a8 :: x :: d) = some (a0 :: a1 :: a2 :: a3 :: a4 :: a5 :: a6 :: a7 :: a8 :: .val u :: d) := by
  unfold asg
  rw [if_pos (by simp)]
  rfl
theorem asg_10 {u : U} {x : SV} {a0 a1 a2 a3 a4 a5 a6 a7 a8 a9 : SV} : asg (.nm 10) u (a0 :: a1 :: a2 :: a3 :: a4 :: a5 :: a6 :: a7 :: a8 :: a9 :: x :: d) = some (a0 :: a1 :: a2 :: a3 :: a4 :: a5 :: a6 :: a7 :: a8 :: a9 :: .val u :: d) := by
  unfold asg
  rw [if_pos (by simp)]
  rfl
theorem asg_11 {u : U} {x : SV} {a0 a1 a2 a3 a4 a5 a6 a7 a8 a9 a10 : SV} : asg (.nm 11) u (a0 :: a1 :: a2 :: a3 :: a4 :: a5 :: a6 :: a7 :: a8 :: a9 :: a10 :: x :: d) = some (a0 :: a1 :: a2 :: a3 :: a4 :: a5 :: a6 :: a7 :: a8 :: a9 :: a10 :: .val u :: d) := by
  unfold asg
  rw [if_pos (by simp)]
  rfl
theorem asg_12 {u : U} {x : SV} {a0 a1 a2 a3 a4 a5 a6 a7 a8 a9 a10 a11 : SV} : asg (.nm 12) u (a0 :: a1 :: a2 :: a3 :: a4 :: a5 :: a6 :: a7 :: a8 :: a9 :: a10 :: a11 :: x :: d) = some (a0 :: a1 :: a2 :: a3 :: a4 :: a5 :: a6 :: a7 :: a8 :: a9 :: a10 :: a11 :: .val u :: d) := by
  unfold asg
  rw [if_pos (by simp)]
  rfl
theorem asg_13 {u : U} {x : SV} {a0 a1 a2 a3 a4 a5 a6 a7 a8 a9 a10 a11 a12 : SV} : asg (.nm 13) u (a0 :: a1 :: a2 :: a3 :: a4 :: a5 :: a6 :: a7 :: a8 :: a9 :: a10 :: a11 :: a12 :: x :: d) = some (a0 :: a1 :: a2 :: a3 :: a4 :: a5 :: a6 :: a7 :: a8 :: a9 :: a10 :: a11 :: a12 :: .val u :: d) := by
  unfold asg
  rw [if_pos (by simp)]
  rfl
theorem asg_14 {u : U} {x : SV} {a0 a1 a2 a3 a4 a5 a6 a7 a8 a9 a10 a11 a12 a13 : SV} : asg (.nm 14) u (a0 :: a1 :: a2 :: a3 :: a4 :: a5 :: a6 :: a7 :: a8 :: a9 :: a10 :: a11 :: a12 :: a13 :: x :: d) = some (a0 :: a1 :: a2 :: a3 :: a4 :: a5 :: a6 :: a7 :: a8 :: a9 :: a10 :: a11 :: a12 :: a13 :: .val u :: d) := by
  unfold asg
  rw [if_pos (by simp)]
  rfl
theorem asg_15 {u : U} {x : SV} {a0 a1 a2 a3 a4 a5 a6 a7 a8 a9 a10 a11 a12 a13 a14 : SV} : asg (.nm 15) u (a0 :: a1 :: a2 :: a3 :: a4 :: a5 :: a6 :: a7 :: a8 :: a9 :: a10 :: a11 :: a12 :: a13 :: a14 :: x :: d) = some (a0 :: a1 :: a2 :: a3 :: a4 :: a5 :: a6 :: a7 :: a8 :: a9 :: a10 :: a11 :: a12 :: a13 :: a14 :: .val u :: d) := by
  unfold asg
  rw [if_pos (by simp)]
  rfl
theorem asg_16 {u : U} {x : SV} {a0 a1 a2 a3 a4 a5 a6 a7 a8 a9 a10 a11 a12 a13 a14 a15 : SV} : asg (.nm 16) u (a0 :: a1 :: a2 :: a3 :: a4 :: a5 :: a6 :: a7 :: a8 :: a9 :: a10 :: a11 :: a12 :: a13 :: a14 :: a15 :: x :: d) = some (a0 :: a1 :: a2 :: a3 :: a4 :: a5 :: a6 :: a7 :: a8 :: a9 :: a10 :: a11 :: a12 :: a13 :: a14 :: a15 :: .val u :: d) := by
  unfold asg
  rw [if_pos (by simp)]
  rfl
theorem asg_17 {u : U} {x : SV} {a0 a1 a2 a3 a4 a5 a6 a7 a8 a9 a10 a11 a12 a13 a14 a15 a16 : SV} : asg (.nm 17) u (a0 :: a1 :: a2 :: a3 :: a4 :: a5 :: a6 :: a7 :: a8 :: a9 :: a10 :: a11 :: a12 :: a13 :: a14 :: a15 :: a16 :: x :: d) = some (a0 :: a1 :: a2 :: a3 :: a4 :: a5 :: a6 :: a7 :: a8 :: a9 :: a10 :: a11 :: a12 :: a13 :: a14 :: a15 :: a16 :: .val u :: d) := by
  unfold asg
  rw [if_pos (by simp)]
  rfl
theorem asg_18 {u : U} {x : SV} {a0 a1 a2 a3 a4 a5 a6 a7 a8 a9 a10 a11 a12 a13 a14 a15 a16 a17 : SV} : asg (.nm 18) u (a0 :: a1 :: a2 :: a3 :: a4 :: a5 :: a6 :: a7 :: a8 :: a9 :: a10 :: a11 :: a12 :: a13 :: a14 :: a15 :: a16 :: a17 :: x :: d) = some (a0 :: a1 :: a2 :: a3 :: a4 :: a5 :: a6 :: a7 :: a8 :: a9 :: a10 :: a11 :: a12 :: a13 :: a14 :: a15 :: a16 :: a17 :: .val u :: d) := by
  unfold asg
  rw [if_pos (by simp)]
  rfl
theorem asg_19 {u : U} {x : SV} {a0 a1 a2 a3 a4 a5 a6 a7 a8 a9 a10 a11 a12 a13 a14 a15 a16 a17 a18 : SV} : asg (.nm 19) u (a0 :: a1 :: a2 :: a3 :: a4 :: a5 :: a6 :: a7 :: a8 :: a9 :: a10 :: a11 :: a12 :: a13 :: a14 :: a15 :: a16 :: a17 :: a18 :: x :: d) = some (a0 :: a1 :: a2 :: a3 :: a4 :: a5 :: a6 :: a7 :: a8 :: a9 :: a10 :: a11 :: a12 :: a13 :: a14 :: a15 :: a16 :: a17 :: a18 :: .val u :: d) := by
  unfold asg
  rw [if_pos (by simp)]
  rfl
theorem asg_20 {u : U} {x : SV} {a0 a1 a2 a3 a4 a5 a6 a7 a8 a9 a10 a11 a12 a13 a14 a15 a16 a17 a18 a19 : SV} : asg (.nm 20) u (a0 :: a1 :: a2 :: a3 :: a4 :: a5 :: a6 :: a7 :: a8 :: a9 :: a10 :: a11 :: a12 :: a13 :: a14 :: a15 :: a16 :: a17 :: a18 :: a19 :: x :: d) = some (a0 :: a1 :: a2 :: a3 :: a4 :: a5 :: a6 :: a7 :: a8 :: a9 :: a10 :: a11 :: a12 :: a13 :: a14 :: a15 :: a16 :: a17 :: a18 :: a19 :: .val u :: d) := by
  unfold asg
  rw [if_pos (by simp)]
  rfl
theorem asg_21 {u : U} {x : SV} {a0 a1 a2 a3 a4 a5 a6 a7 a8 a9 a10 a11 a12 a13 a14 a15 a16 a17 a18 a19 a20 : SV} : asg (.nm 21) u (a0 :: a1 :: a2 :: a3 :: a4 :: a5 :: a6 :: a7 :: a8 :: a9 :: a10 :: a11 :: a12 :: a13 :: a14 :: a15 :: a16 :: a17 :: a18 :: a19 :: a20 :: x :: d) = some (a0 :: a1 :: a2 :: a3 :: a4 :: a5 :: a6 :: a7 :: a8 :: a9 :: a10 :: a11 :: a12 :: a13 :: a14 :: a15 :: a16 :: a17 :: a18 :: a19 :: a20 :: .val u :: d) := by
  unfold asg
  rw [if_pos (by simp)]
  rfl
theorem asg_22 {u : U} {x : SV} {a0 a1 a2 a3 a4 a5 a6 a7 a8 a9 a10 a11 a12 a13 a14 a15 a16 a17 a18 a19 a20 a21 : SV} : asg (.nm 22) u (a0 :: a1 :: a2 :: a3 :: a4 :: a5 :: a6 :: a7 :: a8 :: a9 :: a10 :: a11 :: a12 :: a13 :: a14 :: a15 :: a16 :: a17 :: a18 :: a19 :: a20 :: a21 :: x :: d) = some (a0 :: a1 :: a2 :: a3 :: a4 :: a5 :: a6 :: a7 :: a8 :: a9 :: a10 :: a11 :: a12 :: a13 :: a14 :: a15 :: a16 :: a17 :: a18 :: a19 :: a20 :: a21 :: .val u :: d) := by
  unfold asg
  rw [if_pos (by simp)]
  rfl
theorem asg_23 {u : U} {x : SV} {a0 a1 a2 a3 a4 a5 a6 a7 a8 a9 a10 a11 a12 a13 a14 a15 a16 a17 a18 a19 a20 a21 a22 : SV} : asg (.nm 23) u (a0 :: a1 :: a2 :: a3 :: a4 :: a5 :: a6 :: a7 :: a8 :: a9 :: a10 :: a11 :: a12 :: a13 :: a14 :: a15 :: a16 :: a17 :: a18 :: a19 :: a20 :: a21 :: a22 :: x :: d) = some (a0 :: a1 :: a2 :: a3 :: a4 :: a5 :: a6 :: a7 :: a8 :: a9 :: a10 :: a11 :: a12 :: a13 :: a14 :: a15 :: a16 :: a17 :: a18 :: a19 :: a20 :: a21 :: a22 :: .val u :: d) := by
  unfold asg
  rw [if_pos (by simp)]
  rfl
theorem asg_24 {u : U} {x : SV} {a0 a1 a2 a3 a4 a5 a6 a7 a8 a9 a10 a11 a12 a13 a14 a15 a16 a17 a18 a19 a20 a21 a22 a23 : SV} : asg (.nm 24) u (a0 :: a1 :: a2 :: a3 :: a4 :: a5 :: a6 :: a7 :: a8 :: a9 :: a10 :: a11 :: a12 :: a13 :: a14 :: a15 :: a16 :: a17 :: a18 :: a19 :: a20 :: a21 :: a22 :: a23 :: x :: d) = some (a0 :: a1 :: a2 :: a3 :: a4 :: a5 :: a6 :: a7 :: a8 :: a9 :: a10 :: a11 :: a12 :: a13 :: a14 :: a15 :: a16 :: a17 :: a18 :: a19 :: a20 :: a21 :: a22 :: a23 :: .val u :: d) := by
  unfold asg
  rw [if_pos (by simp)]
  rfl
theorem asg_25 {u : U} {x : SV} {a0 a1 a2 a3 a4 a5 a6 a7 a8 a9 a10 a11 a12 a13 a14 a15 a16 a17 a18 a19 a20 a21 a22 a23 a24 : SV} : asg (.nm 25) u (a0 :: a1 :: a2 :: a3 :: a4 :: a5 :: a6 :: a7 :: a8 :: a9 :: a10 :: a11 :: a12 :: a13 :: a14 :: a15 :: a16 :: a17 :: a18 :: a19 :: a20 :: a21 :: a22 :: a23 :: a24 :: x :: d) = some (a0 :: a1 :: a2 :: a3 :: a4 :: a5 :: a6 :: a7 :: a8 :: a9 :: a10 :: a11 :: a12 :: a13 :: a14 :: a15 :: a16 :: a17 :: a18 :: a19 :: a20 :: a21 :: a22 :: a23 :: a24 :: .val u :: d) := by
  unfold asg
  rw [if_pos (by simp)]
  rfl
theorem asg_26 {u : U} {x : SV} {a0 a1 a2 a3 a4 a5 a6 a7 a8 a9 a10 a11 a12 a13 a14 a15 a16 a17 a18 a19 a20 a21 a22 a23 a24 a25 : SV} : asg (.nm 26) u (a0 :: a1 :: a2 :: a3 :: a4 :: a5 :: a6 :: a7 :: a8 :: a9 :: a10 :: a11 :: a12 :: a13 :: a14 :: a15 :: a16 :: a17 :: a18 :: a19 :: a20 :: a21 :: a22 :: a23 :: a24 :: a25 :: x :: d) = some (a0 :: a1 :: a2 :: a3 :: a4 :: a5 :: a6 :: a7 :: a8 :: a9 :: a10 :: a11 :: a12 :: a13 :: a14 :: a15 :: a16 :: a17 :: a18 :: a19 :: a20 :: a21 :: a22 :: a23 :: a24 :: a25 :: .val u :: d) := by
  unfold asg
  rw [if_pos (by simp)]
  rfl
theorem asg_27 {u : U} {x : SV} {a0 a1 a2 a3 a4 a5 a6 a7 a8 a9 a10 a11 a12 a13 a14 a15 a16 a17 a18 a19 a20 a21 a22 a23 a24 a25 a26 : SV} : asg (.nm 27) u (a0 :: a1 :: a2 :: a3 :: a4 :: a5 :: a6 :: a7 :: a8 :: a9 :: a10 :: a11 :: a12 :: a13 :: a14 :: a15 :: a16 :: a17 :: a18 :: a19 :: a20 :: a21 :: a22 :: a23 :: a24 :: a25 :: a26 :: x :: d) = some (a0 :: a1 :: a2 :: a3 :: a4 :: a5 :: a6 :: a7 :: a8 :: a9 :: a10 :: a11 :: a12 :: a13 :: a14 :: a15 :: a16 :: a17 :: a18 :: a19 :: a20 :: a21 :: a22 :: a23 :: a24 :: a25 :: a26 :: .val u :: d) := by
  unfold asg
  rw [if_pos (by simp)]
  rfl
theorem asg_28 {u : U} {x : SV} {a0 a1 a2 a3 a4 a5 a6 a7 a8 a9 a10 a11 a12 a13 a14 a15 a16 a17 a18 a19 a20 a21 a22 a23 a24 a25 a26 a27 : SV} : asg (.nm 28) u (a0 :: a1 :: a2 :: a3 :: a4 :: a5 :: a6 :: a7 :: a8 :: a9 :: a10 :: a11 :: a12 :: a13 :: a14 :: a15 :: a16 :: a17 :: a18 :: a19 :: a20 :: a21 :: a22 :: a23 :: a24 :: a25 :: a26 :: a27 :: x :: d) = some (a0 :: a1 :: a2 :: a3 :: a4 :: a5 :: a6 :: a7 :: a8 :: a9 :: a10 :: a11 :: a12 :: a13 :: a14 :: a15 :: a16 :: a17 :: a18 :: a19 :: a20 :: a21 :: a22 :: a23 :: a24 :: a25 :: a26 :: a27 :: .val u :: d) := by
  unfold asg
  rw [if_pos (by simp)]
  rfl
theorem asg_29 {u : U} {x : SV} {a0 a1 a2 a3 a4 a5 a6 a7 a8 a9 a10 a11 a12 a13 a14 a15 a16 a17 a18 a19 a20 a21 a22 a23 a24 a25 a26 a27 a28 : SV} : asg (.nm 29) u (a0 :: a1 :: a2 :: a3 :: a4 :: a5 :: a6 :: a7 :: a8 :: a9 :: a10 :: a11 :: a12 :: a13 :: a14 :: a15 :: a16 :: a17 :: a18 :: a19 :: a20 :: a21 :: a22 :: a23 :: a24 :: a25 :: a26 :: a27 :: a28 :: x :: d) = some (a0 :: a1 :: a2 :: a3 :: a4 :: a5 :: a6 :: a7 :: a8 :: a9 :: a10 :: a11 :: a12 :: a13 :: a14 :: a15 :: a16 :: a17 :: a18 :: a19 :: a20 :: a21 :: a22 :: a23 :: a24 :: a25 :: a26 :: a27 :: a28 :: .val u :: d) := by
  unfold asg
  rw [if_pos (by simp)]
  rfl
theorem dset_0 {α : Type} {y x : α} {l : List α} : List.set (x :: l) 0 y = y :: l := rfl
theorem dset_1 {α : Type} {y x : α} {a0 : α} {l : List α} : List.set (a0 :: x :: l) 1 y = a0 :: y :: l := rfl
theorem dset_2 {α : Type} {y x : α} {a0 a1 : α} {l : List α} : List.set (a0 :: a1 :: x :: l) 2 y = a0 :: a1 :: y :: l := rfl
theorem dset_3 {α : Type} {y x : α} {a0 a1 a2 : α} {l : List α} : List.set (a0 :: a1 :: a2 :: x :: l) 3 y = a0 :: a1 :: a2 :: y :: l := rfl
theorem dset_4 {α : Type} {y x : α} {a0 a1 a2 a3 : α} {l : List α} : List.set (a0 :: a1 :: a2 :: a3 :: x :: l) 4 y = a0 :: a1 :: a2 :: a3 :: y :: l := rfl
theorem dset_5 {α : Type} {y x : α} {a0 a1 a2 a3 a4 : α} {l : List α} : List.set (a0 :: a1 :: a2 :: a3 :: a4 :: x :: l) 5 y = a0 :: a1 :: a2 :: a3 :: a4 :: y :: l := rfl
theorem dset_6 {α : Type} {y x : α} {a0 a1 a2 a3 a4 a5 : α} {l : List α} : List.set (a0 :: a1 :: a2 :: a3 :: a4 :: a5 :: x :: l) 6 y = a0 :: a1 :: a2 :: a3 :: a4 :: a5 :: y :: l := rfl
theorem dset_7 {α : Type} {y x : α} {a0 a1 a2 a3 a4 a5 a6 : α} {l : List α} : List.set (a0 :: a1 :: a2 :: a3 :: a4 :: a5 :: a6 :: x :: l) 7 y = a0 :: a1 :: a2 :: a3 :: a4 :: a5 :: a6 :: y :: l := rfl
theorem dset_8 {α : Type} {y x : α} {a0 a1 a2 a3 a4 a5 a6 a7 : α} {l : List α} : List.set (a0 :: a1 :: a2 :: a3 :: a4 :: a5 :: a6 :: a7 :: x :: l) 8 y = a0 :: a1 :: a2 :: a3 :: a4 :: a5 :: a6 :: a7 :: y :: l := rfl
theorem dset_9 {α : Type} {y x : α} {a0 a1 a2 a3 a4 a5 a6 a7 a8 : α} {l : List α} : List.set (a0 :: a1 :: a2 :: a3 :: a4 :: a5 :: a6 :: a7 :: a8 :: x :: l) 9 y = a0 :: a1 :: a2 :: a3 :: a4 :: a5 :: a6 :: a7 :: a8 :: y :: l := rfl
theorem dset_10 {α : Type} {y x : α} {a0 a1 a2 a3 a4 a5 a6 a7 a8 a9 : α} {l : List α} : List.set (a0 :: a1 :: a2 :: a3 :: a4 :: a5 :: a6 :: a7 :: a8 :: a9 :: x :: l) 10 y = a0 :: a1 :: a2 :: a3 :: a4 :: a5 :: a6 :: a7 :: a8 :: a9 :: y :: l := rfl
theorem dset_11 {α : Type} {y x : α} {a0 a1 a2 a3 a4 a5 a6 a7 a8 a9 a10 : α} {l : List α} : List.set (a0 :: a1 :: a2 :: a3 :: a4 :: a5 :: a6 :: a7 :: a8 :: a9 :: a10 :: x :: l) 11 y = a0 :: a1 :: a2 :: a3 :: a4 :: a5 :: a6 :: a7 :: a8 :: a9 :: a10 :: y :: l := rfl
theorem dset_12 {α : Type} {y x : α} {a0 a1 a2 a3 a4 a5 a6 a7 a8 a9 a10 a11 : α} {l : List α} : List.set (a0 :: a1 :: a2 :: a3 :: a4 :: a5 :: a6 :: a7 :: a8 :: a9 :: a10 :: a11 :: x :: l) 12 y = a0 :: a1 :: a2 :: a3 :: a4 :: a5 :: a6 :: a7 :: a8 :: a9 :: a10 :: a11 :: y :: l := rfl
theorem dset_13 {α : Type} {y x : α} {a0 a1 a2 a3 a4 a5 a6 a7 a8 a9 a10 a11 a12 : α} {l : List α} : List.set (a0 :: a1 :: a2 :: a3 :: a4 :: a5 :: a6 :: a7 :: a8 :: a9 :: a10 :: a11 :: a12 :: x :: l) 13 y = a0 :: a1 :: a2 :: a3 :: a4 :: a5 :: a6 :: a7 :: a8 :: a9 :: a10 :: a11 :: a12 :: y :: l := rfl
theorem dset_14 {α : Type} {y x : α} {a0 a1 a2 a3 a4 a5 a6 a7 a8 a9 a10 a11 a12 a13 : α} {l : List α} : List.set (a0 :: a1 :: a2 :: a3 :: a4 :: a5 :: a6 :: a7 :: a8 :: a9 :: a10 :: a11 :: a12 :: a13 :: x :: l) 14 y = a0 :: a1 :: a2 :: a3 :: a4 :: a5 :: a6 :: a7 :: a8 :: a9 :: a10 :: a11 :: a12 :: a13 :: y :: l := rfl
theorem dset_15 {α : Type} {y x : α} {a0 a1 a2 a3 a4 a5 a6 a7 a8 a9 a10 a11 a12 a13 a14 : α} {l : List α} : List.set (a0 :: a1 :: a2 :: a3 :: a4 :: a5 :: a6 :: a7 :: a8 :: a9 :: a10 :: a11 :: a12 :: a13 :: a14 :: x :: l) 15 y = a0 :: a1 :: a2 :: a3 :: a4 :: a5 :: a6 :: a7 :: a8 :: a9 :: a10 :: a11 :: a12 :: a13 :: a14 :: y :: l := rfl
theorem dset_16 {α : Type} {y x : α} {a0 a1 a2 a3 a4 a5 a6 a7 a8 a9 a10 a11 a12 a13 a14 a15 : α} {l : List α} : List.set (a0 :: a1 :: a2 :: a3 :: a4 :: a5 :: a6 :: a7 :: a8 :: a9 :: a10 :: a11 :: a12 :: a13 :: a14 :: a15 :: x :: l) 16 y = a0 :: a1 :: a2 :: a3 :: a4 :: a5 :: a6 :: a7 :: a8 :: a9 :: a10 :: a11 :: a12 :: a13 :: a14 :: a15 :: y :: l := rfl
theorem dset_17 {α : Type} {y x : α} {a0 a1 a2 a3 a4 a5 a6 a7 a8 a9 a10 a11 a12 a13 a14 a15 a16 : α} {l : List α} : List.set (a0 :: a1 :: a2 :: a3 :: a4 :: a5 :: a6 :: a7 :: a8 :: a9 :: a10 :: a11 :: a12 :: a13 :: a14 :: a15 :: a16 :: x :: l) 17 y = a0 :: a1 :: a2 :: a3 :: a4 :: a5 :: a6 :: a7 :: a8 :: a9 :: a10 :: a11 :: a12 :: a13 :: a14 :: a15 :: a16 :: y :: l := rfl
theorem dset_18 {α : Type} {y x : α} {a0 a1 a2 a3 a4 a5 a6 a7 a8 a9 a10 a11 a12 a13 a14 a15 a16 a17 : α} {l : List α} : List.set (a0 :: a1 :: a2 :: a3 :: a4 :: a5 :: a6 :: a7 :: a8 :: a9 :: a10 :: a11 :: a12 :: a13 :: a14 :: a15 :: a16 :: a17 :: x :: l) 18 y = a0 :: a1 :: a2 :: a3 :: a4 :: a5 :: a6 :: a7 :: a8 :: a9 :: a10 :: a11 :: a12 :: a13 :: a14 :: a15 :: a16 :: a17 :: y :: l := rfl
theorem dset_19 {α : Type} {y x : α} {a0 a1 a2 a3 a4 a5 a6 a7 a8 a9 a10 a11 a12 a13 a14 a15 a16 a17 a18 : α} {l : List α} : List.set (a0 :: a1 :: a2 :: a3 :: a4 :: a5 :: a6 :: a7 :: a8 :: a9 :: a10 :: a11 :: a12 :: a13 :: a14 :: a15 :: a16 :: a17 :: a18 :: x :: l) 19 y = a0 :: a1 :: a2 :: a3 :: a4 :: a5 :: a6 :: a7 :: a8 :: a9 :: a10 :: a11 :: a12 :: a13 :: a14 :: a15 :: a16 :: a17 :: a18 :: y :: l := rfl
theorem dset_20 {α : Type} {y x : α} {a0 a1 a2 a3 a4 a5 a6 a7 a8 a9 a10 a11 a12 a13 a14 a15 a16 a17 a18 a19 : α} {l : List α} : List.set (a0 :: a1 :: a2 :: a3 :: a4 :: a5 :: a6 :: a7 :: a8 :: a9 :: a10 :: a11 :: a12 :: a13 :: a14 :: a15 :: a16 :: a17 :: a18 :: a19 :: x :: l) 20 y = a0 :: a1 :: a2 :: a3 :: a4 :: a5 :: a6 :: a7 :: a8 :: a9 :: a10 :: a11 :: a12 :: a13 :: a14 :: a15 :: a16 :: a17 :: a18 :: a19 :: y :: l := rfl
theorem dset_21 {α : Type} {y x : α} {a0 a1 a2 a3 a4 a5 a6 a7 a8 a9 a10 a11 a12 a13 a14 a15 a16 a17 a18 a19 a20 : α} {l : List α} : List.set (a0 :: a1 :: a2 :: a3 :: a4 :: a5 :: a6 :: a7 :: a8 :: a9 :: a10 :: a11 :: a12 :: a13 :: a14 :: a15 :: a16 :: a17 :: a18 :: a19 :: a20 :: x :: l) 21 y = a0 :: a1 :: a2 :: a3 :: a4 :: a5 :: a6 :: a7 :: a8 :: a9 :: a10 :: a11 :: a12 :: a13 :: a14 :: a15 :: a16 :: a17 :: a18 :: a19 :: a20 :: y :: l := rfl
theorem dset_22 {α : Type} {y x : α} {a0 a1 a2 a3 a4 a5 a6 a7 a8 a9 a10 a11 a12 a13 a14 a15 a16 a17 a18 a19 a20 a21 : α} {l : List α} : List.set (a0 :: a1 :: a2 :: a3 :: a4 :: a5 :: a6 :: a7 :: a8 :: a9 :: a10 :: a11 :: a12 :: a13 :: a14 :: a15 :: a16 :: a17 :: a18 :: a19 :: a20 :: a21 :: x :: l) 22 y = a0 :: a1 :: a2 :: a3 :: a4 :: a5 :: a6 :: a7 :: a8 :: a9 :: a10 :: a11 :: a12 :: a13 :: a14 :: a15 :: a16 :: a17 :: a18 :: a19 :: a20 :: a21 :: y :: l := rfl
theorem dset_23 {α : Type} {y x : α} {a0 a1 a2 a3 a4 a5 a6 a7 a8 a9 a10 a11 a12 a13 a14 a15 a16 a17 a18 a19 a20 a21 a22 : α} {l : List α} : List.set (a0 :: a1 :: a2 :: a3 :: a4 :: a5 :: a6 :: a7 :: a8 :: a9 :: a10 :: a11 :: a12 :: a13 :: a14 :: a15 :: a16 :: a17 :: a18 :: a19 :: a20 :: a21 :: a22 :: x :: l) 23 y = a0 :: a1 :: a2 :: a3 :: a4 :: a5 :: a6 :: a7 :: a8 :: a9 :: a10 :: a11 :: a12 :: a13 :: a14 :: a15 :: a16 :: a17 :: a18 :: a19 :: a20 :: a21 :: a22 :: y :: l := rfl
theorem dset_24 {α : Type} {y x : α} {a0 a1 a2 a3 a4 a5 a6 a7 a8 a9 a10 a11 a12 a13 a14 a15 a16 a17 a18 a19 a20 a21 a22 a23 : α} {l : List α} : List.set (a0 :: a1 :: a2 :: a3 :: a4 :: a5 :: a6 :: a7 :: a8 :: a9 :: a10 :: a11 :: a12 :: a13 :: a14 :: a15 :: a16 :: a17 :: a18 :: a19 :: a20 :: a21 :: a22 :: a23 :: x :: l) 24 y = a0 :: a1 :: a2 :: a3 :: a4 :: a5 :: a6 :: a7 :: a8 :: a9 :: a10 :: a11 :: a12 :: a13 :: a14 :: a15 :: a16 :: a17 :: a18 :: a19 :: a20 :: a21 :: a22 :: a23 :: y :: l := rfl
theorem dset_25 {α : Type} {y x : α} {a0 a1 a2 a3 a4 a5 a6 a7 a8 a9 a10 a11 a12 a13 a14 a15 a16 a17 a18 a19 a20 a21 a22 a23 a24 : α} {l : List α} : List.set (a0 :: a1 :: a2 :: a3 :: a4 :: a5 :: a6 :: a7 :: a8 :: a9 :: a10 :: a11 :: a12 :: a13 :: a14 :: a15 :: a16 :: a17 :: a18 :: a19 :: a20 :: a21 :: a22 :: a23 :: a24 :: x :: l) 25 y = a0 :: a1 :: a2 :: a3 :: a4 :: a5 :: a6 :: a7 :: a8 :: a9 :: a10 :: a11 :: a12 :: a13 :: a14 :: a15 :: a16 :: a17 :: a18 :: a19 :: a20 :: a21 :: a22 :: a23 :: a24 :: y :: l := rfl
theorem dset_26 {α : Type} {y x : α} {a0 a1 a2 a3 a4 a5 a6 a7 a8 a9 a10 a11 a12 a13 a14 a15 a16 a17 a18 a19 a20 a21 a22 a23 a24 a25 : α} {l : List α} : List.set (a0 :: a1 :: a2 :: a3 :: a4 :: a5 :: a6 :: a7 :: a8 :: a9 :: a10 :: a11 :: a12 :: a13 :: a14 :: a15 :: a16 :: a17 :: a18 :: a19 :: a20 :: a21 :: a22 :: a23 :: a24 :: a25 :: x :: l) 26 y = a0 :: a1 :: a2 :: a3 :: a4 :: a5 :: a6 :: a7 :: a8 :: a9 :: a10 :: a11 :: a12 :: a13 :: a14 :: a15 :: a16 :: a17 :: a18 :: a19 :: a20 :: a21 :: a22 :: a23 :: a24 :: a25 :: y :: l := rfl
theorem dset_27 {α : Type} {y x : α} {a0 a1 a2 a3 a4 a5 a6 a7 a8 a9 a10 a11 a12 a13 a14 a15 a16 a17 a18 a19 a20 a21 a22 a23 a24 a25 a26 : α} {l : List α} : List.set (a0 :: a1 :: a2 :: a3 :: a4 :: a5 :: a6 :: a7 :: a8 :: a9 :: a10 :: a11 :: a12 :: a13 :: a14 :: a15 :: a16 :: a17 :: a18 :: a19 :: a20 :: a21 :: a22 :: a23 :: a24 :: a25 :: a26 :: x :: l) 27 y = a0 :: a1 :: a2 :: a3 :: a4 :: a5 :: a6 :: a7 :: a8 :: a9 :: a10 :: a11 :: a12 :: a13 :: a14 :: a15 :: a16 :: a17 :: a18 :: a19 :: a20 :: a21 :: a22 :: a23 :: a24 :: a25 :: a26 :: y :: l := rfl
theorem dset_28 {α : Type} {y x : α} {a0 a1 a2 a3 a4 a5 a6 a7 a8 a9 a10 a11 a12 a13 a14 a15 a16 a17 a18 a19 a20 a21 a22 a23 a24 a25 a26 a27 : α} {l : List α} : List.set (a0 :: a1 :: a2 :: a3 :: a4 :: a5 :: a6 :: a7 :: a8 :: a9 :: a10 :: a11 :: a12 :: a13 :: a14 :: a15 :: a16 :: a17 :: a18 :: a19 :: a20 :: a21 :: a22 :: a23 :: a24 :: a25 :: a26 :: a27 :: x :: l) 28 y = a0 :: a1 :: a2 :: a3 :: a4 :: a5 :: a6 :: a7 :: a8 :: a9 :: a10 :: a11 :: a12 :: a13 :: a14 :: a15 :: a16 :: a17 :: a18 :: a19 :: a20 :: a21 :: a22 :: a23 :: a24 :: a25 :: a26 :: a27 :: y :: l := rfl
theorem dset_29 {α : Type} {y x : α} {a0 a1 a2 a3 a4 a5 a6 a7 a8 a9 a10 a11 a12 a13 a14 a15 a16 a17 a18 a19 a20 a21 a22 a23 a24 a25 a26 a27 a28 : α} {l : List α} : List.set (a0 :: a1 :: a2 :: a3 :: a4 :: a5 :: a6 :: a7 :: a8 :: a9 :: a10 :: a11 :: a12 :: a13 :: a14 :: a15 :: a16 :: a17 :: a18 :: a19 :: a20 :: a21 :: a22 :: a23 :: a24 :: a25 :: a26 :: a27 :: a28 :: x :: l) 29 y = a0 :: a1 :: a2 :: a3 :: a4 :: a5 :: a6 :: a7 :: a8 :: a9 :: a10 :: a11 :: a12 :: a13 :: a14 :: a15 :: a16 :: a17 :: a18 :: a19 :: a20 :: a21 :: a22 :: a23 :: a24 :: a25 :: a26 :: a27 :: a28 :: y :: l := rfl
theorem at_0 {α : Type} {x : α} {l : List α} : L2.atI (x :: l) 0 = some x := by
  unfold L2.atI L2.ixN
  rw [if_pos (by decide), if_pos (by simp only [List.length_cons]; omega)]
  rfl
theorem at_1 {α : Type} {x : α} {a0 : α} {l : List α} : L2.atI (a0 :: x :: l) 1 = some x := by
  unfold L2.atI L2.ixN
  rw [if_pos (by decide), if_pos (by simp only [List.length_cons]; omega)]
  rfl
theorem at_2 {α : Type} {x : α} {a0 a1 : α} {l : List α} : L2.atI (a0 :: a1 :: x :: l) 2 = some x := by
  unfold L2.atI L2.ixN
  rw [if_pos (by decide), if_pos (by simp only [List.length_cons]; omega)]
  rfl
theorem at_3 {α : Type} {x : α} {a0 a1 a2 : α} {l : List α} : L2.atI (a0 :: a1 :: a2 :: x :: l) 3 = some x := by
  unfold L2.atI L2.ixN
  rw [if_pos (by decide), if_pos (by simp only [List.length_cons]; omega)]
  rfl
theorem at_4 {α : Type} {x : α} {a0 a1 a2 a3 : α} {l : List α} : L2.atI (a0 :: a1 :: a2 :: a3 :: x :: l) 4 = some x := by
  unfold L2.atI L2.ixN
  rw [if_pos (by decide), if_pos (by simp only [List.length_cons]; omega)]
  rfl
theorem at_5 {α : Type} {x : α} {a0 a1 a2 a3 a4 : α} {l : List α} : L2.atI (a0 :: a1 :: a2 :: a3 :: a4 :: x :: l) 5 = some x := by
  unfold L2.atI L2.ixN
  rw [if_pos (by decide), if_pos (by simp only [List.length_cons]; omega)]
  rfl
theorem at_6 {α : Type} {x : α} {a0 a1 a2 a3 a4 a5 : α} {l : List α} : L2.atI (a0 :: a1 :: a2 :: a3 :: a4 :: a5 :: x :: l) 6 = some x := by
  unfold L2.atI L2.ixN
  rw [if_pos (by decide), if_pos (by simp only [List.length_cons]; omega)]
  rfl
theorem at_7 {α : Type} {x : α} {a0 a1 a2 a3 a4 a5 a6 : α} {l : List α} : L2.atI (a0 :: a1 :: a2 :: a3 :: a4 :: a5 :: a6 :: x :: l) 7 = some x := by
  unfold L2.atI L2.ixN
  rw [if_pos (by decide), if_pos (by simp only [List.length_cons]; omega)]
  rfl
theorem at_8 {α : Type} {x : α} {a0 a1 a2 a3 a4 a5 a6 a7 : α} {l : List α} : L2.atI (a0 :: a1 :: a2 :: a3 :: a4 :: a5 :: a6 :: a7 :: x :: l) 8 = some x := by
  unfold L2.atI L2.ixN
  rw [if_pos (by decide), if_pos (by simp only [List.length_cons]; omega)]
  rfl
theorem at_9 {α : Type} {x : α} {a0 a1 a2 a3 a4 a5 a6 a7 a8 : α} {l : List α} : L2.atI (a0 :: a1 :: a2 :: a3 :: a4 :: a5 :: a6 :: a7 :: a8 :: x :: l) 9 = some x := by
  unfold L2.atI L2.ixN
  rw [if_pos (by decide), if_pos (by simp only [List.length_cons]; omega)]
  rfl
theorem at_10 {α : Type} {x : α} {a0 a1 a2 a3 a4 a5 a6 a7 a8 a9 : α} {l : List α} : L2.atI (a0 :: a1 :: a2 :: a3 :: a4 :: a5 :: a6 :: a7 :: a8 :: a9 :: x :: l) 10 = some x := by
  unfold L2.atI L2.ixN
  rw [if_pos (by decide), if_pos (by simp only [List.length_cons]; omega)]
  rfl
theorem at_11 {α : Type} {x : α} {a0 a1 a2 a3 a4 a5 a6 a7 a8 a9 a10 : α} {l : List α} : L2.atI (a0 :: a1 :: a2 :: a3 :: a4 :: a5 :: a6 :: a7 :: a8 :: a9 :: a10 :: x :: l) 11 = some x := by
  unfold L2.atI L2.ixN
  rw [if_pos (by decide), if_pos (by simp only [List.length_cons]; omega)]
  rfl
theorem at_12 {α : Type} {x : α} {a0 a1 a2 a3 a4 a5 a6 a7 a8 a9 a10 a11 : α} {l : List α} : L2.atI (a0 :: a1 :: a2 :: a3 :: a4 :: a5 :: a6 :: a7 :: a8 :: a9 :: a10 :: a11 :: x :: l) 12 = some x := by
  unfold L2.atI L2.ixN
  rw [if_pos (by decide), if_pos (by simp only [List.length_cons]; omega)]
  rfl
theorem at_13 {α : Type} {x : α} {a0 a1 a2 a3 a4 a5 a6 a7 a8 a9 a10 a11 a12 : α} {l : List α} : L2.atI (a0 :: a1 :: a2 :: a3 :: a4 :: a5 :: a6 :: a7 :: a8 :: a9 :: a10 :: a11 :: a12 :: x :: l) 13 = some x := by
  unfold L2.atI L2.ixN
  rw [if_pos (by decide), if_pos (by simp only [List.length_cons]; omega)]
  rfl
theorem at_14 {α : Type} {x : α} {a0 a1 a2 a3 a4 a5 a6 a7 a8 a9 a10 a11 a12 a13 : α} {l : List α} : L2.atI (a0 :: a1 :: a2 :: a3 :: a4 :: a5 :: a6 :: a7 :: a8 :: a9 :: a10 :: a11 :: a12 :: a13 :: x :: l) 14 = some x := by
  unfold L2.atI L2.ixN
  rw [if_pos (by decide), if_pos (by simp only [List.length_cons]; omega)]
  rfl
theorem at_15 {α : Type} {x : α} {a0 a1 a2 a3 a4 a5 a6 a7 a8 a9 a10 a11 a12 a13 a14 : α} {l : List α} : L2.atI (a0 :: a1 :: a2 :: a3 :: a4 :: a5 :: a6 :: a7 :: a8 :: a9 :: a10 :: a11 :: a12 :: a13 :: a14 :: x :: l) 15 = some x := by
  unfold L2.atI L2.ixN
  rw [if_pos (by decide), if_pos (by simp only [List.length_cons]; omega)]
  rfl
/-! ### loops, shut -/
theorem whl_T {C : Ctx} {c : Ts} {b : List Stm} (I : Nat → Env → Gp → Prop) {m : Nat} (h0 : I m d G) (hm : m < FUEL)
    (hs : ∀ m d G, I m d G → SatT (tst C L c d G) (fun r G1 => Br r (FSatT (exB C L b d G1) ⟨fun d G => ∃ k < m, I k d G, K.rt, K.nx, fun d G => ∃ k < m, I k d G, K.ex⟩ ()) (K.nx d G1) () ()) (fun c fs G => K.ex c fs d G) ()) : FSatT (whlL (tstF C L c) (exBF C L b) FUEL d G) K () :=
  whl_by I h0 hm hs
theorem for_T {C : Ctx} {b : List Stm} {tg : Tg} {us : List U} {m : Nat} (hm : m = us.length) (I : Nat → Env → Gp → Prop) (h0 : I 0 d G)
    (hs : ∀ i (hi : i < us.length) d G, I i d G → FSat (bodyF C L b tg us[i] d G) ⟨fun d G => I (i + 1) d G, K.rt, K.nx, fun d G => I (i + 1) d G, K.ex⟩) (he : ∀ d G, I us.length d G → K.nx d G) : FSatT (forL (.its us) (bodyF C L b tg) m 0 d G) K () :=
  for_its hm I h0 hs he
theorem forl_T {C : Ctx} {b : List Stm} {tg : Tg} {a : Nat} {us : List U} {m : Nat} (hm : m = us.length) (I : Nat → Env → Gp → Prop) (h0 : I 0 d G) (hI : ∀ i d G, I i d G → G[a]? = some (.lst us))
    (hs : ∀ i (hi : i < us.length) d G, I i d G → FSat (bodyF C L b tg us[i] d G) ⟨fun d G => I (i + 1) d G, K.rt, K.nx, fun d G => I (i + 1) d G, K.ex⟩) (he : ∀ d G, I us.length d G → K.nx d G) : FSatT (forL (.live a) (bodyF C L b tg) m 0 d G) K () :=
  for_live hm I h0 hI hs he
theorem lc_T {C : Ctx} {cnd : List Ts} {elt : Ex} {tg : Tg} {us : List U} {m : Nat} {P : List U → Gp → Prop} (hm : m = us.length) (I : Nat → List U → Gp → Prop) (h0 : I 0 [] G)
    (hs : ∀ i (hi : i < us.length) ws G, I i ws G → Sat (bodyL C L cnd elt tg d us[i] G) (fun o G1 => I (i + 1) (ws ++ o.toList) G1) noE) (he : ∀ ws G, I us.length ws G → P ws G) : SatT (lcLoop (.its us) (bodyL C L cnd elt tg d) m 0 G) P noE () :=
  lc_its hm I h0 hs he
theorem lcm_T {C : Ctx} {cnd : List Ts} {elt : Ex} {tg : Tg} {us : List U} {m : Nat} {P : List U → Gp → Prop} (hm : m = us.length) (g : U → Option U) (hb : ∀ x ∈ us, Sat (bodyL C L cnd elt tg d x G) (fun o G1 => o = g x ∧ G1 = G) noE) (hp : P (us.filterMap g) G) : SatT (lcLoop (.its us) (bodyL C L cnd elt tg d) m 0 G) P noE () := by
  refine lc_T hm (fun i ws G1 => ws = (us.take i).filterMap g ∧ G1 = G) ⟨by simp, rfl⟩ ?_ ?_
  · rintro i hi ws G1 ⟨rfl, rfl⟩
    refine (hb us[i] (List.getElem_mem hi)).mono ?_ (fun _ _ _ h => h)
    rintro o G2 ⟨rfl, rfl⟩
    refine ⟨?_, rfl⟩
    rw [List.take_succ_eq_append_getElem hi, List.filterMap_append]
    congr 1
  · rintro ws G1 ⟨rfl, rfl⟩
    rw [List.take_length]
    exact hp
theorem lcl_T {C : Ctx} {cnd : List Ts} {elt : Ex} {tg : Tg} {a : Nat} {us : List U} {m : Nat} {P : List U → Gp → Prop} (hm : m = us.length) (I : Nat → List U → Gp → Prop) (h0 : I 0 [] G) (hI : ∀ i ws G, I i ws G → G[a]? = some (.lst us))
    (hs : ∀ i (hi : i < us.length) ws G, I i ws G → Sat (bodyL C L cnd elt tg d us[i] G) (fun o G1 => I (i + 1) (ws ++ o.toList) G1) noE) (he : ∀ ws G, I us.length ws G → P ws G) : SatT (lcLoop (.live a) (bodyL C L cnd elt tg d) m 0 G) P noE () :=
  lc_live hm I h0 hI hs he
end
end PV
set_option Elab.async false
set_option linter.all false
set_option maxRecDepth 100000
set_option maxHeartbeats 4000000
/-! PyDraw: the draws: a take gives a whole number from 0 to many - 1, and changes the state alone. -/
namespace PV
open PySem
local macro_rules | `(tactic| o_shape) => `(tactic| simp -dsimp only [↓m_br1, m_br1, ↓m_br0, m_br0, ↓m_brn, m_brn, ↓m_ok, m_ok, ↓m_exn, ↓m_bad, m_bad, ↓m_bind, ↓m_ofO, m_ofO, ↓m_site, m_site, ↓m_some, m_some, ↓m_none, m_none, ↓m_map, m_map, ↓m_obind, m_obind, ↓m_oite, m_oite, ↓m_someP, m_someP, ↓m_noneP, m_noneP, ↓m_bindP, m_bindP, ↓m_someW, m_someW, ↓m_noneW, m_noneW, ↓m_bindW, m_bindW, ↓m_iteW, m_iteW, ↓m_nm, ↓m_cI, ↓m_cS, ↓m_cB, ↓m_cN, ↓m_gl, ↓m_bin, ↓m_neg, ↓m_cmp, ↓m_cmp2, ↓m_and1, ↓m_or1, ↓m_and2, ↓m_or2, ↓m_not, ↓m_ite, m_ite, ↓m_ife, ↓m_call, ↓m_mk, ↓m_meth, ↓m_bif, ↓m_isi, ↓m_bm, ↓m_attr, ↓m_xat, ↓m_xis, ↓m_sub, ↓m_slc, ↓m_tup, ↓m_lst, ↓m_dct0, ↓m_dct, ↓m_ep0, ↓m_ep1, ↓m_lc, ↓l_body, ↓f_body, ↓m_es0, ↓m_es1, ↓m_eo0, ↓m_eo1, ↓m_te, ↓m_tnot, ↓m_tand1, ↓m_tor1, ↓m_tand2, ↓m_tor2, ↓m_ts0, ↓m_ts1, ↓m_b0, ↓m_app1, ↓m_app0, ↓m_iff, ↓m_set, ↓m_setI, ↓m_setF, ↓m_aug, ↓m_exp, ↓m_ret, ↓m_retN, ↓m_pass, ↓m_brk, ↓m_cont, ↓m_whl, ↓m_for, ↓m_raise, ↓m_try, v_len, ↓v_len, v_all, ↓v_all, v_any, ↓v_any, v_intb, ↓v_intb, v_inti, ↓v_inti, v_lenT, ↓v_lenT, v_lenS, ↓v_lenS, v_lenR, ↓v_lenR, v_lenCl, ↓v_lenCl, v_lenCd, ↓v_lenCd, v_lat, ↓v_lat, v_lstC, ↓v_lstC, v_seqT, ↓v_seqT, v_seqR, ↓v_seqR, v_asI, ↓v_asI, v_asB, ↓v_asB, v_asR, ↓v_asR, v_trB, ↓v_trB, v_trN, ↓v_trN, v_trI, ↓v_trI, v_trT, ↓v_trT, v_trR, ↓v_trR, v_truCl, ↓v_truCl, v_truCd, ↓v_truCd, v_subT, ↓v_subT, v_subS, ↓v_subS, v_subRI, ↓v_subRI, v_subRS, ↓v_subRS, v_subCIl, ↓v_subCIl, v_subCId, ↓v_subCId, v_subCSd, ↓v_subCSd, v_setRI, ↓v_setRI, v_setRS, ↓v_setRS, v_setCIl, ↓v_setCIl, v_setCId, ↓v_setCId, v_setCSd, ↓v_setCSd, v_attr, ↓v_attr, v_atC, ↓v_atC, v_insC, ↓v_insC, v_emD, ↓v_emD, v_keyI, ↓v_keyI, v_keyS, ↓v_keyS, v_isi_bool, ↓v_isi_bool, v_isi_int, ↓v_isi_int, v_isi_str, ↓v_isi_str, v_isi_list, ↓v_isi_list, v_isi_tuple, ↓v_isi_tuple, v_isi_dict, ↓v_isi_dict, v_memS, ↓v_memS, v_new, ↓v_new, v_isN, ↓v_isN, v_isB, ↓v_isB, v_isI, ↓v_isI, v_isS, ↓v_isS, v_isT, ↓v_isT, v_isR, ↓v_isR, v_isCl, ↓v_isCl, v_isCd, ↓v_isCd, v_app, ↓v_app, v_appC, ↓v_appC, v_join, ↓v_join, v_upper, ↓v_upper, v_bmA, ↓v_bmA, v_bmJ, ↓v_bmJ, v_bmU, ↓v_bmU, v_slcT, ↓v_slcT, v_slcS, ↓v_slcS, v_slcR, ↓v_slcR, v_addI, ↓v_addI, v_subI, ↓v_subI, v_mulI, ↓v_mulI, v_mulS, ↓v_mulS, v_divI, ↓v_divI, v_modI, ↓v_modI, v_powI, ↓v_powI, v_addS, ↓v_addS, v_addT, ↓v_addT, v_addL, ↓v_addL, v_augA, ↓v_augA, v_augS, ↓v_augS, v_eq, ↓v_eq, v_ne, ↓v_ne, v_is, ↓v_is, v_isnt, ↓v_isnt, v_in, ↓v_in, v_notin, ↓v_notin, v_lt, ↓v_lt, v_le, ↓v_le, v_gt, ↓v_gt, v_ge, ↓v_ge, v_isNonN, ↓v_isNonN, v_isNonB, ↓v_isNonB, v_isNonI, ↓v_isNonI, v_isNonS, ↓v_isNonS, v_isNonT, ↓v_isNonT, v_isNonR, ↓v_isNonR, v_memT, ↓v_memT, v_memR, ↓v_memR, v_memCl, ↓v_memCl, v_memCd, ↓v_memCd, v_walkT, ↓v_walkT, v_walkR, ↓v_walkR, v_walkR2, ↓v_walkR2, v_walkS, ↓v_walkS, v_walkET, ↓v_walkET, v_walkL, ↓v_walkL, v_walkE, ↓v_walkE, v_walkCl, ↓v_walkCl, v_walkCEl, ↓v_walkCEl, v_ix, ↓v_ix, v_wipe0, ↓v_wipe0, v_wipe1, ↓v_wipe1, v_eqNN, ↓v_eqNN, v_eqNB, ↓v_eqNB, v_eqNI, ↓v_eqNI, v_eqNS, ↓v_eqNS, v_eqNT, ↓v_eqNT, v_eqBN, ↓v_eqBN, v_eqBB, ↓v_eqBB, v_eqBI, ↓v_eqBI, v_eqBS, ↓v_eqBS, v_eqBT, ↓v_eqBT, v_eqIN, ↓v_eqIN, v_eqIB, ↓v_eqIB, v_eqII, ↓v_eqII, v_eqIS, ↓v_eqIS, v_eqIT, ↓v_eqIT, v_eqSN, ↓v_eqSN, v_eqSB, ↓v_eqSB, v_eqSI, ↓v_eqSI, v_eqSS, ↓v_eqSS, v_eqST, ↓v_eqST, v_eqTN, ↓v_eqTN, v_eqTB, ↓v_eqTB, v_eqTI, ↓v_eqTI, v_eqTS, ↓v_eqTS, v_eqTT, ↓v_eqTT, ↓m_eqL0, m_eqL0, ↓m_eqL1, m_eqL1, ↓m_eqL2, m_eqL2, ↓m_eqL3, m_eqL3, v_neU, ↓v_neU, v_neSS, ↓v_neSS, v_neII, ↓v_neII, v_neTT, ↓v_neTT, v_pf0, ↓v_pf0, v_pf1, ↓v_pf1, v_pf2, ↓v_pf2, v_lk1, ↓v_lk1, v_lk2, ↓v_lk2, v_lk0, ↓v_lk0, v_scr, ↓v_scr, v_scrV, ↓v_scrV, v_scrN, ↓v_scrN, v_scrE, ↓v_scrE, v_six0, ↓v_six0, v_six1, ↓v_six1, v_setNew, ↓v_setNew, v_putK1, ↓v_putK1, v_osq, ↓v_osq, v_dctN, ↓v_dctN, v_dctB, ↓v_dctB, v_dctI, ↓v_dctI, v_dctS, ↓v_dctS, v_dctT, ↓v_dctT, v_asgT, ↓v_asgT, v_asgs0, ↓v_asgs0, v_asgs1, ↓v_asgs1, v_bindP0, ↓v_bindP0, v_bindP1, ↓v_bindP1, v_bindP2, ↓v_bindP2, slot_0, slot_1, slot_2, slot_3, slot_4, slot_5, slot_6, slot_7, slot_8, slot_9, slot_10, slot_11, slot_12, slot_13, slot_14, slot_15, slot_16, slot_17, slot_18, slot_19, slot_20, slot_21, slot_22, slot_23, slot_24, slot_25, slot_26, slot_27, slot_28, slot_29, exn_0, exn_1, exn_2, exn_3, exn_4, exn_5, exn_6, exn_7, exn_8, exn_9, exn_10, exn_11, exn_12, exn_13, exn_14, exn_15, exn_16, exn_17, exn_18, exn_19, exn_20, exn_21, exn_22, exn_23, exn_24, exn_25, exn_26, exn_27, exn_28, exn_29, asg_0, asg_1, asg_2, asg_3, asg_4, asg_5, asg_6, asg_7, asg_8, asg_9, asg_10, asg_11, asg_12, asg_13, asg_14, asg_15, asg_16, asg_17, asg_18, asg_19, asg_20, asg_21, asg_22, asg_23, asg_24, asg_25, asg_26, asg_27, asg_28, asg_29, dset_0, dset_1, dset_2, dset_3, dset_4, dset_5, dset_6, dset_7, dset_8, dset_9, dset_10, dset_11, dset_12, dset_13, dset_14, dset_15, dset_16, dset_17, dset_18, dset_19, dset_20, dset_21, dset_22, dset_23, dset_24, dset_25, dset_26, dset_27, dset_28, dset_29, at_0, at_1, at_2, at_3, at_4, at_5, at_6, at_7, at_8, at_9, at_10, at_11, at_12, at_13, at_14, at_15, List.length_cons, List.length_nil, Option.bind_some, Option.bind_none, Option.map_some, Option.map_none, decide_true, decide_false, Bool.not_true, Bool.not_false, Bool.and_true, Bool.true_and, Bool.and_false, Bool.false_and, Bool.or_true, Bool.true_or, Bool.or_false, Bool.false_or, List.isEmpty_nil, List.isEmpty_cons, Option.isSome_some, Option.isNone_some, Option.isSome_none, Option.isNone_none, List.nil_append, List.cons_append, beq_self_eq_true, and_true, true_and, m_setH, List.map_cons, List.map_nil, eq_self, lim_eq, List.length_range, dep_eq, List.getElem?_set_self, List.getElem?_set_ne, List.set_set, List.length_set, ne_eq, not_false_eq_true, List.length_map, Int.reduceLT, Int.reduceLE, Int.reduceEq, Int.reduceNe, Int.reduceAdd, Int.reduceSub, Int.reduceMul, Int.reduceNeg, Int.reducePow, Int.reduceToNat, Nat.reduceAdd, Nat.reduceSub, Nat.reduceMul, Nat.reduceLT, Nat.reduceLeDiff, Nat.reduceEqDiff, String.reduceEq, String.reduceBEq, String.reduceBNe, ↓reduceIte, Int.reduceBEq, Int.reduceBNe, Nat.reduceBEq, Int.cast_ofNat_Int, Int.toNat_natCast, *])
local macro_rules | `(tactic| o_readsAll) => `(tactic| repeat (first | o_shape | refine br_mul (by omega) ?_ | refine br_div (by omega) ?_ | refine br_pow (by omega) ?_ | refine br_dec (by omega) ?_ | refine br_decn (by omega) ?_))
local macro_rules | `(tactic| o_reads) => `(tactic| repeat' (first | o_shape | refine br_mul (by omega) ?_ | refine br_div (by omega) ?_ | refine br_pow (by omega) ?_ | refine br_dec (by omega) ?_ | refine br_decn (by omega) ?_ | refine br_of (fun _ => ?_) (fun _ => ?_)))
local macro_rules | `(tactic| wide_line with $t:term) => `(tactic| simp -dsimp only [↓m_br1, m_br1, ↓m_br0, m_br0, ↓m_brn, m_brn, ↓m_ok, m_ok, ↓m_exn, ↓m_bad, m_bad, ↓m_bind, ↓m_ofO, m_ofO, ↓m_site, m_site, ↓m_some, m_some, ↓m_none, m_none, ↓m_map, m_map, ↓m_obind, m_obind, ↓m_oite, m_oite, ↓m_someP, m_someP, ↓m_noneP, m_noneP, ↓m_bindP, m_bindP, ↓m_someW, m_someW, ↓m_noneW, m_noneW, ↓m_bindW, m_bindW, ↓m_iteW, m_iteW, ↓m_nm, ↓m_cI, ↓m_cS, ↓m_cB, ↓m_cN, ↓m_gl, ↓m_bin, ↓m_neg, ↓m_cmp, ↓m_cmp2, ↓m_and1, ↓m_or1, ↓m_and2, ↓m_or2, ↓m_not, ↓m_ite, m_ite, ↓m_ife, ↓m_call, ↓m_mk, ↓m_meth, ↓m_bif, ↓m_isi, ↓m_bm, ↓m_attr, ↓m_xat, ↓m_xis, ↓m_sub, ↓m_slc, ↓m_tup, ↓m_lst, ↓m_dct0, ↓m_dct, ↓m_ep0, ↓m_ep1, ↓m_lc, ↓l_body, ↓f_body, ↓m_es0, ↓m_es1, ↓m_eo0, ↓m_eo1, ↓m_te, ↓m_tnot, ↓m_tand1, ↓m_tor1, ↓m_tand2, ↓m_tor2, ↓m_ts0, ↓m_ts1, ↓m_b0, ↓m_app1, ↓m_app0, ↓m_iff, ↓m_set, ↓m_setI, ↓m_setF, ↓m_aug, ↓m_exp, ↓m_ret, ↓m_retN, ↓m_pass, ↓m_brk, ↓m_cont, ↓m_whl, ↓m_for, ↓m_raise, ↓m_try, v_len, ↓v_len, v_all, ↓v_all, v_any, ↓v_any, v_intb, ↓v_intb, v_inti, ↓v_inti, v_lenT, ↓v_lenT, v_lenS, ↓v_lenS, v_lenR, ↓v_lenR, v_lenCl, ↓v_lenCl, v_lenCd, ↓v_lenCd, v_lat, ↓v_lat, v_lstC, ↓v_lstC, v_seqT, ↓v_seqT, v_seqR, ↓v_seqR, v_asI, ↓v_asI, v_asB, ↓v_asB, v_asR, ↓v_asR, v_trB, ↓v_trB, v_trN, ↓v_trN, v_trI, ↓v_trI, v_trT, ↓v_trT, v_trR, ↓v_trR, v_truCl, ↓v_truCl, v_truCd, ↓v_truCd, v_subT, ↓v_subT, v_subS, ↓v_subS, v_subRI, ↓v_subRI, v_subRS, ↓v_subRS, v_subCIl, ↓v_subCIl, v_subCId, ↓v_subCId, v_subCSd, ↓v_subCSd, v_setRI, ↓v_setRI, v_setRS, ↓v_setRS, v_setCIl, ↓v_setCIl, v_setCId, ↓v_setCId, v_setCSd, ↓v_setCSd, v_attr, ↓v_attr, v_atC, ↓v_atC, v_insC, ↓v_insC, v_emD, ↓v_emD, v_keyI, ↓v_keyI, v_keyS, ↓v_keyS, v_isi_bool, ↓v_isi_bool, v_isi_int, ↓v_isi_int, v_isi_str, ↓v_isi_str, v_isi_list, ↓v_isi_list, v_isi_tuple, ↓v_isi_tuple, v_isi_dict, ↓v_isi_dict, v_memS, ↓v_memS, v_new, ↓v_new, v_isN, ↓v_isN, v_isB, ↓v_isB, v_isI, ↓v_isI, v_isS, ↓v_isS, v_isT, ↓v_isT, v_isR, ↓v_isR, v_isCl, ↓v_isCl, v_isCd, ↓v_isCd, v_app, ↓v_app, v_appC, ↓v_appC, v_join, ↓v_join, v_upper, ↓v_upper, v_bmA, ↓v_bmA, v_bmJ, ↓v_bmJ, v_bmU, ↓v_bmU, v_slcT, ↓v_slcT, v_slcS, ↓v_slcS, v_slcR, ↓v_slcR, v_addI, ↓v_addI, v_subI, ↓v_subI, v_mulI, ↓v_mulI, v_mulS, ↓v_mulS, v_divI, ↓v_divI, v_modI, ↓v_modI, v_powI, ↓v_powI, v_addS, ↓v_addS, v_addT, ↓v_addT, v_addL, ↓v_addL, v_augA, ↓v_augA, v_augS, ↓v_augS, v_eq, ↓v_eq, v_ne, ↓v_ne, v_is, ↓v_is, v_isnt, ↓v_isnt, v_in, ↓v_in, v_notin, ↓v_notin, v_lt, ↓v_lt, v_le, ↓v_le, v_gt, ↓v_gt, v_ge, ↓v_ge, v_isNonN, ↓v_isNonN, v_isNonB, ↓v_isNonB, v_isNonI, ↓v_isNonI, v_isNonS, ↓v_isNonS, v_isNonT, ↓v_isNonT, v_isNonR, ↓v_isNonR, v_memT, ↓v_memT, v_memR, ↓v_memR, v_memCl, ↓v_memCl, v_memCd, ↓v_memCd, v_walkT, ↓v_walkT, v_walkR, ↓v_walkR, v_walkR2, ↓v_walkR2, v_walkS, ↓v_walkS, v_walkET, ↓v_walkET, v_walkL, ↓v_walkL, v_walkE, ↓v_walkE, v_walkCl, ↓v_walkCl, v_walkCEl, ↓v_walkCEl, v_ix, ↓v_ix, v_wipe0, ↓v_wipe0, v_wipe1, ↓v_wipe1, v_eqNN, ↓v_eqNN, v_eqNB, ↓v_eqNB, v_eqNI, ↓v_eqNI, v_eqNS, ↓v_eqNS, v_eqNT, ↓v_eqNT, v_eqBN, ↓v_eqBN, v_eqBB, ↓v_eqBB, v_eqBI, ↓v_eqBI, v_eqBS, ↓v_eqBS, v_eqBT, ↓v_eqBT, v_eqIN, ↓v_eqIN, v_eqIB, ↓v_eqIB, v_eqII, ↓v_eqII, v_eqIS, ↓v_eqIS, v_eqIT, ↓v_eqIT, v_eqSN, ↓v_eqSN, v_eqSB, ↓v_eqSB, v_eqSI, ↓v_eqSI, v_eqSS, ↓v_eqSS, v_eqST, ↓v_eqST, v_eqTN, ↓v_eqTN, v_eqTB, ↓v_eqTB, v_eqTI, ↓v_eqTI, v_eqTS, ↓v_eqTS, v_eqTT, ↓v_eqTT, ↓m_eqL0, m_eqL0, ↓m_eqL1, m_eqL1, ↓m_eqL2, m_eqL2, ↓m_eqL3, m_eqL3, v_neU, ↓v_neU, v_neSS, ↓v_neSS, v_neII, ↓v_neII, v_neTT, ↓v_neTT, v_pf0, ↓v_pf0, v_pf1, ↓v_pf1, v_pf2, ↓v_pf2, v_lk1, ↓v_lk1, v_lk2, ↓v_lk2, v_lk0, ↓v_lk0, v_scr, ↓v_scr, v_scrV, ↓v_scrV, v_scrN, ↓v_scrN, v_scrE, ↓v_scrE, v_six0, ↓v_six0, v_six1, ↓v_six1, v_setNew, ↓v_setNew, v_putK1, ↓v_putK1, v_osq, ↓v_osq, v_dctN, ↓v_dctN, v_dctB, ↓v_dctB, v_dctI, ↓v_dctI, v_dctS, ↓v_dctS, v_dctT, ↓v_dctT, v_asgT, ↓v_asgT, v_asgs0, ↓v_asgs0, v_asgs1, ↓v_asgs1, v_bindP0, ↓v_bindP0, v_bindP1, ↓v_bindP1, v_bindP2, ↓v_bindP2, slot_0, slot_1, slot_2, slot_3, slot_4, slot_5, slot_6, slot_7, slot_8, slot_9, slot_10, slot_11, slot_12, slot_13, slot_14, slot_15, slot_16, slot_17, slot_18, slot_19, slot_20, slot_21, slot_22, slot_23, slot_24, slot_25, slot_26, slot_27, slot_28, slot_29, exn_0, exn_1, exn_2, exn_3, exn_4, exn_5, exn_6, exn_7, exn_8, exn_9, exn_10, exn_11, exn_12, exn_13, exn_14, exn_15, exn_16, exn_17, exn_18, exn_19, exn_20, exn_21, exn_22, exn_23, exn_24, exn_25, exn_26, exn_27, exn_28, exn_29, asg_0, asg_1, asg_2, asg_3, asg_4, asg_5, asg_6, asg_7, asg_8, asg_9, asg_10, asg_11, asg_12, asg_13, asg_14, asg_15, asg_16, asg_17, asg_18, asg_19, asg_20, asg_21, asg_22, asg_23, asg_24, asg_25, asg_26, asg_27, asg_28, asg_29, dset_0, dset_1, dset_2, dset_3, dset_4, dset_5, dset_6, dset_7, dset_8, dset_9, dset_10, dset_11, dset_12, dset_13, dset_14, dset_15, dset_16, dset_17, dset_18, dset_19, dset_20, dset_21, dset_22, dset_23, dset_24, dset_25, dset_26, dset_27, dset_28, dset_29, at_0, at_1, at_2, at_3, at_4, at_5, at_6, at_7, at_8, at_9, at_10, at_11, at_12, at_13, at_14, at_15, List.length_cons, List.length_nil, Option.bind_some, Option.bind_none, Option.map_some, Option.map_none, decide_true, decide_false, Bool.not_true, Bool.not_false, Bool.and_true, Bool.true_and, Bool.and_false, Bool.false_and, Bool.or_true, Bool.true_or, Bool.or_false, Bool.false_or, List.isEmpty_nil, List.isEmpty_cons, Option.isSome_some, Option.isNone_some, Option.isSome_none, Option.isNone_none, List.nil_append, List.cons_append, beq_self_eq_true, and_true, true_and, m_setH, List.map_cons, List.map_nil, eq_self, lim_eq, List.length_range, dep_eq, List.getElem?_set_self, List.getElem?_set_ne, List.set_set, List.length_set, ne_eq, not_false_eq_true, List.length_map, Int.reduceLT, Int.reduceLE, Int.reduceEq, Int.reduceNe, Int.reduceAdd, Int.reduceSub, Int.reduceMul, Int.reduceNeg, Int.reducePow, Int.reduceToNat, Nat.reduceAdd, Nat.reduceSub, Nat.reduceMul, Nat.reduceLT, Nat.reduceLeDiff, Nat.reduceEqDiff, String.reduceEq, String.reduceBEq, String.reduceBNe, ↓reduceIte, Int.reduceBEq, Int.reduceBNe, Nat.reduceBEq, Int.cast_ofNat_Int, Int.toNat_natCast, $t:term, *])

/-- 0 state 1 cells 2 nth 3 seed 4 k 5 prime 6 far -/
def mFill : MDef := ⟨1, 7, [(.set (.tup [(.nm 1), (.nm 2)]) (.tup [(.sub (.nm 0) (.cI 0)), (.sub (.nm 0) (.cI 1))])), (.set (.nm 3) (.bin .Add (.bin .Mult (.cI 31) (.nm 2)) (.cI 7))), (.iff (.e (.cmp .Gt (.bif "len" [(.nm 1)]) (.cI 0))) [(.set (.nm 3) (.bin .Add (.bin .Mult (.cI 104729) (.bin .FloorDiv (.nm 2) (.bif "len" [(.nm 1)]))) (.sub (.nm 1) (.bin .Mod (.nm 2) (.bif "len" [(.nm 1)])))))] []), (.setI (.nm 0) (.cI 1) (.bin .Add (.nm 2) (.cI 1))), (.setI (.nm 0) (.cI 3) (.or [(.cmp .GtE (.nm 2) (.bif "len" [(.nm 1)])), (.cmp .Lt (.nm 3) (.bin .Pow (.cI 10) (.cI 18)))])), (.setI (.nm 0) (.cI 2) (.bin .Sub (.nm 3) (.bin .Pow (.cI 10) (.cI 18)))), (.iff (.e (.sub (.nm 0) (.cI 3))) [(.setI (.nm 0) (.cI 2) (.cI 0)), (.for .enum [(.tup [(.cI 2147483647), (.cI 2147483629), (.cI 2147483587), (.cI 2147483579), (.cI 2147483563)])] (.tup [(.nm 4), (.nm 5)]) [(.set (.nm 6) (.bin .Mod (.bin .Mult (.bin .Add (.bin .Add (.nm 3) (.bin .Mult (.bin .Mult (.cI 10007) (.nm 4)) (.nm 4))) (.bin .Mult (.cI 101) (.nm 4))) (.bin .Add (.cI 48271) (.bin .Mult (.cI 2) (.nm 4)))) (.nm 5))), (.setI (.nm 0) (.cI 2) (.bin .Add (.bin .Mult (.sub (.nm 0) (.cI 2)) (.nm 5)) (.bin .Mod (.bin .Pow (.nm 6) (.cI 5)) (.nm 5))))])] [])]⟩
/-- 0 state 1 many 2 turns 3 digit -/
def mTake : MDef := ⟨2, 4, [(.set (.nm 2) (.cI 0)), (.whl (.and [(.e (.cmp .Lt (.nm 2) (.cI 64))), (.or [(.e (.cmp .Eq (.sub (.nm 0) (.cI 2)) (.cI 0))), (.and [(.e (.sub (.nm 0) (.cI 3))), (.e (.cmp .Lt (.sub (.nm 0) (.cI 2)) (.bin .Mult (.nm 1) (.cI 4096))))])])]) [(.exp (.call "_law_fill" [(.nm 0)])), (.aug 2 .Add (.cI 1)), (.iff (.and [(.e (.sub (.nm 0) (.cI 3))), (.e (.cmp .Lt (.sub (.nm 0) (.cI 2)) (.bin .Mult (.nm 1) (.cI 4096))))]) [(.setI (.nm 0) (.cI 2) (.bin .Add (.sub (.nm 0) (.cI 2)) (.bin .Mult (.bin .Mult (.nm 1) (.cI 4096)) (.bin .Add (.cI 1) (.bin .Mod (.sub (.nm 0) (.cI 2)) (.cI 4093))))))] [])]), (.set (.nm 3) (.bin .Mod (.sub (.nm 0) (.cI 2)) (.nm 1))), (.setI (.nm 0) (.cI 2) (.bin .FloorDiv (.sub (.nm 0) (.cI 2)) (.nm 1))), (.ret (.nm 3))]⟩
/-- the state for draws: where, its cells -/
def DS (st : Nat) (G : Gp) : Prop := ∃ (c n : Nat) (x : Int) (b : Bool) (is : List Int), G[st]? = some (.lst [.ref c, .int n, .int x, .bl b]) ∧ G[c]? = some (.lst (is.map .int)) ∧ c < st ∧ is.length ≤ 63
/-- the mixing loop's suite -/
def mMix : List Stm := match mFill.body.drop 6 with
  | .iff _ (_ :: .for _ _ _ b :: _) _ :: _ => b
  | _ => []
section
variable {MP : MProg} {n : Nat} {L : List Nat} {G : Gp} {st : Nat}
theorem mix_ok {cl : Bool → List Nat → String → String → List U → Gp → Res U} {fl : String → Option (List String)} {sb : String → String → Option Bool} {c k : Nat} {x1 seed j p : Int} {a4 a5 a6 : SV} {K : FK} (hst : st < G.length) (hj : 0 ≤ j) (hj2 : j < 5) (hp : 2147483000 < p) (hp2 : p < 2147483648)
    (hnx : ∀ d x', d = [.val (.ref st), .val (.ref c), .val (.int k), .val (.int seed), .val (.int j), .val (.int p), .val (.int ((seed + 10007 * j * j + 101 * j) * (48271 + 2 * j) % p))] → K.nx d (G.set st (.lst [.ref c, .int ((k : Int) + 1), .int x', .bl true]))) :
    FSat (bodyF ⟨false, cl, fl, sb⟩ L mMix (.tup [.nm 4, .nm 5]) (.tup [.int j, .int p]) [.val (.ref st), .val (.ref c), .val (.int k), .val (.int seed), a4, a5, a6] (G.set st (.lst [.ref c, .int ((k : Int) + 1), .int x1, .bl true]))) K := by
  have hb1 : 0 ≤ (seed + 10007 * j * j + 101 * j) * (48271 + 2 * j) % p := Int.emod_nonneg _ (by omega)
  have hb2 : (seed + 10007 * j * j + 101 * j) * (48271 + 2 * j) % p < p := Int.emod_lt_of_pos _ (by omega)
  simp only [mMix, mFill, List.drop_succ_cons, List.drop_zero]
  o_readsAll
theorem fill_ok (hf : MP.defs "" "_law_fill" = some mFill) {c k : Nat} {x : Int} {b : Bool} {is : List Int} (h1 : G[st]? = some (.lst [.ref c, .int k, .int x, .bl b])) (h2 : G[c]? = some (.lst (is.map .int))) (h3 : c ≠ st) (h4 : is.length ≤ 63) :
    Sat (run MP (n + 1) false L "" "_law_fill" [.ref st] G) (fun u G1 => u = .non ∧ ∃ x' b', G1 = G.set st (.lst [.ref c, .int (k + 1 : Nat), .int x', .bl b'])) noE := by
  have hlt : st < G.length := (List.getElem?_eq_some_iff.mp h1).1
  have h3' : st ≠ c := fun z => h3 z.symm
  rw [sat_run hf rfl rfl]
  refine fsatT ?_
  generalize hK : (⟨fun _ G1 => (U.non : U) = .non ∧ ∃ x' b', G1 = G.set st (.lst [.ref c, .int (k + 1 : Nat), .int x', .bl b']), fun u G1 => u = .non ∧ ∃ x' b', G1 = G.set st (.lst [.ref c, .int (k + 1 : Nat), .int x', .bl b']), fun _ _ => False, fun _ _ => False, fun c fs _ G => noE c fs G⟩ : FK) = K
  have hnx : ∀ d x' b', K.nx d (G.set st (.lst [.ref c, .int ((k : Int) + 1), .int x', .bl b'])) := fun d x' b' => by
    subst hK
    exact ⟨rfl, x', b', rfl⟩
  have tail2 : ∀ (seed : Int) (b1 : Bool), FSatT (exB ⟨false, run MP n, MP.flds, MP.sub⟩ L (mFill.body.drop 5) [.val (.ref st), .val (.ref c), .val (.int k), .val (.int seed), .no, .no, .no] (G.set st (.lst [.ref c, .int ((k : Int) + 1), .int x, .bl b1]))) K () := by
    intro seed b1
    simp only [mFill, List.drop_succ_cons, List.drop_zero]
    cases b1 with
    | false => o_readsAll
    | true =>
      o_readsAll
      refine for_T rfl (fun i d G1 => ∃ x1 a4 a5 a6, d = [.val (.ref st), .val (.ref c), .val (.int k), .val (.int seed), a4, a5, a6] ∧ G1 = G.set st (.lst [.ref c, .int ((k : Int) + 1), .int x1, .bl true])) ⟨0, _, _, _, rfl, rfl⟩ ?_ ?_
      · rintro i hi d G1 ⟨x1, a4, a5, a6, rfl, rfl⟩
        have key : ∀ u ∈ List.map (fun (p : U × Nat) => U.tup [U.int (p.snd : Nat), p.fst]) [U.int 2147483647, U.int 2147483629, U.int 2147483587, U.int 2147483579, U.int 2147483563].zipIdx, ∃ j p : Int, u = .tup [.int j, .int p] ∧ 0 ≤ j ∧ j < 5 ∧ 2147483000 < p ∧ p < 2147483648 := by
          intro u hu
          simp only [List.zipIdx_cons, List.zipIdx_nil, List.map_cons, List.map_nil, List.mem_cons, List.not_mem_nil, or_false] at hu
          rcases hu with rfl | rfl | rfl | rfl | rfl <;> exact ⟨_, _, rfl, by decide, by decide, by decide, by decide⟩
        obtain ⟨j, p, e, hj, hj2, hp, hp2⟩ := key _ (List.getElem_mem hi)
        rw [e]
        exact mix_ok hlt hj hj2 hp hp2 fun d x' hd => ⟨x', _, _, _, hd, rfl⟩
      · rintro d G1 ⟨x1, a4, a5, a6, rfl, rfl⟩
        exact hnx _ _ _
  have tail : ∀ seed : Int, FSatT (exB ⟨false, run MP n, MP.flds, MP.sub⟩ L (mFill.body.drop 3) [.val (.ref st), .val (.ref c), .val (.int k), .val (.int seed), .no, .no, .no] G) K () := by
    intro seed
    rw [show mFill.body.drop 3 = (mFill.body.drop 3).take 2 ++ mFill.body.drop 5 from rfl]
    generalize mFill.body.drop 5 = rest at tail2 ⊢
    simp only [mFill, List.drop_succ_cons, List.drop_zero, List.take_succ_cons, List.take_zero]
    o_readsAll
    refine br_cases (fun hp => ?_) (fun hp => ?_)
    · o_readsAll
    · o_readsAll
  rw [show mFill.body = mFill.body.take 3 ++ mFill.body.drop 3 from rfl]
  generalize mFill.body.drop 3 = rest at tail ⊢
  simp only [mFill, start, List.take_succ_cons, List.take_zero, List.map_cons, List.map_nil, List.replicate, List.nil_append, List.cons_append]
  o_readsAll
  refine br_cases (fun hp => ?_) (fun hp => ?_)
  · obtain ⟨v, hv⟩ : ∃ v : Int, L2.atI (is.map U.int) ((k : Int) % is.length) = some (.int v) := by
      unfold L2.atI L2.ixN
      rw [List.length_map, if_pos (Int.emod_nonneg _ (by omega)), if_pos (Int.emod_lt_of_pos _ hp), Option.bind_some, List.getElem?_map]
      have hl : ((k : Int) % is.length).toNat < is.length := by
        have h1 := Int.emod_nonneg (k : Int) (show (is.length : Int) ≠ 0 by omega)
        have h2 := Int.emod_lt_of_pos (k : Int) hp
        omega
      exact ⟨is[((k : Int) % is.length).toNat], by rw [List.getElem?_eq_getElem hl]; rfl⟩
    o_readsAll
  · o_readsAll
/-- the while's suite -/
def mTurn : List Stm := match mTake.body.take 2 with
  | [_, .whl _ b] => b
  | _ => []
def mTest : Ts := match mTake.body.take 2 with
  | [_, .whl c _] => c
  | _ => .and []
theorem turn_ok (hf : MP.defs "" "_law_fill" = some mFill) {c k : Nat} {x m t : Int} {b : Bool} {is : List Int} {K : FK} (h2 : G[c]? = some (.lst (is.map .int))) (h3 : c ≠ st) (h4 : is.length ≤ 63) (hlt : st < G.length) (hm : 0 < m)
    (hnx : ∀ x b, K.nx [.val (.ref st), .val (.int m), .val (.int (t + 1)), .no] (G.set st (.lst [.ref c, .int (k + 1 : Nat), .int x, .bl b]))) :
    FSatT (exB ⟨false, run MP (n + 1), MP.flds, MP.sub⟩ L mTurn [.val (.ref st), .val (.int m), .val (.int t), .no] (G.set st (.lst [.ref c, .int k, .int x, .bl b]))) K () := by
  have h3' : st ≠ c := fun z => h3 z.symm
  simp only [mTurn, mTake, List.take_succ_cons, List.take_zero]
  o_readsAll
  refine SatT.use (fill_ok (G := G.set st (.lst [.ref c, .int k, .int x, .bl b])) (c := c) (k := k) (x := x) (b := b) (is := is) hf (List.getElem?_set_self hlt) (by rw [List.getElem?_set_ne h3']; exact h2) h3 h4) ?_
  rintro u G2 ⟨rfl, x', b', rfl⟩
  rw [List.set_set]
  generalize ((k + 1 : Nat) : Int) = k1 at hnx ⊢
  cases b' with
  | false => o_readsAll
  | true =>
    o_readsAll
    refine br_cases (fun h => ?_) (fun h => ?_)
    · o_readsAll
    · o_readsAll
theorem test_ok {cl : Bool → List Nat → String → String → List U → Gp → Res U} {fl : String → Option (List String)} {sb : String → String → Option Bool} {c k : Nat} {x m t : Int} {b : Bool} {P : Bool → Gp → Prop} {E : KXc} (hlt : st < G.length) (hm : 0 < m) (h1 : t < 64 → ∀ r, P r (G.set st (.lst [.ref c, .int k, .int x, .bl b]))) (h2 : P false (G.set st (.lst [.ref c, .int k, .int x, .bl b]))) :
    SatT (tst ⟨false, cl, fl, sb⟩ L mTest [.val (.ref st), .val (.int m), .val (.int t), .no] (G.set st (.lst [.ref c, .int k, .int x, .bl b]))) P E () := by
  simp only [mTest, mTake, List.take_succ_cons, List.take_zero]
  o_readsAll
  refine br_cases (fun h => ?_) (fun h => h2)
  have h1' := h1 h
  o_readsAll
  cases b with
  | false =>
    refine br_cases (fun h => ?_) (fun h => ?_)
    · subst h
      o_readsAll
    · o_readsAll
  | true =>
    refine br_cases (fun h => ?_) (fun h => ?_)
    · subst h
      o_readsAll
    · o_readsAll
/-- a take gives a whole number from 0 to many - 1, and changes the state alone -/
theorem take_ok (hf : MP.defs "" "_law_fill" = some mFill) (ht : MP.defs "" "_law_take" = some mTake) (h : DS st G) {m : Int} (hm : 0 < m) (hm2 : m < 1000000000000000000000000000000000000) :
    Sat (run MP (n + 2) false L "" "_law_take" [.ref st, .int m] G) (fun u G1 => ∃ v : Int, u = .int v ∧ 0 ≤ v ∧ v < m ∧ DS st G1 ∧ ∃ us, G1 = G.set st (.lst us)) noE := by
  obtain ⟨c, k, x, b, is, h1, h2, h3q, h4⟩ := h
  have h3 : c ≠ st := by omega
  have hlt : st < G.length := (List.getElem?_eq_some_iff.mp h1).1
  have h3' : st ≠ c := fun z => h3 z.symm
  rw [sat_run ht rfl rfl]
  refine fsatT ?_
  generalize hK : (FK.mk _ _ _ _ _) = K
  have fin : ∀ (t : Int) (k : Nat) (x : Int) (b : Bool), FSatT (exB ⟨false, run MP (n + 1), MP.flds, MP.sub⟩ L (mTake.body.drop 2) [.val (.ref st), .val (.int m), .val (.int t), .no] (G.set st (.lst [.ref c, .int k, .int x, .bl b]))) K () := by
    intro t k x b
    have hrt : K.rt (.int (x % m)) (G.set st (.lst [.ref c, .int k, .int (x / m), .bl b])) := by
      subst hK
      exact ⟨_, rfl, Int.emod_nonneg _ (by omega), Int.emod_lt_of_pos _ hm, ⟨c, k, x / m, b, is, List.getElem?_set_self hlt, by rw [List.getElem?_set_ne h3']; exact h2, h3q, h4⟩, _, rfl⟩
    simp only [mTake, List.drop_succ_cons, List.drop_zero]
    o_readsAll
  rw [show mTake.body = [.set (.nm 2) (.cI 0), .whl mTest mTurn] ++ mTake.body.drop 2 from rfl]
  generalize mTake.body.drop 2 = rest at fin ⊢
  simp only [mTake, start, List.map_cons, List.map_nil, List.replicate, List.nil_append, List.cons_append]
  o_readsAll
  refine whl_T (fun j d G1 => ∃ (t : Int) (k : Nat) (x : Int) (b : Bool), d = [.val (.ref st), .val (.int m), .val (.int t), .no] ∧ 0 ≤ t ∧ t + j = 64 ∧ G1 = G.set st (.lst [.ref c, .int k, .int x, .bl b])) (m := 64) ⟨0, k, x, b, rfl, by decide, by decide, (set_same h1).symm⟩ (by rw [show FUEL = 1000000 from rfl]; decide) ?_
  rintro j d G1 ⟨t, k, x, b, rfl, ht0, htj, rfl⟩
  refine test_ok hlt hm (fun h r => ?_) ?_
  · refine br_of (fun _ => ?_) (fun _ => fin _ _ _ _)
    exact turn_ok hf h2 h3 h4 hlt hm fun x b => ⟨j - 1, by omega, t + 1, k + 1, x, b, rfl, by omega, by omega, rfl⟩
  · rw [m_br0]
    exact fin _ _ _ _
end
end PV
set_option Elab.async false
set_option linter.all false
set_option maxRecDepth 100000
set_option maxHeartbeats 4000000
/-! PyLaw: what the laws share: frames, words, things. -/
namespace PV
open PySem
local macro_rules | `(tactic| o_shape) => `(tactic| simp -dsimp only [↓m_br1, m_br1, ↓m_br0, m_br0, ↓m_brn, m_brn, ↓m_ok, m_ok, ↓m_exn, ↓m_bad, m_bad, ↓m_bind, ↓m_ofO, m_ofO, ↓m_site, m_site, ↓m_some, m_some, ↓m_none, m_none, ↓m_map, m_map, ↓m_obind, m_obind, ↓m_oite, m_oite, ↓m_someP, m_someP, ↓m_noneP, m_noneP, ↓m_bindP, m_bindP, ↓m_someW, m_someW, ↓m_noneW, m_noneW, ↓m_bindW, m_bindW, ↓m_iteW, m_iteW, ↓m_nm, ↓m_cI, ↓m_cS, ↓m_cB, ↓m_cN, ↓m_gl, ↓m_bin, ↓m_neg, ↓m_cmp, ↓m_cmp2, ↓m_and1, ↓m_or1, ↓m_and2, ↓m_or2, ↓m_not, ↓m_ite, m_ite, ↓m_ife, ↓m_call, ↓m_mk, ↓m_meth, ↓m_bif, ↓m_isi, ↓m_bm, ↓m_attr, ↓m_xat, ↓m_xis, ↓m_sub, ↓m_slc, ↓m_tup, ↓m_lst, ↓m_dct0, ↓m_dct, ↓m_ep0, ↓m_ep1, ↓m_lc, ↓l_body, ↓f_body, ↓m_es0, ↓m_es1, ↓m_eo0, ↓m_eo1, ↓m_te, ↓m_tnot, ↓m_tand1, ↓m_tor1, ↓m_tand2, ↓m_tor2, ↓m_ts0, ↓m_ts1, ↓m_b0, ↓m_app1, ↓m_app0, ↓m_iff, ↓m_set, ↓m_setI, ↓m_setF, ↓m_aug, ↓m_exp, ↓m_ret, ↓m_retN, ↓m_pass, ↓m_brk, ↓m_cont, ↓m_whl, ↓m_for, ↓m_raise, ↓m_try, v_len, ↓v_len, v_all, ↓v_all, v_any, ↓v_any, v_intb, ↓v_intb, v_inti, ↓v_inti, v_lenT, ↓v_lenT, v_lenS, ↓v_lenS, v_lenR, ↓v_lenR, v_lenCl, ↓v_lenCl, v_lenCd, ↓v_lenCd, v_lat, ↓v_lat, v_lstC, ↓v_lstC, v_seqT, ↓v_seqT, v_seqR, ↓v_seqR, v_asI, ↓v_asI, v_asB, ↓v_asB, v_asR, ↓v_asR, v_trB, ↓v_trB, v_trN, ↓v_trN, v_trI, ↓v_trI, v_trT, ↓v_trT, v_trR, ↓v_trR, v_truCl, ↓v_truCl, v_truCd, ↓v_truCd, v_subT, ↓v_subT, v_subS, ↓v_subS, v_subRI, ↓v_subRI, v_subRS, ↓v_subRS, v_subCIl, ↓v_subCIl, v_subCId, ↓v_subCId, v_subCSd, ↓v_subCSd, v_setRI, ↓v_setRI, v_setRS, ↓v_setRS, v_setCIl, ↓v_setCIl, v_setCId, ↓v_setCId, v_setCSd, ↓v_setCSd, v_attr, ↓v_attr, v_atC, ↓v_atC, v_insC, ↓v_insC, v_emD, ↓v_emD, v_keyI, ↓v_keyI, v_keyS, ↓v_keyS, v_isi_bool, ↓v_isi_bool, v_isi_int, ↓v_isi_int, v_isi_str, ↓v_isi_str, v_isi_list, ↓v_isi_list, v_isi_tuple, ↓v_isi_tuple, v_isi_dict, ↓v_isi_dict, v_memS, ↓v_memS, v_new, ↓v_new, v_isN, ↓v_isN, v_isB, ↓v_isB, v_isI, ↓v_isI, v_isS, ↓v_isS, v_isT, ↓v_isT, v_isR, ↓v_isR, v_isCl, ↓v_isCl, v_isCd, ↓v_isCd, v_app, ↓v_app, v_appC, ↓v_appC, v_join, ↓v_join, v_upper, ↓v_upper, v_bmA, ↓v_bmA, v_bmJ, ↓v_bmJ, v_bmU, ↓v_bmU, v_slcT, ↓v_slcT, v_slcS, ↓v_slcS, v_slcR, ↓v_slcR, v_addI, ↓v_addI, v_subI, ↓v_subI, v_mulI, ↓v_mulI, v_mulS, ↓v_mulS, v_divI, ↓v_divI, v_modI, ↓v_modI, v_powI, ↓v_powI, v_addS, ↓v_addS, v_addT, ↓v_addT, v_addL, ↓v_addL, v_augA, ↓v_augA, v_augS, ↓v_augS, v_eq, ↓v_eq, v_ne, ↓v_ne, v_is, ↓v_is, v_isnt, ↓v_isnt, v_in, ↓v_in, v_notin, ↓v_notin, v_lt, ↓v_lt, v_le, ↓v_le, v_gt, ↓v_gt, v_ge, ↓v_ge, v_isNonN, ↓v_isNonN, v_isNonB, ↓v_isNonB, v_isNonI, ↓v_isNonI, v_isNonS, ↓v_isNonS, v_isNonT, ↓v_isNonT, v_isNonR, ↓v_isNonR, v_memT, ↓v_memT, v_memR, ↓v_memR, v_memCl, ↓v_memCl, v_memCd, ↓v_memCd, v_walkT, ↓v_walkT, v_walkR, ↓v_walkR, v_walkR2, ↓v_walkR2, v_walkS, ↓v_walkS, v_walkET, ↓v_walkET, v_walkL, ↓v_walkL, v_walkE, ↓v_walkE, v_walkCl, ↓v_walkCl, v_walkCEl, ↓v_walkCEl, v_ix, ↓v_ix, v_wipe0, ↓v_wipe0, v_wipe1, ↓v_wipe1, v_eqNN, ↓v_eqNN, v_eqNB, ↓v_eqNB, v_eqNI, ↓v_eqNI, v_eqNS, ↓v_eqNS, v_eqNT, ↓v_eqNT, v_eqBN, ↓v_eqBN, v_eqBB, ↓v_eqBB, v_eqBI, ↓v_eqBI, v_eqBS, ↓v_eqBS, v_eqBT, ↓v_eqBT, v_eqIN, ↓v_eqIN, v_eqIB, ↓v_eqIB, v_eqII, ↓v_eqII, v_eqIS, ↓v_eqIS, v_eqIT, ↓v_eqIT, v_eqSN, ↓v_eqSN, v_eqSB, ↓v_eqSB, v_eqSI, ↓v_eqSI, v_eqSS, ↓v_eqSS, v_eqST, ↓v_eqST, v_eqTN, ↓v_eqTN, v_eqTB, ↓v_eqTB, v_eqTI, ↓v_eqTI, v_eqTS, ↓v_eqTS, v_eqTT, ↓v_eqTT, ↓m_eqL0, m_eqL0, ↓m_eqL1, m_eqL1, ↓m_eqL2, m_eqL2, ↓m_eqL3, m_eqL3, v_neU, ↓v_neU, v_neSS, ↓v_neSS, v_neII, ↓v_neII, v_neTT, ↓v_neTT, v_pf0, ↓v_pf0, v_pf1, ↓v_pf1, v_pf2, ↓v_pf2, v_lk1, ↓v_lk1, v_lk2, ↓v_lk2, v_lk0, ↓v_lk0, v_scr, ↓v_scr, v_scrV, ↓v_scrV, v_scrN, ↓v_scrN, v_scrE, ↓v_scrE, v_six0, ↓v_six0, v_six1, ↓v_six1, v_setNew, ↓v_setNew, v_putK1, ↓v_putK1, v_osq, ↓v_osq, v_dctN, ↓v_dctN, v_dctB, ↓v_dctB, v_dctI, ↓v_dctI, v_dctS, ↓v_dctS, v_dctT, ↓v_dctT, v_asgT, ↓v_asgT, v_asgs0, ↓v_asgs0, v_asgs1, ↓v_asgs1, v_bindP0, ↓v_bindP0, v_bindP1, ↓v_bindP1, v_bindP2, ↓v_bindP2, slot_0, slot_1, slot_2, slot_3, slot_4, slot_5, slot_6, slot_7, slot_8, slot_9, slot_10, slot_11, slot_12, slot_13, slot_14, slot_15, slot_16, slot_17, slot_18, slot_19, slot_20, slot_21, slot_22, slot_23, slot_24, slot_25, slot_26, slot_27, slot_28, slot_29, exn_0, exn_1, exn_2, exn_3, exn_4, exn_5, exn_6, exn_7, exn_8, exn_9, exn_10, exn_11, exn_12, exn_13, exn_14, exn_15, exn_16, exn_17, exn_18, exn_19, exn_20, exn_21, exn_22, exn_23, exn_24, exn_25, exn_26, exn_27, exn_28, exn_29, asg_0, asg_1, asg_2, asg_3, asg_4, asg_5, asg_6, asg_7, asg_8, asg_9, asg_10, asg_11, asg_12, asg_13, asg_14, asg_15, asg_16, asg_17, asg_18, asg_19, asg_20, asg_21, asg_22, asg_23, asg_24, asg_25, asg_26, asg_27, asg_28, asg_29, dset_0, dset_1, dset_2, dset_3, dset_4, dset_5, dset_6, dset_7, dset_8, dset_9, dset_10, dset_11, dset_12, dset_13, dset_14, dset_15, dset_16, dset_17, dset_18, dset_19, dset_20, dset_21, dset_22, dset_23, dset_24, dset_25, dset_26, dset_27, dset_28, dset_29, at_0, at_1, at_2, at_3, at_4, at_5, at_6, at_7, at_8, at_9, at_10, at_11, at_12, at_13, at_14, at_15, List.length_cons, List.length_nil, Option.bind_some, Option.bind_none, Option.map_some, Option.map_none, decide_true, decide_false, Bool.not_true, Bool.not_false, Bool.and_true, Bool.true_and, Bool.and_false, Bool.false_and, Bool.or_true, Bool.true_or, Bool.or_false, Bool.false_or, List.isEmpty_nil, List.isEmpty_cons, Option.isSome_some, Option.isNone_some, Option.isSome_none, Option.isNone_none, List.nil_append, List.cons_append, beq_self_eq_true, and_true, true_and, m_setH, List.map_cons, List.map_nil, eq_self, lim_eq, List.length_range, dep_eq, List.getElem?_set_self, List.getElem?_set_ne, List.set_set, List.length_set, ne_eq, not_false_eq_true, List.length_map, Int.reduceLT, Int.reduceLE, Int.reduceEq, Int.reduceNe, Int.reduceAdd, Int.reduceSub, Int.reduceMul, Int.reduceNeg, Int.reducePow, Int.reduceToNat, Nat.reduceAdd, Nat.reduceSub, Nat.reduceMul, Nat.reduceLT, Nat.reduceLeDiff, Nat.reduceEqDiff, String.reduceEq, String.reduceBEq, String.reduceBNe, ↓reduceIte, Int.reduceBEq, Int.reduceBNe, Nat.reduceBEq, Int.cast_ofNat_Int, Int.toNat_natCast, *])
local macro_rules | `(tactic| o_readsAll) => `(tactic| repeat (first | o_shape | refine br_mul (by omega) ?_ | refine br_div (by omega) ?_ | refine br_pow (by omega) ?_ | refine br_dec (by omega) ?_ | refine br_decn (by omega) ?_))
local macro_rules | `(tactic| o_reads) => `(tactic| repeat' (first | o_shape | refine br_mul (by omega) ?_ | refine br_div (by omega) ?_ | refine br_pow (by omega) ?_ | refine br_dec (by omega) ?_ | refine br_decn (by omega) ?_ | refine br_of (fun _ => ?_) (fun _ => ?_)))
local macro_rules | `(tactic| wide_line with $t:term) => `(tactic| simp -dsimp only [↓m_br1, m_br1, ↓m_br0, m_br0, ↓m_brn, m_brn, ↓m_ok, m_ok, ↓m_exn, ↓m_bad, m_bad, ↓m_bind, ↓m_ofO, m_ofO, ↓m_site, m_site, ↓m_some, m_some, ↓m_none, m_none, ↓m_map, m_map, ↓m_obind, m_obind, ↓m_oite, m_oite, ↓m_someP, m_someP, ↓m_noneP, m_noneP, ↓m_bindP, m_bindP, ↓m_someW, m_someW, ↓m_noneW, m_noneW, ↓m_bindW, m_bindW, ↓m_iteW, m_iteW, ↓m_nm, ↓m_cI, ↓m_cS, ↓m_cB, ↓m_cN, ↓m_gl, ↓m_bin, ↓m_neg, ↓m_cmp, ↓m_cmp2, ↓m_and1, ↓m_or1, ↓m_and2, ↓m_or2, ↓m_not, ↓m_ite, m_ite, ↓m_ife, ↓m_call, ↓m_mk, ↓m_meth, ↓m_bif, ↓m_isi, ↓m_bm, ↓m_attr, ↓m_xat, ↓m_xis, ↓m_sub, ↓m_slc, ↓m_tup, ↓m_lst, ↓m_dct0, ↓m_dct, ↓m_ep0, ↓m_ep1, ↓m_lc, ↓l_body, ↓f_body, ↓m_es0, ↓m_es1, ↓m_eo0, ↓m_eo1, ↓m_te, ↓m_tnot, ↓m_tand1, ↓m_tor1, ↓m_tand2, ↓m_tor2, ↓m_ts0, ↓m_ts1, ↓m_b0, ↓m_app1, ↓m_app0, ↓m_iff, ↓m_set, ↓m_setI, ↓m_setF, ↓m_aug, ↓m_exp, ↓m_ret, ↓m_retN, ↓m_pass, ↓m_brk, ↓m_cont, ↓m_whl, ↓m_for, ↓m_raise, ↓m_try, v_len, ↓v_len, v_all, ↓v_all, v_any, ↓v_any, v_intb, ↓v_intb, v_inti, ↓v_inti, v_lenT, ↓v_lenT, v_lenS, ↓v_lenS, v_lenR, ↓v_lenR, v_lenCl, ↓v_lenCl, v_lenCd, ↓v_lenCd, v_lat, ↓v_lat, v_lstC, ↓v_lstC, v_seqT, ↓v_seqT, v_seqR, ↓v_seqR, v_asI, ↓v_asI, v_asB, ↓v_asB, v_asR, ↓v_asR, v_trB, ↓v_trB, v_trN, ↓v_trN, v_trI, ↓v_trI, v_trT, ↓v_trT, v_trR, ↓v_trR, v_truCl, ↓v_truCl, v_truCd, ↓v_truCd, v_subT, ↓v_subT, v_subS, ↓v_subS, v_subRI, ↓v_subRI, v_subRS, ↓v_subRS, v_subCIl, ↓v_subCIl, v_subCId, ↓v_subCId, v_subCSd, ↓v_subCSd, v_setRI, ↓v_setRI, v_setRS, ↓v_setRS, v_setCIl, ↓v_setCIl, v_setCId, ↓v_setCId, v_setCSd, ↓v_setCSd, v_attr, ↓v_attr, v_atC, ↓v_atC, v_insC, ↓v_insC, v_emD, ↓v_emD, v_keyI, ↓v_keyI, v_keyS, ↓v_keyS, v_isi_bool, ↓v_isi_bool, v_isi_int, ↓v_isi_int, v_isi_str, ↓v_isi_str, v_isi_list, ↓v_isi_list, v_isi_tuple, ↓v_isi_tuple, v_isi_dict, ↓v_isi_dict, v_memS, ↓v_memS, v_new, ↓v_new, v_isN, ↓v_isN, v_isB, ↓v_isB, v_isI, ↓v_isI, v_isS, ↓v_isS, v_isT, ↓v_isT, v_isR, ↓v_isR, v_isCl, ↓v_isCl, v_isCd, ↓v_isCd, v_app, ↓v_app, v_appC, ↓v_appC, v_join, ↓v_join, v_upper, ↓v_upper, v_bmA, ↓v_bmA, v_bmJ, ↓v_bmJ, v_bmU, ↓v_bmU, v_slcT, ↓v_slcT, v_slcS, ↓v_slcS, v_slcR, ↓v_slcR, v_addI, ↓v_addI, v_subI, ↓v_subI, v_mulI, ↓v_mulI, v_mulS, ↓v_mulS, v_divI, ↓v_divI, v_modI, ↓v_modI, v_powI, ↓v_powI, v_addS, ↓v_addS, v_addT, ↓v_addT, v_addL, ↓v_addL, v_augA, ↓v_augA, v_augS, ↓v_augS, v_eq, ↓v_eq, v_ne, ↓v_ne, v_is, ↓v_is, v_isnt, ↓v_isnt, v_in, ↓v_in, v_notin, ↓v_notin, v_lt, ↓v_lt, v_le, ↓v_le, v_gt, ↓v_gt, v_ge, ↓v_ge, v_isNonN, ↓v_isNonN, v_isNonB, ↓v_isNonB, v_isNonI, ↓v_isNonI, v_isNonS, ↓v_isNonS, v_isNonT, ↓v_isNonT, v_isNonR, ↓v_isNonR, v_memT, ↓v_memT, v_memR, ↓v_memR, v_memCl, ↓v_memCl, v_memCd, ↓v_memCd, v_walkT, ↓v_walkT, v_walkR, ↓v_walkR, v_walkR2, ↓v_walkR2, v_walkS, ↓v_walkS, v_walkET, ↓v_walkET, v_walkL, ↓v_walkL, v_walkE, ↓v_walkE, v_walkCl, ↓v_walkCl, v_walkCEl, ↓v_walkCEl, v_ix, ↓v_ix, v_wipe0, ↓v_wipe0, v_wipe1, ↓v_wipe1, v_eqNN, ↓v_eqNN, v_eqNB, ↓v_eqNB, v_eqNI, ↓v_eqNI, v_eqNS, ↓v_eqNS, v_eqNT, ↓v_eqNT, v_eqBN, ↓v_eqBN, v_eqBB, ↓v_eqBB, v_eqBI, ↓v_eqBI, v_eqBS, ↓v_eqBS, v_eqBT, ↓v_eqBT, v_eqIN, ↓v_eqIN, v_eqIB, ↓v_eqIB, v_eqII, ↓v_eqII, v_eqIS, ↓v_eqIS, v_eqIT, ↓v_eqIT, v_eqSN, ↓v_eqSN, v_eqSB, ↓v_eqSB, v_eqSI, ↓v_eqSI, v_eqSS, ↓v_eqSS, v_eqST, ↓v_eqST, v_eqTN, ↓v_eqTN, v_eqTB, ↓v_eqTB, v_eqTI, ↓v_eqTI, v_eqTS, ↓v_eqTS, v_eqTT, ↓v_eqTT, ↓m_eqL0, m_eqL0, ↓m_eqL1, m_eqL1, ↓m_eqL2, m_eqL2, ↓m_eqL3, m_eqL3, v_neU, ↓v_neU, v_neSS, ↓v_neSS, v_neII, ↓v_neII, v_neTT, ↓v_neTT, v_pf0, ↓v_pf0, v_pf1, ↓v_pf1, v_pf2, ↓v_pf2, v_lk1, ↓v_lk1, v_lk2, ↓v_lk2, v_lk0, ↓v_lk0, v_scr, ↓v_scr, v_scrV, ↓v_scrV, v_scrN, ↓v_scrN, v_scrE, ↓v_scrE, v_six0, ↓v_six0, v_six1, ↓v_six1, v_setNew, ↓v_setNew, v_putK1, ↓v_putK1, v_osq, ↓v_osq, v_dctN, ↓v_dctN, v_dctB, ↓v_dctB, v_dctI, ↓v_dctI, v_dctS, ↓v_dctS, v_dctT, ↓v_dctT, v_asgT, ↓v_asgT, v_asgs0, ↓v_asgs0, v_asgs1, ↓v_asgs1, v_bindP0, ↓v_bindP0, v_bindP1, ↓v_bindP1, v_bindP2, ↓v_bindP2, slot_0, slot_1, slot_2, slot_3, slot_4, slot_5, slot_6, slot_7, slot_8, slot_9, slot_10, slot_11, slot_12, slot_13, slot_14, slot_15, slot_16, slot_17, slot_18, slot_19, slot_20, slot_21, slot_22, slot_23, slot_24, slot_25, slot_26, slot_27, slot_28, slot_29, exn_0, exn_1, exn_2, exn_3, exn_4, exn_5, exn_6, exn_7, exn_8, exn_9, exn_10, exn_11, exn_12, exn_13, exn_14, exn_15, exn_16, exn_17, exn_18, exn_19, exn_20, exn_21, exn_22, exn_23, exn_24, exn_25, exn_26, exn_27, exn_28, exn_29, asg_0, asg_1, asg_2, asg_3, asg_4, asg_5, asg_6, asg_7, asg_8, asg_9, asg_10, asg_11, asg_12, asg_13, asg_14, asg_15, asg_16, asg_17, asg_18, asg_19, asg_20, asg_21, asg_22, asg_23, asg_24, asg_25, asg_26, asg_27, asg_28, asg_29, dset_0, dset_1, dset_2, dset_3, dset_4, dset_5, dset_6, dset_7, dset_8, dset_9, dset_10, dset_11, dset_12, dset_13, dset_14, dset_15, dset_16, dset_17, dset_18, dset_19, dset_20, dset_21, dset_22, dset_23, dset_24, dset_25, dset_26, dset_27, dset_28, dset_29, at_0, at_1, at_2, at_3, at_4, at_5, at_6, at_7, at_8, at_9, at_10, at_11, at_12, at_13, at_14, at_15, List.length_cons, List.length_nil, Option.bind_some, Option.bind_none, Option.map_some, Option.map_none, decide_true, decide_false, Bool.not_true, Bool.not_false, Bool.and_true, Bool.true_and, Bool.and_false, Bool.false_and, Bool.or_true, Bool.true_or, Bool.or_false, Bool.false_or, List.isEmpty_nil, List.isEmpty_cons, Option.isSome_some, Option.isNone_some, Option.isSome_none, Option.isNone_none, List.nil_append, List.cons_append, beq_self_eq_true, and_true, true_and, m_setH, List.map_cons, List.map_nil, eq_self, lim_eq, List.length_range, dep_eq, List.getElem?_set_self, List.getElem?_set_ne, List.set_set, List.length_set, ne_eq, not_false_eq_true, List.length_map, Int.reduceLT, Int.reduceLE, Int.reduceEq, Int.reduceNe, Int.reduceAdd, Int.reduceSub, Int.reduceMul, Int.reduceNeg, Int.reducePow, Int.reduceToNat, Nat.reduceAdd, Nat.reduceSub, Nat.reduceMul, Nat.reduceLT, Nat.reduceLeDiff, Nat.reduceEqDiff, String.reduceEq, String.reduceBEq, String.reduceBNe, ↓reduceIte, Int.reduceBEq, Int.reduceBNe, Nat.reduceBEq, Int.cast_ofNat_Int, Int.toNat_natCast, $t:term, *])

/-- cells are only added -/
def Ke (G G1 : Gp) : Prop := ∃ t, G1 = G ++ t
theorem Ke.refl (G : Gp) : Ke G G := ⟨[], by simp⟩
theorem Ke.trans {G G1 G2 : Gp} (a : Ke G G1) (b : Ke G1 G2) : Ke G G2 := by
  obtain ⟨t, e⟩ := a
  obtain ⟨t', e'⟩ := b
  exact ⟨t ++ t', by rw [e', e, List.append_assoc]⟩
theorem Ke.app {G t : Gp} : Ke G (G ++ t) := ⟨t, rfl⟩
theorem Ke.at_ {G G1 : Gp} (a : Ke G G1) {i : Nat} {c : Cell} (h : G[i]? = some c) : G1[i]? = some c := by
  obtain ⟨t, e⟩ := a
  rw [e, List.getElem?_append_left (List.getElem?_eq_some_iff.mp h).1]
  exact h
/-- what stood stands, but for the cell at st -/
def Kp (st : Nat) (G G1 : Gp) : Prop := ∀ i c, i ≠ st → G[i]? = some c → G1[i]? = some c
theorem Kp.refl {st : Nat} (G : Gp) : Kp st G G := fun _ _ _ h => h
theorem Kp.trans {st : Nat} {G G1 G2 : Gp} (a : Kp st G G1) (b : Kp st G1 G2) : Kp st G G2 := fun i c h q => b i c h (a i c h q)
theorem Ke.kp {st : Nat} {G G1 : Gp} (a : Ke G G1) : Kp st G G1 := fun _ _ _ h => a.at_ h
theorem Kp.set {st : Nat} {G : Gp} {c : Cell} : Kp st G (G.set st c) := fun i d h q => by
  rw [List.getElem?_set_ne fun z => h z.symm]
  exact q
theorem DS.ke {st : Nat} {G G1 : Gp} (h : DS st G) (k : Ke G G1) : DS st G1 := by
  obtain ⟨c, n, x, b, is, h1, h2, h3, h4⟩ := h
  exact ⟨c, n, x, b, is, k.at_ h1, k.at_ h2, h3, h4⟩
theorem DS.set_ {st r : Nat} {G : Gp} {x : Cell} (h : DS st G) (hr : st < r) : DS st (G.set r x) := by
  obtain ⟨c, n, y, b, is, h1, h2, h3, h4⟩ := h
  exact ⟨c, n, y, b, is, by rw [List.getElem?_set_ne (by omega)]; exact h1, by rw [List.getElem?_set_ne (by omega)]; exact h2, h3, h4⟩
theorem DS.lt {st : Nat} {G : Gp} (h : DS st G) : st < G.length := by
  obtain ⟨c, n, y, b, is, h1, h2, h3, h4⟩ := h
  exact (List.getElem?_eq_some_iff.mp h1).1
theorem at_in {α : Type} {us : List α} {v : Int} (h0 : 0 ≤ v) (h1 : v < us.length) : ∃ x, L2.atI us v = some x ∧ x ∈ us := by
  unfold L2.atI L2.ixN
  rw [if_pos h0, if_pos h1, Option.bind_some]
  have hl : v.toNat < us.length := by omega
  exact ⟨us[v.toNat], List.getElem?_eq_getElem hl, List.getElem_mem hl⟩
section
variable {MP : MProg} {n : Nat} {L : List Nat} {G : Gp} {st : Nat}
/-- a take, used -/
theorem take_use (hf : MP.defs "" "_law_fill" = some mFill) (ht : MP.defs "" "_law_take" = some mTake) (h : DS st G) {m : Int} (hm : 0 < m) (hm2 : m < 1000000000000000000000000000000000000) {P : U → Gp → Prop} {E : KXc}
    (k : ∀ (v : Int) (us : List U), 0 ≤ v → v < m → DS st (G.set st (.lst us)) → P (.int v) (G.set st (.lst us))) : SatT (run MP (n + 2) false L "" "_law_take" [.ref st, .int m] G) P E () := by
  refine SatT.use (take_ok hf ht h hm hm2) ?_
  rintro u G1 ⟨v, rfl, h0, h1, h2, us, rfl⟩
  exact k v us h0 h1 h2
/-! ### words -/
def isStr : U → Bool
  | .str _ => true
  | _ => false
/-- a text of one to m of the signs of z -/
def written (z : Str) (m : Int) : U → Bool
  | .str x => decide (1 ≤ (x.length : Int)) && (decide ((x.length : Int) ≤ m) && x.cps.toList.all fun c => decide (c ∈ z.cps.toList))
  | _ => false
theorem allBl_map {α : Type} (f : α → Bool) : ∀ xs : List α, allBl (xs.map fun x => U.bl (f x)) = some (xs.map f)
  | [] => rfl
  | x :: xs => by
    rw [List.map_cons]
    show (allBl (xs.map fun x => U.bl (f x))).map (f x :: ·) = _
    rw [allBl_map f xs]
    rfl
def gIn (z : Str) : U → Option U
  | .str y => (match y.cps.toList with
    | [c] => some (.bl (decide (c ∈ z.cps.toList)))
    | _ => none)
  | _ => none
/-- 0 thing 1 signs 2 most 3 sign -/
def mWritten : MDef := ⟨3, 4, [(.ret (.and [(.isi (.nm 0) "str"), (.cmp2 .LtE .LtE (.cI 1) (.bif "len" [(.nm 0)]) (.nm 2)), (.bif "all" [(.lc .plain [(.nm 0)] (.nm 3) [] (.cmp .In (.nm 3) (.nm 1)) [3])])]))]⟩
theorem chars_map {x : Str} {f : Nat → Bool} {g : U → Option U} (hg : ∀ c, g (.str ⟨#[c]⟩) = some (.bl (f c))) : (x.cps.toList.map fun c => U.str ⟨#[c]⟩).filterMap g = x.cps.toList.map fun c => U.bl (f c) := by
  rw [List.filterMap_map]
  have : (g ∘ fun c => U.str ⟨#[c]⟩) = fun c => some (U.bl (f c)) := funext hg
  rw [this]
  induction x.cps.toList with
  | nil => rfl
  | cons a l ih => simp [ih]
theorem written_ok (hd : MP.defs "" "is_written" = some mWritten) {u : U} (hu : isiU G u "str" = some (isStr u)) (hz : ∀ x, u = .str x → x.length ≤ 1000000) (z : Str) (m : Int) : Sat (run MP (n + 1) false L "" "is_written" [u, .str z, .int m] G) (fun r G1 => r = .bl (written z m u) ∧ Ke G G1) noE := by
  rw [sat_run hd rfl rfl]
  refine fsatT ?_
  simp only [mWritten, start, List.map_cons, List.map_nil, List.replicate, List.nil_append, List.cons_append]
  generalize hK : (FK.mk _ _ _ _ _) = K
  cases u with
  | str x =>
    have hx := hz x rfl
    have fin : ∀ G1, Ke G G1 → K.rt (.bl (written z m (.str x))) G1 := fun G1 h => by subst hK; exact ⟨rfl, h⟩
    have fin0 := fin G (Ke.refl G)
    have hw : written z m (.str x) = (decide (1 ≤ (x.length : Int)) && (decide ((x.length : Int) ≤ m) && x.cps.toList.all fun c => decide (c ∈ z.cps.toList))) := rfl
    rw [hw] at fin0
    rw [hw] at fin
    o_readsAll
    refine br_cases (fun h1 => ?_) (fun h1 => ?_)
    · o_readsAll
      refine br_cases (fun h2 => ?_) (fun h2 => ?_)
      · o_readsAll
        refine lcm_T (by simp [Str.length]) (g := gIn z) ?_ ?_
        · intro u hu
          obtain ⟨c, _, rfl⟩ := List.mem_map.mp hu
          have hg : gIn z (.str ⟨#[c]⟩) = some (.bl (decide (c ∈ z.cps.toList))) := rfl
          o_readsAll
        · rw [chars_map (f := fun c => decide (c ∈ z.cps.toList)) fun c => rfl]
          have hb := allBl_map (fun c => decide (c ∈ z.cps.toList)) x.cps.toList
          o_readsAll
          rw [decide_eq_true h1, decide_eq_true h2] at fin
          have := fin _ (Ke.app (t := [Cell.lst (List.map (fun c => U.bl (decide (c ∈ z.cps.toList))) x.cps.toList)]))
          rw [List.all_map]
          exact this
      · rw [decide_eq_true h1, decide_eq_false h2] at fin0
        o_readsAll
    · rw [decide_eq_false h1] at fin0
      o_readsAll
  | ref i =>
    obtain ⟨c, hc, hc2⟩ : ∃ c, G[i]? = some c ∧ isiC "str" c = some false := by
      simp only [isiU] at hu
      cases hc : G[i]? with
      | none => rw [hc] at hu; cases hu
      | some c => rw [hc] at hu; exact ⟨c, rfl, hu⟩
    have fin : ∀ G1, Ke G G1 → K.rt (.bl false) G1 := fun G1 h => by subst hK; exact ⟨rfl, h⟩
    have := fin G (Ke.refl G)
    o_readsAll
  | _ => 
    have fin : ∀ G1, Ke G G1 → K.rt (.bl false) G1 := fun G1 h => by subst hK; exact ⟨rfl, h⟩
    have := fin G (Ke.refl G)
    o_readsAll
theorem take_abs (hf : MP.defs "" "_law_fill" = some mFill) (ht : MP.defs "" "_law_take" = some mTake) (h : DS st G) {m : Int} (hm : 0 < m) (hm2 : m < 1000000000000000000000000000000000000) {P : U → Gp → Prop} {E : KXc}
    (k : ∀ (v : Int) (G1 : Gp), 0 ≤ v → v < m → DS st G1 → Kp st G G1 → G1.length = G.length → P (.int v) G1) : SatT (run MP (n + 2) false L "" "_law_take" [.ref st, .int m] G) P E () :=
  take_use hf ht h hm hm2 fun v us h0 h1 h2 => k v _ h0 h1 h2 Kp.set (by simp)
end
/-! ### the laws' words -/
/-- 0 state 1 many 2 letters 3 own 4 words 5 k 6 word 7 turn 8 one -/
def mWords : MDef := ⟨2, 9, [(.set (.nm 2) (.cS "abcdefghijklmnopqrstuvwxyz")), (.set (.nm 3) (.tup [(.cS "key"), (.cS "put"), (.cS "set"), (.cS "drop"), (.cS "link"), (.cS "none"), (.cS "first"), (.cS "all"), (.cS "empty"), (.cS "x")])), (.set (.nm 4) (.lst [])), (.for .range [(.nm 1)] (.nm 5) [(.set (.nm 6) (.bm (.cS "") "join" [(.lc .range [(.bin .Add (.cI 1) (.call "_law_take" [(.nm 0), (.cI 8)]))] (.nm 7) [] (.sub (.nm 2) (.call "_law_take" [(.nm 0), (.cI 26)])) [7])])), (.set (.nm 6) (.sub (.tup [(.nm 6), (.sub (.nm 3) (.call "_law_take" [(.nm 0), (.cI 10)])), (.slc (.nm 6) none (some (.cI 1)))]) (.call "_law_take" [(.nm 0), (.cI 3)]))), (.iff (.e (.cmp .In (.nm 6) (.nm 4))) [(.set (.nm 6) (.sub (.lc .plain [(.nm 2)] (.nm 8) [(.e (.cmp .NotIn (.nm 8) (.nm 4)))] (.nm 8) [8]) (.call "_law_take" [(.nm 0), (.cI 20)])))] []), (.exp (.bm (.nm 4) "append" [(.nm 6)]))]), (.ret (.nm 4))]⟩
def lett : Str := Str.ofString "abcdefghijklmnopqrstuvwxyz"
structure IsW (x : Str) : Prop where
  lo : 1 ≤ x.length
  hi : x.length ≤ 8
  all : ∀ c ∈ x.cps.toList, c ∈ lett.cps.toList
def isWb (x : Str) : Bool := decide (1 ≤ x.length) && (decide (x.length ≤ 8) && x.cps.toList.all fun c => decide (c ∈ lett.cps.toList))
theorem isW_of {x : Str} (h : isWb x = true) : IsW x := by
  unfold isWb at h
  simp only [Bool.and_eq_true, decide_eq_true_eq, List.all_eq_true] at h
  exact ⟨h.1, h.2.1, h.2.2⟩
theorem isW_own : ∀ x ∈ ([Str.ofString "key", Str.ofString "put", Str.ofString "set", Str.ofString "drop", Str.ofString "link", Str.ofString "none", Str.ofString "first", Str.ofString "all", Str.ofString "empty", Str.ofString "x"] : List Str), isWb x = true := by decide +kernel
theorem isW_sign {c : Nat} (h : c ∈ lett.cps.toList) : IsW ⟨#[c]⟩ := ⟨Nat.le_refl 1, by show 1 ≤ 8; decide, fun d hd => by
  have e : d = c := by simpa using hd
  rw [e]
  exact h⟩
theorem lett_len : lett.length = 26 := by decide +kernel
theorem lett_nd : lett.cps.toList.Nodup := by decide +kernel
theorem join_signs : ∀ cs : List Nat, (Txt.join (Str.ofString "") (cs.map fun c => (⟨#[c]⟩ : Str))).cps.toList = cs := by
  intro cs
  unfold Txt.join
  rw [StrLaws.glued_eq_join]
  have hs : (Str.ofString "").cps = #[] := by decide +kernel
  induction cs with
  | nil => rfl
  | cons c cs ih =>
    cases cs with
    | nil => rfl
    | cons c' cs =>
      rw [List.map_cons, List.map_cons]
      show (Str.append (Str.append ⟨#[c]⟩ (Str.ofString "")) (Str.join (Str.ofString "") (_ :: _))).cps.toList = _
      rw [List.map_cons] at ih
      simp [Str.append, hs, ih]
theorem cut1 {x : Str} (h : IsW x) : IsW (L2.cutS x none (some 1)) := by
  have e : (L2.cutS x none (some 1)).cps.toList = x.cps.toList.take 1 := by
    unfold L2.cutS
    rw [HT.sIx_none, show (1 : Int) = ((1 : Nat) : Int) from rfl, HT.sIx_nat, List.drop_zero, Nat.sub_zero, Nat.min_eq_left h.lo]
  have l : (L2.cutS x none (some 1)).length = 1 := by
    show (L2.cutS x none (some 1)).cps.size = 1
    rw [← Array.length_toList, e, List.length_take]
    have := h.lo
    show min 1 x.cps.toList.length = 1
    rw [Array.length_toList]
    exact Nat.min_eq_left this
  exact ⟨by omega, by omega, fun c hc => h.all c (by rw [e] at hc; exact List.mem_of_mem_take hc)⟩
theorem inL_strs {G : Gp} {w : Str} {n : Nat} : ∀ ws : List Str, inL (eqU (n + 1) G) (.str w) (ws.map .str) = some (decide (w ∈ ws))
  | [] => by simp [inL]
  | x :: ws => by
    rw [List.map_cons]
    unfold inL
    rw [v_eqSS]
    by_cases h : x = w
    · subst h
      simp
    · rw [decide_eq_false h]
      simp only []
      rw [inL_strs ws]
      congr 1
      simp [Ne.symm h]
def gOut (ws : List Str) : U → Option U
  | .str x => (match decide (x ∈ ws) with
    | true => none
    | false => some (.str x))
  | u => some u
theorem gOut_map {ws : List Str} : ∀ cs : List Nat, (cs.map fun c => U.str ⟨#[c]⟩).filterMap (gOut ws) = ((cs.map fun c => (⟨#[c]⟩ : Str)).filter fun x => !decide (x ∈ ws)).map U.str
  | [] => rfl
  | c :: cs => by
    rw [List.map_cons, List.map_cons, List.filterMap_cons, List.filter_cons]
    cases h : decide ((⟨#[c]⟩ : Str) ∈ ws) with
    | true =>
      have : gOut ws (.str ⟨#[c]⟩) = none := by simp only [gOut, h]
      rw [this]
      simp only [Bool.not_true, Bool.false_eq_true, if_false]
      exact gOut_map cs
    | false =>
      have : gOut ws (.str ⟨#[c]⟩) = some (.str ⟨#[c]⟩) := by simp only [gOut, h]
      rw [this]
      simp only [Bool.not_false, if_true, List.map_cons]
      rw [gOut_map cs]
theorem letS_nd : (lett.cps.toList.map fun c => (⟨#[c]⟩ : Str)).Nodup := by decide +kernel
theorem few_out {α : Type} [DecidableEq α] : ∀ (ws xs : List α), xs.Nodup → xs.length ≤ (xs.filter fun x => !decide (x ∈ ws)).length + ws.length
  | [], xs, _ => by
    have : (xs.filter fun x => !decide (x ∈ ([] : List α))) = xs := by simp
    rw [this]
    simp
  | w :: ws, xs, nd => by
    have h1 := few_out ws (xs.filter fun x => !decide (x = w)) (nd.filter _)
    have h2 : xs.length ≤ (xs.filter fun x => !decide (x = w)).length + 1 := by
      clear h1
      induction xs with
      | nil => simp
      | cons x xs ih =>
        rw [List.nodup_cons] at nd
        by_cases e : x = w
        · subst e
          have : xs.filter (fun y => !decide (y = x)) = xs := by
            rw [List.filter_eq_self]
            intro y hy
            have : y ≠ x := fun z => nd.1 (by rw [← z]; exact hy)
            simp [this]
          simp [this]
        · have := ih nd.2
          simp [e]
          omega
    rw [List.filter_filter] at h1
    have h3 : (fun x => (!decide (x ∈ ws)) && !decide (x = w)) = fun x => !decide (x ∈ w :: ws) := by
      funext x
      simp [List.mem_cons, Bool.and_comm]
    rw [h3] at h1
    rw [List.length_cons]
    omega
section
variable {MP : MProg} {n : Nat} {L : List Nat} {G : Gp} {st : Nat}
structure WI (st : Nat) (G : Gp) (i : Nat) (ws : List U) (G2 : Gp) : Prop where
  ds : DS st G2
  kp : Kp st G G2
  len : G.length ≤ G2.length
  cs : ∃ cs : List Nat, ws = cs.map (fun c => U.str ⟨#[c]⟩) ∧ cs.length = i ∧ ∀ c ∈ cs, c ∈ lett.cps.toList
/-- the word that is drawn, before it is made another one -/
def wordSrc : Ex := match mWords.body.drop 3 with
  | .for _ _ _ (.set _ e :: _) :: _ => e
  | _ => .cN
theorem word_ok (hf : MP.defs "" "_law_fill" = some mFill) (ht : MP.defs "" "_law_take" = some mTake) (h : DS st G) {a1 a3 a4 a5 a6 a7 a8 : SV} {P : U → Gp → Prop} {E : KXc}
    (k : ∀ (w : Str) (G1 : Gp), IsW w → DS st G1 → Kp st G G1 → G.length ≤ G1.length → P (.str w) G1) : SatT (ev ⟨false, run MP (n + 2), MP.flds, MP.sub⟩ L wordSrc [.val (.ref st), a1, .val (.str lett), a3, a4, a5, a6, a7, a8] G) P E () := by
  simp only [wordSrc, mWords, List.drop_succ_cons, List.drop_zero]
  o_readsAll
  refine take_abs hf ht h (by omega) (by omega) fun v G1 h0 h1 hd hk hl => ?_
  o_readsAll
  refine lc_T (by simp) (WI st G) ⟨hd, hk, by omega, [], rfl, rfl, by simp⟩ ?_ ?_
  · rintro i hi ws G2 ⟨hd2, hk2, hl2, cs, rfl, hcs, hcl⟩
    o_readsAll
    refine take_abs hf ht hd2 (by omega) (by omega) fun v2 G3 h20 h21 hd3 hk3 hl3 => ?_
    obtain ⟨c, hc, hcm⟩ := at_in (us := lett.cps.toList) h20 (by rw [Array.length_toList]; have := lett_len; unfold Str.length at this; omega)
    have hll := lett_len
    have inv : WI st G (i + 1) (cs.map (fun c => U.str ⟨#[c]⟩) ++ (some (U.str ⟨#[c]⟩)).toList) G3 := by
      refine ⟨hd3, hk2.trans hk3, by omega, cs ++ [c], by simp, by simp [hcs], fun c' hc' => ?_⟩
      rcases List.mem_append.mp hc' with z | z
      · exact hcl c' z
      · have : c' = c := by simpa using z
        rw [this]
        exact hcm
    o_readsAll
  · rintro ws G2 ⟨hd2, hk2, hl2, cs, rfl, hcs, hcl⟩
    have hlen : cs.length = (1 + v).toNat := by rw [hcs]; simp
    have hst : allStr (cs.map fun c => U.str ⟨#[c]⟩) = some (cs.map fun c => (⟨#[c]⟩ : Str)) := by
      clear hcs hcl hlen
      induction cs with
      | nil => rfl
      | cons c cs ih =>
        rw [List.map_cons]
        show (allStr (cs.map fun c => U.str ⟨#[c]⟩)).map _ = _
        rw [ih]
        rfl
    have hsum : ((cs.map fun c => (⟨#[c]⟩ : Str)).map (·.length)).sum = cs.length := by
      clear hcs hcl hlen hst
      induction cs with
      | nil => rfl
      | cons c cs ih =>
        rw [List.map_cons, List.map_cons, List.sum_cons, ih]
        show 1 + cs.length = cs.length + 1
        omega
    have hj := join_signs cs
    have hw : IsW (Txt.join (Str.ofString "") (cs.map fun c => (⟨#[c]⟩ : Str))) := by
      have hl : (Txt.join (Str.ofString "") (cs.map fun c => (⟨#[c]⟩ : Str))).length = cs.length := by
        show (Txt.join (Str.ofString "") (cs.map fun c => (⟨#[c]⟩ : Str))).cps.size = _
        rw [← Array.length_toList, hj]
      exact ⟨by omega, by omega, fun c hc => hcl c (by rw [hj] at hc; exact hc)⟩
    have key := k _ (G2 ++ [.lst (cs.map fun c => U.str ⟨#[c]⟩)]) hw (hd2.ke Ke.app) (hk2.trans Ke.app.kp) (by simp; omega)
    have he : (Str.ofString "").length = 0 := by decide +kernel
    clear hcs
    o_readsAll
def ownT : U := .tup [.str (Str.ofString "key"), .str (Str.ofString "put"), .str (Str.ofString "set"), .str (Str.ofString "drop"), .str (Str.ofString "link"), .str (Str.ofString "none"), .str (Str.ofString "first"), .str (Str.ofString "all"), .str (Str.ofString "empty"), .str (Str.ofString "x")]
structure VI (st r : Nat) (G : Gp) (i : Nat) (ws : List Str) (G1 : Gp) : Prop where
  at_ : G1[r]? = some (.lst (ws.map .str))
  len : ws.length = i
  isw : ∀ w ∈ ws, IsW w
  nd : ws.Nodup
  ds : DS st G1
  kp : Kp st G G1
def wordRest : List Stm := match mWords.body.drop 3 with
  | .for _ _ _ (_ :: r) :: _ => r
  | _ => []
theorem word_turn (hf : MP.defs "" "_law_fill" = some mFill) (ht : MP.defs "" "_law_take" = some mTake) {m : Int} {r i : Nat} {ws : List Str} {G1 : Gp} {a5 a6 a7 a8 : SV} {K : FK} (hi : i ≤ 6) (hr : st < r) (hrG : G.length ≤ r) (v : VI st r G i ws G1)
    (hnx : ∀ w G2 a6 a8, VI st r G (i + 1) (ws ++ [w]) G2 → K.nx [.val (.ref st), .val (.int m), .val (.str lett), .val ownT, .val (.ref r), a5, a6, a7, a8] G2) :
    FSatT (exB ⟨false, run MP (n + 2), MP.flds, MP.sub⟩ L (.set (.nm 6) wordSrc :: wordRest) [.val (.ref st), .val (.int m), .val (.str lett), .val ownT, .val (.ref r), a5, a6, a7, a8] G1) K () := by
  obtain ⟨h1, h2, h3, h4, h5, h6⟩ := v
  simp only [wordRest, mWords, List.drop_succ_cons, List.drop_zero]
  rw [m_set]
  refine word_ok hf ht h5 fun w1 G2 hw1 hd2 hk2 hl2 => ?_
  have e1 := hk2 _ _ (by omega) h1
  o_readsAll
  refine take_abs hf ht hd2 (by omega) (by omega) fun v1 G3 hv1 hv1' hd3 hk3 hl3 => ?_
  have e2 := hk3 _ _ (by omega) e1
  obtain ⟨own, hown, hownm⟩ := at_in (us := [U.str (Str.ofString "key"), .str (Str.ofString "put"), .str (Str.ofString "set"), .str (Str.ofString "drop"), .str (Str.ofString "link"), .str (Str.ofString "none"), .str (Str.ofString "first"), .str (Str.ofString "all"), .str (Str.ofString "empty"), .str (Str.ofString "x")]) hv1 (by simpa using hv1')
  obtain ⟨ow, rfl, how⟩ : ∃ ow, own = .str ow ∧ IsW ow := by
    have h := isW_own
    simp only [List.mem_cons, List.not_mem_nil, or_false] at hownm h
    rcases hownm with rfl | rfl | rfl | rfl | rfl | rfl | rfl | rfl | rfl | rfl <;> exact ⟨_, rfl, isW_of (h _ (by simp))⟩
  have hw1l := hw1.hi
  clear hownm
  have hsub : subU G3 ownT (.int v1) = some (.str ow) := hown
  o_readsAll
  refine take_abs hf ht hd3 (by omega) (by omega) fun v2 G4 hv2 hv2' hd4 hk4 hl4 => ?_
  have e3 := hk4 _ _ (by omega) e2
  obtain ⟨w2, hw2, hw2m⟩ := at_in (us := [U.str w1, .str ow, .str (L2.cutS w1 none (some 1))]) hv2 (by simpa using hv2')
  obtain ⟨w3, rfl, hw3⟩ : ∃ w3, w2 = .str w3 ∧ IsW w3 := by
    simp only [List.mem_cons, List.not_mem_nil, or_false] at hw2m
    rcases hw2m with rfl | rfl | rfl
    · exact ⟨_, rfl, hw1⟩
    · exact ⟨_, rfl, how⟩
    · exact ⟨_, rfl, cut1 hw1⟩
  clear hw2m
  have hin : inL (eqU 12 G4) (.str w3) (ws.map .str) = some (decide (w3 ∈ ws)) := inL_strs (n := 11) ws
  have hlen : ws.length < 1000000 := by omega
  have fin : ∀ (w : Str) (G5 : Gp) (a6 a8 : SV), IsW w → w ∉ ws → DS st G5 → Kp st G G5 → G5[r]? = some (.lst (ws.map .str)) → K.nx [.val (.ref st), .val (.int m), .val (.str lett), .val ownT, .val (.ref r), a5, a6, a7, a8] (G5.set r (.lst (ws.map .str ++ [.str w]))) := by
    intro w G5 a6 a8 g1 g2 g3 g4 g5
    refine hnx w _ a6 a8 ⟨?_, by simp [h2], fun x hx => ?_, ?_, ?_, ?_⟩
    · rw [List.getElem?_set_self (List.getElem?_eq_some_iff.mp g5).1, List.map_append]
      rfl
    · rcases List.mem_append.mp hx with z | z
      · exact h3 x z
      · have : x = w := by simpa using z
        rw [this]
        exact g1
    · rw [List.nodup_append]
      refine ⟨h4, by simp, fun a ha b hb => ?_⟩
      have : b = w := by simpa using hb
      rw [this]
      intro z
      exact g2 (by rw [← z]; exact ha)
    · exact g3.set_ hr
    · intro j c hj hc
      have hl := (List.getElem?_eq_some_iff.mp hc).1
      rw [List.getElem?_set_ne (by omega)]
      exact g4 j c hj hc
  o_readsAll
  refine br_cases (fun hp => ?_) (fun hp => ?_)
  · o_readsAll
    have hll := lett_len
    have hlL : lett.length ≤ 1000000 := by omega
    o_readsAll
    refine lcm_T (by rw [List.length_map, Array.length_toList]; exact hll.symm) (g := gOut ws) ?_ ?_
    · intro u hu
      obtain ⟨c, _, rfl⟩ := List.mem_map.mp hu
      clear hu
      have hin2 : inL (eqU 12 G4) (.str ⟨#[c]⟩) (ws.map .str) = some (decide ((⟨#[c]⟩ : Str) ∈ ws)) := inL_strs (n := 11) ws
      cases hq : decide ((⟨#[c]⟩ : Str) ∈ ws) with
      | true =>
        rw [hq] at hin2
        have hg : gOut ws (.str ⟨#[c]⟩) = none := by simp only [gOut, hq]
        o_readsAll
      | false =>
        rw [hq] at hin2
        have hg : gOut ws (.str ⟨#[c]⟩) = some (.str ⟨#[c]⟩) := by simp only [gOut, hq]
        o_readsAll
    · rw [gOut_map]
      have hfew := few_out ws (lett.cps.toList.map fun c => (⟨#[c]⟩ : Str)) letS_nd
      rw [List.length_map, Array.length_toList, show lett.cps.size = 26 from hll] at hfew
      have hmem : ∀ x ∈ ((lett.cps.toList.map fun c => (⟨#[c]⟩ : Str)).filter fun x => !decide (x ∈ ws)), IsW x ∧ x ∉ ws := by
        intro x hx
        rw [List.mem_filter] at hx
        obtain ⟨c, hc, rfl⟩ := List.mem_map.mp hx.1
        exact ⟨isW_sign hc, by simpa using hx.2⟩
      generalize ((lett.cps.toList.map fun c => (⟨#[c]⟩ : Str)).filter fun x => !decide (x ∈ ws)) = os at hfew hmem ⊢
      o_readsAll
      refine take_abs hf ht (hd4.ke Ke.app) (by omega) (by omega) fun v5 G5 hv5 hv5' hd5 hk5 hl5 => ?_
      obtain ⟨w5, hw5, hw5m⟩ := at_in (us := os.map U.str) hv5 (by rw [List.length_map]; omega)
      obtain ⟨w6, hw6, rfl⟩ := List.mem_map.mp hw5m
      have hst4 := hd4.lt
      have e4 : G5[G4.length]? = some (.lst (os.map .str)) := hk5 _ _ (by omega) v_new
      rw [hl4, hl3] at e4
      have e5 := hk5 _ _ (by omega) (Ke.at_ (Ke.app (t := [.lst (os.map .str)])) e3)
      have fin5 := fin w6 G5 (.val (.str w6)) a8 (hmem _ hw6).1 (hmem _ hw6).2 hd5 ((((h6.trans hk2).trans hk3).trans hk4).trans (Ke.app.kp.trans hk5)) e5
      o_readsAll
  · o_readsAll
    exact fin _ _ _ _ hw3 hp hd4 (((h6.trans hk2).trans hk3).trans hk4) e3
theorem words_ok (hf : MP.defs "" "_law_fill" = some mFill) (ht : MP.defs "" "_law_take" = some mTake) (hw : MP.defs "" "_law_words" = some mWords) (h : DS st G) {m : Nat} (hm : m ≤ 7) :
    Sat (run MP (n + 3) false L "" "_law_words" [.ref st, .int m] G) (fun u G1 => ∃ (r : Nat) (ws : List Str), u = .ref r ∧ G.length ≤ r ∧ VI st r G m ws G1) noE := by
  rw [sat_run hw rfl rfl]
  refine fsatT ?_
  generalize hK : (FK.mk _ _ _ _ _) = K
  rw [show mWords.body = [.set (.nm 2) (.cS "abcdefghijklmnopqrstuvwxyz"), .set (.nm 3) (.tup [.cS "key", .cS "put", .cS "set", .cS "drop", .cS "link", .cS "none", .cS "first", .cS "all", .cS "empty", .cS "x"]), .set (.nm 4) (.lst []), .for .range [.nm 1] (.nm 5) (.set (.nm 6) wordSrc :: wordRest), .ret (.nm 4)] from rfl]
  simp only [mWords, start, List.map_cons, List.map_nil, List.replicate, List.nil_append, List.cons_append]
  have hlt := h.lt
  have fin : ∀ ws G1, VI st G.length G m ws G1 → K.rt (.ref G.length) G1 := fun ws G1 v => by
    subst hK
    exact ⟨_, ws, rfl, Nat.le_refl _, v⟩
  o_readsAll
  refine for_T (by simp) (fun i d G1 => i ≤ m ∧ ∃ ws a5 a6 a7 a8, d = [.val (.ref st), .val (.int m), .val (.str lett), .val ownT, .val (.ref G.length), a5, a6, a7, a8] ∧ VI st G.length G i ws G1) ⟨by omega, [], _, _, _, _, rfl, v_new, rfl, by simp, by simp, h.ke Ke.app, Ke.app.kp⟩ ?_ ?_
  · rintro i hi d G1 ⟨_, ws, a5, a6, a7, a8, rfl, v⟩
    have him : i < m := by simpa using hi
    rw [f_body, List.getElem_map, List.getElem_range, asg_5, m_some]
    exact word_turn hf ht (by omega) hlt (Nat.le_refl _) v fun w G2 a6 a8 v2 => ⟨by omega, _, _, _, _, _, rfl, v2⟩
  · rintro d G1 ⟨_, ws, a5, a6, a7, a8, rfl, v⟩
    rw [List.length_map, List.length_range] at v
    have := fin ws G1 v
    o_readsAll
end
end PV
set_option Elab.async false
set_option linter.all false
set_option maxRecDepth 100000
set_option maxHeartbeats 8000000
namespace PV
open PySem PySem.Spec L2
namespace K01

def top (i : Nat) : Stmt := PySem.Challenge.pw_rowhold_k01_columns_made.main.body.getD i (.Pass ⟨0, 0, 0, 0⟩)

def mth (i j : Nat) : Stmt := match top i with
  | .ClassDef (body := b) .. => b.getD j (.Pass ⟨0, 0, 0, 0⟩)
  | _ => .Pass ⟨0, 0, 0, 0⟩

/-- 0 thing 1 signs 2 most 3 sign -/
def m_is_written : MDef := ⟨3, 4, [(.ret (.and [(.isi (.nm 0) "str"), (.cmp2 .LtE .LtE (.cI 1) (.bif "len" [(.nm 0)]) (.nm 2)), (.bif "all" [(.lc .plain [(.nm 0)] (.nm 3) [] (.cmp .In (.nm 3) (.nm 1)) [3])])]))]⟩

/-- 0 thing -/
def m_is_word : MDef := ⟨1, 1, [(.ret (.call "is_written" [(.nm 0), (.gl "LETTERS" (.str (Str.ofString "abcdefghijklmnopqrstuvwxyz"))), (.cI 8)]))]⟩

/-- 0 name 1 kind 2 empty 3 to 4 gone -/
def m_column_amiss : MDef := ⟨5, 5, [(.iff (.not (.e (.call "is_word" [(.nm 0)]))) [(.ret (.cS "name"))] []), (.iff (.e (.cmp .NotIn (.nm 1) (.gl "KINDS" (.tup [(.str (Str.ofString "whole")), (.str (Str.ofString "text")), (.str (Str.ofString "truth")), (.str (Str.ofString "link"))])))) [(.ret (.cS "kind"))] []), (.iff (.or [(.and [(.e (.cmp .Eq (.nm 1) (.cS "link"))), (.not (.e (.call "is_word" [(.nm 3)])))]), (.and [(.e (.cmp .NotEq (.nm 1) (.cS "link"))), (.e (.cmp .IsNot (.nm 3) .cN))])]) [(.ret (.cS "to"))] []), (.iff (.or [(.e (.cmp .NotIn (.nm 4) (.tup [(.gl "BAR" (.str (Str.ofString "bar"))), (.gl "EMPTY" (.str (Str.ofString "empty"))), (.gl "ALONG" (.str (Str.ofString "along")))]))), (.and [(.e (.cmp .Eq (.nm 4) (.gl "EMPTY" (.str (Str.ofString "empty"))))), (.not (.e (.nm 2)))]), (.and [(.e (.cmp .NotEq (.nm 4) (.gl "BAR" (.str (Str.ofString "bar"))))), (.e (.cmp .NotEq (.nm 1) (.cS "link")))])]) [(.ret (.cS "gone"))] []), (.ret (.cS ""))]⟩

/-- 0 self 1 name 2 kind 3 empty 4 once 5 to 6 gone 7 what -/
def m_Column_init : MDef := ⟨7, 8, [(.set (.nm 7) (.call "column_amiss" [(.nm 1), (.nm 2), (.nm 3), (.nm 5), (.nm 6)])), (.iff (.e (.cmp .NotEq (.nm 7) (.cS ""))) [(.raise "BadColumn" [(.nm 7)])] []), (.setF (.nm 0) "name" (.nm 1)), (.setF (.nm 0) "kind" (.nm 2)), (.setF (.nm 0) "empty" (.nm 3)), (.setF (.nm 0) "once" (.nm 4)), (.setF (.nm 0) "to" (.nm 5)), (.setF (.nm 0) "gone" (.nm 6))]⟩

/-- 0 _law_script -/
def m_law_fresh : MDef := ⟨1, 1, [(.ret (.lst [(.slc (.nm 0) none (some (.cI 63))), (.cI 0), (.cI 0), (.cB false)]))]⟩

/-- 0 _law_state 1 _law_cells 2 _law_nth 3 _law_seed 4 _law_k 5 _law_prime 6 _law_far -/
def m_law_fill : MDef := ⟨1, 7, [(.set (.tup [(.nm 1), (.nm 2)]) (.tup [(.sub (.nm 0) (.cI 0)), (.sub (.nm 0) (.cI 1))])), (.set (.nm 3) (.bin .Add (.bin .Mult (.cI 31) (.nm 2)) (.cI 7))), (.iff (.e (.cmp .Gt (.bif "len" [(.nm 1)]) (.cI 0))) [(.set (.nm 3) (.bin .Add (.bin .Mult (.cI 104729) (.bin .FloorDiv (.nm 2) (.bif "len" [(.nm 1)]))) (.sub (.nm 1) (.bin .Mod (.nm 2) (.bif "len" [(.nm 1)])))))] []), (.setI (.nm 0) (.cI 1) (.bin .Add (.nm 2) (.cI 1))), (.setI (.nm 0) (.cI 3) (.or [(.cmp .GtE (.nm 2) (.bif "len" [(.nm 1)])), (.cmp .Lt (.nm 3) (.bin .Pow (.cI 10) (.cI 18)))])), (.setI (.nm 0) (.cI 2) (.bin .Sub (.nm 3) (.bin .Pow (.cI 10) (.cI 18)))), (.iff (.e (.sub (.nm 0) (.cI 3))) [(.setI (.nm 0) (.cI 2) (.cI 0)), (.for .enum [(.tup [(.cI 2147483647), (.cI 2147483629), (.cI 2147483587), (.cI 2147483579), (.cI 2147483563)])] (.tup [(.nm 4), (.nm 5)]) [(.set (.nm 6) (.bin .Mod (.bin .Mult (.bin .Add (.bin .Add (.nm 3) (.bin .Mult (.bin .Mult (.cI 10007) (.nm 4)) (.nm 4))) (.bin .Mult (.cI 101) (.nm 4))) (.bin .Add (.cI 48271) (.bin .Mult (.cI 2) (.nm 4)))) (.nm 5))), (.setI (.nm 0) (.cI 2) (.bin .Add (.bin .Mult (.sub (.nm 0) (.cI 2)) (.nm 5)) (.bin .Mod (.bin .Pow (.nm 6) (.cI 5)) (.nm 5))))])] [])]⟩

/-- 0 _law_state 1 _law_many 2 _law_turns 3 _law_digit -/
def m_law_take : MDef := ⟨2, 4, [(.set (.nm 2) (.cI 0)), (.whl (.and [(.e (.cmp .Lt (.nm 2) (.cI 64))), (.or [(.e (.cmp .Eq (.sub (.nm 0) (.cI 2)) (.cI 0))), (.and [(.e (.sub (.nm 0) (.cI 3))), (.e (.cmp .Lt (.sub (.nm 0) (.cI 2)) (.bin .Mult (.nm 1) (.cI 4096))))])])]) [(.exp (.call "_law_fill" [(.nm 0)])), (.aug 2 .Add (.cI 1)), (.iff (.and [(.e (.sub (.nm 0) (.cI 3))), (.e (.cmp .Lt (.sub (.nm 0) (.cI 2)) (.bin .Mult (.nm 1) (.cI 4096))))]) [(.setI (.nm 0) (.cI 2) (.bin .Add (.sub (.nm 0) (.cI 2)) (.bin .Mult (.bin .Mult (.nm 1) (.cI 4096)) (.bin .Add (.cI 1) (.bin .Mod (.sub (.nm 0) (.cI 2)) (.cI 4093))))))] [])]), (.set (.nm 3) (.bin .Mod (.sub (.nm 0) (.cI 2)) (.nm 1))), (.setI (.nm 0) (.cI 2) (.bin .FloorDiv (.sub (.nm 0) (.cI 2)) (.nm 1))), (.ret (.nm 3))]⟩

/-- 0 _law_state 1 _law_many 2 _law_letters 3 _law_own 4 _law_words_here 5 _law_k 6 _law_word 7 _law_turn 8 _law_one -/
def m_law_words : MDef := ⟨2, 9, [(.set (.nm 2) (.cS "abcdefghijklmnopqrstuvwxyz")), (.set (.nm 3) (.tup [(.cS "key"), (.cS "put"), (.cS "set"), (.cS "drop"), (.cS "link"), (.cS "none"), (.cS "first"), (.cS "all"), (.cS "empty"), (.cS "x")])), (.set (.nm 4) (.lst [])), (.for .range [(.nm 1)] (.nm 5) [(.set (.nm 6) (.bm (.cS "") "join" [(.lc .range [(.bin .Add (.cI 1) (.call "_law_take" [(.nm 0), (.cI 8)]))] (.nm 7) [] (.sub (.nm 2) (.call "_law_take" [(.nm 0), (.cI 26)])) [7])])), (.set (.nm 6) (.sub (.tup [(.nm 6), (.sub (.nm 3) (.call "_law_take" [(.nm 0), (.cI 10)])), (.slc (.nm 6) none (some (.cI 1)))]) (.call "_law_take" [(.nm 0), (.cI 3)]))), (.iff (.e (.cmp .In (.nm 6) (.nm 4))) [(.set (.nm 6) (.sub (.lc .plain [(.nm 2)] (.nm 8) [(.e (.cmp .NotIn (.nm 8) (.nm 4)))] (.nm 8) [8]) (.call "_law_take" [(.nm 0), (.cI 20)])))] []), (.exp (.bm (.nm 4) "append" [(.nm 6)]))]), (.ret (.nm 4))]⟩

/-- 0 _law_state 1 _law_letter 2 _law_some -/
def m_law_odd : MDef := ⟨1, 3, [(.set (.nm 1) (.sub (.cS "abcdefghijklmnopqrstuvwxyz") (.call "_law_take" [(.nm 0), (.cI 26)]))), (.set (.nm 2) (.tup [.cN, (.cB true), (.cB false), (.cI 0), (.neg (.cI 1)), (.cI 7), (.cI 1000000), (.cS ""), (.nm 1), (.bin .Mult (.nm 1) (.cI 8)), (.bin .Mult (.nm 1) (.cI 9)), (.bm (.nm 1) "upper" []), (.bin .Add (.nm 1) (.cS "1"))])), (.set (.nm 2) (.bin .Add (.nm 2) (.tup [(.bin .Add (.nm 1) (.cS " ")), (.lst []), (.lst [(.nm 1)]), (.tup [(.nm 1)]), (.dct []), (.dct [(.nm 1), (.cI 1)])]))), (.set (.nm 2) (.bin .Add (.nm 2) (.tup [(.tup [(.cS "link")]), (.cS "Link"), (.cS "none"), (.cS "bar"), (.cS "link")]))), (.ret (.sub (.nm 2) (.call "_law_take" [(.nm 0), (.bif "len" [(.nm 2)])])))]⟩

/-- 0 _law_thing 1 _law_sign -/
def m_law_is_word : MDef := ⟨1, 2, [(.iff (.or [(.not (.e (.isi (.nm 0) "str"))), (.not (.e (.cmp2 .Lt .Lt (.cI 0) (.bif "len" [(.nm 0)]) (.cI 9))))]) [(.ret (.cB false))] []), (.ret (.bif "all" [(.lc .plain [(.nm 0)] (.nm 1) [] (.cmp .In (.nm 1) (.cS "abcdefghijklmnopqrstuvwxyz")) [1])]))]⟩

/-- 0 _law_state 1 _law_words_here 2 _law_brand 3 _law_bare 4 _law_lone 5 _law_fate -/
def m_law_parts : MDef := ⟨1, 6, [(.set (.nm 1) (.call "_law_words" [(.nm 0), (.cI 3)])), (.set (.nm 2) (.sub (.tup [(.cS "whole"), (.cS "text"), (.cS "truth"), (.cS "link"), (.cS "link")]) (.call "_law_take" [(.nm 0), (.cI 5)]))), (.set (.nm 3) (.cmp .Eq (.call "_law_take" [(.nm 0), (.cI 2)]) (.cI 0))), (.set (.nm 4) (.cmp .Eq (.call "_law_take" [(.nm 0), (.cI 2)]) (.cI 0))), (.set (.nm 5) (.sub (.tup [(.cS "bar"), (.cS "along"), (.cS "empty")]) (.call "_law_take" [(.nm 0), (.bin .Add (.cI 2) (.bif "int" [(.nm 3)]))]))), (.iff (.e (.cmp .NotEq (.nm 2) (.cS "link"))) [(.ret (.tup [(.sub (.nm 1) (.cI 0)), (.nm 2), (.nm 3), (.nm 4), .cN, (.cS "bar")]))] []), (.ret (.tup [(.sub (.nm 1) (.cI 0)), (.nm 2), (.nm 3), (.nm 4), (.sub (.nm 1) (.cI 1)), (.nm 5)]))]⟩

/-- 0 _law_parts_here 1 _law_name 2 _law_brand 3 _law_bare 4 _law_lone 5 _law_goal 6 _law_fate -/
def m_law_what : MDef := ⟨1, 7, [(.set (.tup [(.nm 1), (.nm 2), (.nm 3), (.nm 4), (.nm 5), (.nm 6)]) (.nm 0)), (.iff (.not (.e (.call "_law_is_word" [(.nm 1)]))) [(.ret (.cS "name"))] []), (.iff (.e (.cmp .NotIn (.nm 2) (.tup [(.cS "whole"), (.cS "text"), (.cS "truth"), (.cS "link")]))) [(.ret (.cS "kind"))] []), (.iff (.or [(.and [(.e (.cmp .Eq (.nm 2) (.cS "link"))), (.not (.e (.call "_law_is_word" [(.nm 5)])))]), (.and [(.e (.cmp .NotEq (.nm 2) (.cS "link"))), (.e (.cmp .IsNot (.nm 5) .cN))])]) [(.ret (.cS "to"))] []), (.iff (.or [(.e (.cmp .NotIn (.nm 6) (.tup [(.cS "bar"), (.cS "empty"), (.cS "along")]))), (.and [(.e (.cmp .Eq (.nm 6) (.cS "empty"))), (.not (.e (.nm 3)))]), (.and [(.e (.cmp .NotEq (.nm 6) (.cS "bar"))), (.e (.cmp .NotEq (.nm 2) (.cS "link")))])]) [(.ret (.cS "gone"))] []), (.ret (.cS ""))]⟩

/-- 0 _law_parts_here 1 _law_way 2 _law_name 3 _law_brand 4 _law_bare 5 _law_lone 6 _law_goal 7 _law_fate 8 _law_told 9 _law_refused 10 e -/
def m_law_made : MDef := ⟨2, 11, [(.set (.tup [(.nm 2), (.nm 3), (.nm 4), (.nm 5), (.nm 6), (.nm 7)]) (.nm 0)), (.set (.nm 8) .cN), (.set (.nm 9) (.tup [])), (.try1 [(.iff (.e (.cmp .Eq (.nm 1) (.cI 0))) [(.set (.nm 8) (.mk "Column" [(.nm 2)] ["kind", "empty", "once", "to", "gone"] [(.nm 3), (.nm 4), (.nm 5), (.nm 6), (.nm 7)] [.inl 0, .inl 1, .inl 2, .inl 3, .inl 4, .inl 5]))] [(.iff (.e (.cmp .Eq (.nm 1) (.cI 1))) [(.set (.nm 8) (.mk "Column" [(.nm 2)] ["gone", "to", "once", "empty", "kind"] [(.nm 7), (.nm 6), (.nm 5), (.nm 4), (.nm 3)] [.inl 0, .inl 5, .inl 4, .inl 3, .inl 2, .inl 1]))] [(.iff (.e (.cmp .Eq (.slc (.nm 0) (some (.cI 1)) none) (.tup [(.cS "whole"), (.cB false), (.cB false), .cN, (.cS "bar")]))) [(.set (.nm 8) (.mk "Column" [(.nm 2)] [] [] [.inl 0, .inr (.str (Str.ofString "whole")), .inr (.bl false), .inr (.bl false), .inr .non, .inr (.str (Str.ofString "bar"))]))] [(.iff (.e (.cmp .Eq (.slc (.nm 0) (some (.cI 2)) none) (.tup [(.cB false), (.cB false), .cN, (.cS "bar")]))) [(.set (.nm 8) (.mk "Column" [(.nm 2)] ["kind"] [(.nm 3)] [.inl 0, .inl 1, .inr (.bl false), .inr (.bl false), .inr .non, .inr (.str (Str.ofString "bar"))]))] [(.iff (.e (.cmp .Eq (.nm 7) (.cS "bar"))) [(.set (.nm 8) (.mk "Column" [(.nm 2)] ["to", "kind", "once", "empty"] [(.nm 6), (.nm 3), (.nm 5), (.nm 4)] [.inl 0, .inl 2, .inl 4, .inl 3, .inl 1, .inr (.str (Str.ofString "bar"))]))] [(.set (.nm 8) (.mk "Column" [(.nm 2)] ["gone", "kind", "to", "empty", "once"] [(.nm 7), (.nm 3), (.nm 6), (.nm 4), (.nm 5)] [.inl 0, .inl 2, .inl 4, .inl 5, .inl 3, .inl 1]))])])])])])] "BadColumn" 10 [(.set (.nm 9) (.tup [(.xat 10 "what"), (.xis 10 "HoldError"), (.xis 10 "ValueError")]))]), (.iff (.e (.cmp .Is (.nm 8) .cN)) [(.ret (.bin .Add (.tup [(.cS "BadColumn")]) (.nm 9)))] []), (.ret (.tup [(.cS "made"), (.attr (.nm 8) "name"), (.attr (.nm 8) "kind"), (.attr (.nm 8) "empty"), (.attr (.nm 8) "once"), (.attr (.nm 8) "to"), (.attr (.nm 8) "gone")]))]⟩

/-- 0 _law_state 1 _law_parts_here 2 _law_at 3 _law_thing -/
def m_law_otherwise : MDef := ⟨2, 4, [(.set (.nm 2) (.sub (.tup [(.cI 0), (.cI 1), (.cI 4), (.cI 5)]) (.call "_law_take" [(.nm 0), (.cI 4)]))), (.set (.nm 3) (.call "_law_odd" [(.nm 0)])), (.iff (.e (.cmp .Eq (.call "_law_take" [(.nm 0), (.cI 3)]) (.cI 0))) [(.set (.nm 3) (.sub (.tup [(.cS "whole"), (.cS "link"), (.cS "empty"), (.cS "along")]) (.call "_law_take" [(.nm 0), (.cI 4)])))] []), (.ret (.bin .Add (.bin .Add (.slc (.nm 1) none (some (.nm 2))) (.tup [(.nm 3)])) (.slc (.nm 1) (some (.bin .Add (.nm 2) (.cI 1))) none)))]⟩

/-- 0 _law_script 1 _law_state 2 _law_turn 3 _law_parts_here 4 _law_k 5 _law_due 6 _law_way 7 _law_found 8 _law_part -/
def m_law : MDef := ⟨1, 9, [(.set (.nm 1) (.call "_law_fresh" [(.nm 0)])), (.iff (.or [(.e (.cmp .NotEq (.gl "KINDS" (.tup [(.str (Str.ofString "whole")), (.str (Str.ofString "text")), (.str (Str.ofString "truth")), (.str (Str.ofString "link"))])) (.tup [(.cS "whole"), (.cS "text"), (.cS "truth"), (.cS "link")]))), (.e (.cmp .NotEq (.tup [(.gl "BAR" (.str (Str.ofString "bar"))), (.gl "EMPTY" (.str (Str.ofString "empty"))), (.gl "ALONG" (.str (Str.ofString "along")))]) (.tup [(.cS "bar"), (.cS "empty"), (.cS "along")])))]) [(.ret (.cB false))] []), (.for .range [(.cI 4)] (.nm 2) [(.set (.nm 3) (.call "_law_parts" [(.nm 1)])), (.for .range [(.call "_law_take" [(.nm 1), (.cI 3)])] (.nm 4) [(.set (.nm 3) (.call "_law_otherwise" [(.nm 1), (.nm 3)]))]), (.set (.nm 5) (.bin .Add (.tup [(.cS "made")]) (.nm 3))), (.iff (.e (.cmp .NotEq (.call "_law_what" [(.nm 3)]) (.cS ""))) [(.set (.nm 5) (.tup [(.cS "BadColumn"), (.call "_law_what" [(.nm 3)]), (.cB true), (.cB true)]))] []), (.for .range [(.cI 3)] (.nm 6) [(.set (.nm 7) (.call "_law_made" [(.nm 3), (.nm 6)])), (.iff (.or [(.e (.cmp .NotEq (.nm 7) (.nm 5))), (.and [(.e (.cmp .Eq (.sub (.nm 5) (.cI 0)) (.cS "made"))), (.not (.e (.bif "all" [(.lc .plain [(.slc (.nm 7) (some (.cI 3)) (some (.cI 5)))] (.nm 8) [] (.isi (.nm 8) "bool") [8])])))])]) [(.ret (.cB false))] [])])]), (.ret (.cB true))]⟩

def p_is_written : DefP := ⟨⟨("is_written", none), "is_written", "is_written", defArgs (top 9), defBody (top 9), defScope (top 9), [], []⟩, "", "is_written", ["thing", "signs", "most", "sign"], ["thing", "signs", "most"], m_is_written⟩

def p_is_word : DefP := ⟨⟨("is_word", none), "is_word", "is_word", defArgs (top 10), defBody (top 10), defScope (top 10), [], []⟩, "", "is_word", ["thing"], ["thing"], m_is_word⟩

def p_column_amiss : DefP := ⟨⟨("column_amiss", none), "column_amiss", "column_amiss", defArgs (top 11), defBody (top 11), defScope (top 11), [], []⟩, "", "column_amiss", ["name", "kind", "empty", "to", "gone"], ["name", "kind", "empty", "to", "gone"], m_column_amiss⟩

def p_Column_init : DefP := ⟨⟨("Column", some "__init__"), "__init__", "Column.__init__", defArgs (mth 12 0), defBody (mth 12 0), defScope (mth 12 0), [], [("kind", .str "whole"), ("empty", .bl false), ("once", .bl false), ("to", .non), ("gone", .str "bar")]⟩, "Column", "__init__", ["self", "name", "kind", "empty", "once", "to", "gone", "what"], ["self", "name", "kind", "empty", "once", "to", "gone"], m_Column_init⟩

def p_law_fresh : DefP := ⟨⟨("_law_fresh", none), "_law_fresh", "_law_fresh", defArgs (top 15), defBody (top 15), defScope (top 15), [], []⟩, "", "_law_fresh", ["_law_script"], ["_law_script"], m_law_fresh⟩

def p_law_fill : DefP := ⟨⟨("_law_fill", none), "_law_fill", "_law_fill", defArgs (top 16), defBody (top 16), defScope (top 16), [], []⟩, "", "_law_fill", ["_law_state", "_law_cells", "_law_nth", "_law_seed", "_law_k", "_law_prime", "_law_far"], ["_law_state"], m_law_fill⟩

def p_law_take : DefP := ⟨⟨("_law_take", none), "_law_take", "_law_take", defArgs (top 17), defBody (top 17), defScope (top 17), [], []⟩, "", "_law_take", ["_law_state", "_law_many", "_law_turns", "_law_digit"], ["_law_state", "_law_many"], m_law_take⟩

def p_law_words : DefP := ⟨⟨("_law_words", none), "_law_words", "_law_words", defArgs (top 18), defBody (top 18), defScope (top 18), [], []⟩, "", "_law_words", ["_law_state", "_law_many", "_law_letters", "_law_own", "_law_words_here", "_law_k", "_law_word", "_law_turn", "_law_one"], ["_law_state", "_law_many"], m_law_words⟩

def p_law_odd : DefP := ⟨⟨("_law_odd", none), "_law_odd", "_law_odd", defArgs (top 19), defBody (top 19), defScope (top 19), [], []⟩, "", "_law_odd", ["_law_state", "_law_letter", "_law_some"], ["_law_state"], m_law_odd⟩

def p_law_is_word : DefP := ⟨⟨("_law_is_word", none), "_law_is_word", "_law_is_word", defArgs (top 20), defBody (top 20), defScope (top 20), [], []⟩, "", "_law_is_word", ["_law_thing", "_law_sign"], ["_law_thing"], m_law_is_word⟩

def p_law_parts : DefP := ⟨⟨("_law_parts", none), "_law_parts", "_law_parts", defArgs (top 21), defBody (top 21), defScope (top 21), [], []⟩, "", "_law_parts", ["_law_state", "_law_words_here", "_law_brand", "_law_bare", "_law_lone", "_law_fate"], ["_law_state"], m_law_parts⟩

def p_law_what : DefP := ⟨⟨("_law_what", none), "_law_what", "_law_what", defArgs (top 22), defBody (top 22), defScope (top 22), [], []⟩, "", "_law_what", ["_law_parts_here", "_law_name", "_law_brand", "_law_bare", "_law_lone", "_law_goal", "_law_fate"], ["_law_parts_here"], m_law_what⟩

def p_law_made : DefP := ⟨⟨("_law_made", none), "_law_made", "_law_made", defArgs (top 23), defBody (top 23), defScope (top 23), [], []⟩, "", "_law_made", ["_law_parts_here", "_law_way", "_law_name", "_law_brand", "_law_bare", "_law_lone", "_law_goal", "_law_fate", "_law_told", "_law_refused", "e"], ["_law_parts_here", "_law_way"], m_law_made⟩

def p_law_otherwise : DefP := ⟨⟨("_law_otherwise", none), "_law_otherwise", "_law_otherwise", defArgs (top 24), defBody (top 24), defScope (top 24), [], []⟩, "", "_law_otherwise", ["_law_state", "_law_parts_here", "_law_at", "_law_thing"], ["_law_state", "_law_parts_here"], m_law_otherwise⟩

def p_law : DefP := ⟨⟨("law", none), "law", "law", defArgs (top 25), defBody (top 25), defScope (top 25), [], []⟩, "", "law", ["_law_script", "_law_state", "_law_turn", "_law_parts_here", "_law_k", "_law_due", "_law_way", "_law_found", "_law_part"], ["_law_script"], m_law⟩

def e_BadColumn : ErrP := ⟨"BadColumn", ["what"], ⟨("BadColumn", some "__init__"), "__init__", "BadColumn.__init__", defArgs (mth 2 0), defBody (mth 2 0), defScope (mth 2 0), [], []⟩, ["self", "what"], ["self", "what"]⟩

def T : Tab where
  gls := [("KINDS", (.tup [(.str (Str.ofString "whole")), (.str (Str.ofString "text")), (.str (Str.ofString "truth")), (.str (Str.ofString "link"))])), ("BAR", (.str (Str.ofString "bar"))), ("EMPTY", (.str (Str.ofString "empty"))), ("ALONG", (.str (Str.ofString "along"))), ("LETTERS", (.str (Str.ofString "abcdefghijklmnopqrstuvwxyz")))]
  fns := [("is_written", "is_written"), ("is_word", "is_word"), ("column_amiss", "column_amiss"), ("_law_fresh", "_law_fresh"), ("_law_fill", "_law_fill"), ("_law_take", "_law_take"), ("_law_words", "_law_words"), ("_law_odd", "_law_odd"), ("_law_is_word", "_law_is_word"), ("_law_parts", "_law_parts"), ("_law_what", "_law_what"), ("_law_made", "_law_made"), ("_law_otherwise", "_law_otherwise")]
  mks := [⟨"Column", "Column", 1, ["kind", "empty", "once", "to", "gone"], [.inl 0, .inl 1, .inl 2, .inl 3, .inl 4, .inl 5]⟩, ⟨"Column", "Column", 1, ["gone", "to", "once", "empty", "kind"], [.inl 0, .inl 5, .inl 4, .inl 3, .inl 2, .inl 1]⟩, ⟨"Column", "Column", 1, [], [.inl 0, .inr (.str (Str.ofString "whole")), .inr (.bl false), .inr (.bl false), .inr .non, .inr (.str (Str.ofString "bar"))]⟩, ⟨"Column", "Column", 1, ["kind"], [.inl 0, .inl 1, .inr (.bl false), .inr (.bl false), .inr .non, .inr (.str (Str.ofString "bar"))]⟩, ⟨"Column", "Column", 1, ["to", "kind", "once", "empty"], [.inl 0, .inl 2, .inl 4, .inl 3, .inl 1, .inr (.str (Str.ofString "bar"))]⟩, ⟨"Column", "Column", 1, ["gone", "kind", "to", "empty", "once"], [.inl 0, .inl 2, .inl 4, .inl 5, .inl 3, .inl 1]⟩]
  fld := ["empty", "gone", "kind", "name", "once", "to"]
  xfl := ["what"]
  errs := [("BadColumn", "BadColumn")]
  tys := [("BadColumn", "BadColumn"), ("HoldError", "HoldError"), ("ValueError", "ValueError")]

def D : PD where
  free := ["len", "all", "any", "int", "isinstance", "range", "enumerate", "zip", "bool", "str", "list", "tuple", "dict", "ValueError"]
  defs := [p_is_written, p_is_word, p_column_amiss, p_Column_init, p_law_fresh, p_law_fill, p_law_take, p_law_words, p_law_odd, p_law_is_word, p_law_parts, p_law_what, p_law_made, p_law_otherwise, p_law]
  cls := ["Column"]
  errs := [e_BadColumn]
  tys := [("BadColumn", true), ("HoldError", true), ("ValueError", false)]
  subs := [("BadColumn", "BadColumn", true), ("BadColumn", "HoldError", true), ("BadColumn", "ValueError", true)]
  T := T

theorem D_ok : D.okB = true := by decide +kernel

theorem mk_0 : MkOk D ⟨"Column", "Column", 1, ["kind", "empty", "once", "to", "gone"], [.inl 0, .inl 1, .inl 2, .inl 3, .inl 4, .inl 5]⟩ :=
  ⟨p_Column_init, by simp [D], rfl, rfl, rfl, by simp [D], rfl, fun K fd F => shape_of F 1 ["kind", "empty", "once", "to", "gone"] [] [1, 2, 3, 4, 5, 6] [.inl 0, .inl 1, .inl 2, .inl 3, .inl 4, .inl 5] (by simp [p_Column_init, He.DefD.kws]) (by simp [p_Column_init, He.DefD.kws, He.Dv.v]) (by decide +kernel) fun Dd doc pm an cdv ct us mv ws l1 l2 l3 => match us, mv, ws, l1, l2, l3 with
    | [x, u0], [], [w0, w1, w2, w3, w4], _, _, _ => rfl⟩

theorem mk_1 : MkOk D ⟨"Column", "Column", 1, ["gone", "to", "once", "empty", "kind"], [.inl 0, .inl 5, .inl 4, .inl 3, .inl 2, .inl 1]⟩ :=
  ⟨p_Column_init, by simp [D], rfl, rfl, rfl, by simp [D], rfl, fun K fd F => shape_of F 1 ["gone", "to", "once", "empty", "kind"] [] [1, 6, 5, 4, 3, 2] [.inl 0, .inl 5, .inl 4, .inl 3, .inl 2, .inl 1] (by simp [p_Column_init, He.DefD.kws]) (by simp [p_Column_init, He.DefD.kws, He.Dv.v]) (by decide +kernel) fun Dd doc pm an cdv ct us mv ws l1 l2 l3 => match us, mv, ws, l1, l2, l3 with
    | [x, u0], [], [w0, w1, w2, w3, w4], _, _, _ => rfl⟩

theorem mk_2 : MkOk D ⟨"Column", "Column", 1, [], [.inl 0, .inr (.str (Str.ofString "whole")), .inr (.bl false), .inr (.bl false), .inr .non, .inr (.str (Str.ofString "bar"))]⟩ :=
  ⟨p_Column_init, by simp [D], rfl, rfl, rfl, by simp [D], rfl, fun K fd F => shape_of F 1 [] [("kind", V.str "whole"), ("empty", V.bl false), ("once", V.bl false), ("to", V.non), ("gone", V.str "bar")] [1, 2, 3, 4, 5, 6] [.inl 0, .inr (.str (Str.ofString "whole")), .inr (.bl false), .inr (.bl false), .inr .non, .inr (.str (Str.ofString "bar"))] (by simp [p_Column_init, He.DefD.kws]) (by simp [p_Column_init, He.DefD.kws, He.Dv.v]) (by decide +kernel) fun Dd doc pm an cdv ct us mv ws l1 l2 l3 => match us, mv, ws, l1, l2, l3 with
    | [x, u0], [m0, m1, m2, m3, m4], [], _, _, _ => ⟨_, _, _, _, _, _, rfl, rfl, ⟨_, _, _, _, _, _, rfl, rfl, ⟨_, _, _, _, _, _, rfl, rfl, ⟨_, _, _, _, _, _, rfl, rfl, ⟨_, _, _, _, _, _, rfl, rfl, rfl⟩⟩⟩⟩⟩⟩

theorem mk_3 : MkOk D ⟨"Column", "Column", 1, ["kind"], [.inl 0, .inl 1, .inr (.bl false), .inr (.bl false), .inr .non, .inr (.str (Str.ofString "bar"))]⟩ :=
  ⟨p_Column_init, by simp [D], rfl, rfl, rfl, by simp [D], rfl, fun K fd F => shape_of F 1 ["kind"] [("empty", V.bl false), ("once", V.bl false), ("to", V.non), ("gone", V.str "bar")] [1, 6, 2, 3, 4, 5] [.inl 0, .inl 1, .inr (.bl false), .inr (.bl false), .inr .non, .inr (.str (Str.ofString "bar"))] (by simp [p_Column_init, He.DefD.kws]) (by simp [p_Column_init, He.DefD.kws, He.Dv.v]) (by decide +kernel) fun Dd doc pm an cdv ct us mv ws l1 l2 l3 => match us, mv, ws, l1, l2, l3 with
    | [x, u0], [m0, m1, m2, m3], [w0], _, _, _ => ⟨_, _, _, _, _, _, rfl, rfl, ⟨_, _, _, _, _, _, rfl, rfl, ⟨_, _, _, _, _, _, rfl, rfl, ⟨_, _, _, _, _, _, rfl, rfl, rfl⟩⟩⟩⟩⟩

theorem mk_4 : MkOk D ⟨"Column", "Column", 1, ["to", "kind", "once", "empty"], [.inl 0, .inl 2, .inl 4, .inl 3, .inl 1, .inr (.str (Str.ofString "bar"))]⟩ :=
  ⟨p_Column_init, by simp [D], rfl, rfl, rfl, by simp [D], rfl, fun K fd F => shape_of F 1 ["to", "kind", "once", "empty"] [("gone", V.str "bar")] [1, 4, 6, 5, 3, 2] [.inl 0, .inl 2, .inl 4, .inl 3, .inl 1, .inr (.str (Str.ofString "bar"))] (by simp [p_Column_init, He.DefD.kws]) (by simp [p_Column_init, He.DefD.kws, He.Dv.v]) (by decide +kernel) fun Dd doc pm an cdv ct us mv ws l1 l2 l3 => match us, mv, ws, l1, l2, l3 with
    | [x, u0], [m0], [w0, w1, w2, w3], _, _, _ => ⟨_, _, _, _, _, _, rfl, rfl, rfl⟩⟩

theorem mk_5 : MkOk D ⟨"Column", "Column", 1, ["gone", "kind", "to", "empty", "once"], [.inl 0, .inl 2, .inl 4, .inl 5, .inl 3, .inl 1]⟩ :=
  ⟨p_Column_init, by simp [D], rfl, rfl, rfl, by simp [D], rfl, fun K fd F => shape_of F 1 ["gone", "kind", "to", "empty", "once"] [] [1, 3, 5, 6, 4, 2] [.inl 0, .inl 2, .inl 4, .inl 5, .inl 3, .inl 1] (by simp [p_Column_init, He.DefD.kws]) (by simp [p_Column_init, He.DefD.kws, He.Dv.v]) (by decide +kernel) fun Dd doc pm an cdv ct us mv ws l1 l2 l3 => match us, mv, ws, l1, l2, l3 with
    | [x, u0], [], [w0, w1, w2, w3, w4], _, _, _ => rfl⟩

theorem D_mks : ∀ sh ∈ D.T.mks, MkOk D sh := by
  intro sh h

  rcases List.mem_cons.mp h with h | h
  · subst h
    exact mk_0

  rcases List.mem_cons.mp h with h | h
  · subst h
    exact mk_1

  rcases List.mem_cons.mp h with h | h
  · subst h
    exact mk_2

  rcases List.mem_cons.mp h with h | h
  · subst h
    exact mk_3

  rcases List.mem_cons.mp h with h | h
  · subst h
    exact mk_4

  rcases List.mem_cons.mp h with h | h
  · subst h
    exact mk_5

  · cases h

theorem d_is_written : D.mp.defs "" "is_written" = some m_is_written := by rfl

theorem d_is_word : D.mp.defs "" "is_word" = some m_is_word := by rfl

theorem d_column_amiss : D.mp.defs "" "column_amiss" = some m_column_amiss := by rfl

theorem d_Column_init : D.mp.defs "Column" "__init__" = some m_Column_init := by rfl

theorem d_law_fresh : D.mp.defs "" "_law_fresh" = some m_law_fresh := by rfl

theorem d_law_fill : D.mp.defs "" "_law_fill" = some m_law_fill := by rfl

theorem d_law_take : D.mp.defs "" "_law_take" = some m_law_take := by rfl

theorem d_law_words : D.mp.defs "" "_law_words" = some m_law_words := by rfl

theorem d_law_odd : D.mp.defs "" "_law_odd" = some m_law_odd := by rfl

theorem d_law_is_word : D.mp.defs "" "_law_is_word" = some m_law_is_word := by rfl

theorem d_law_parts : D.mp.defs "" "_law_parts" = some m_law_parts := by rfl

theorem d_law_what : D.mp.defs "" "_law_what" = some m_law_what := by rfl

theorem d_law_made : D.mp.defs "" "_law_made" = some m_law_made := by rfl

theorem d_law_otherwise : D.mp.defs "" "_law_otherwise" = some m_law_otherwise := by rfl

theorem d_law : D.mp.defs "" "law" = some m_law := by rfl

theorem f_BadColumn : D.mp.flds "BadColumn" = some ["what"] := by rfl

theorem s_BadColumn_BadColumn : D.mp.sub "BadColumn" "BadColumn" = some true := by rfl

theorem s_BadColumn_HoldError : D.mp.sub "BadColumn" "HoldError" = some true := by rfl

theorem s_BadColumn_ValueError : D.mp.sub "BadColumn" "ValueError" = some true := by rfl

end K01
end PV
set_option Elab.async false
set_option linter.all false
set_option maxRecDepth 100000
set_option maxHeartbeats 4000000
namespace PV
open PySem
local macro_rules | `(tactic| o_shape) => `(tactic| simp -dsimp only [↓m_br1, m_br1, ↓m_br0, m_br0, ↓m_brn, m_brn, ↓m_ok, m_ok, ↓m_exn, ↓m_bad, m_bad, ↓m_bind, ↓m_ofO, m_ofO, ↓m_site, m_site, ↓m_some, m_some, ↓m_none, m_none, ↓m_map, m_map, ↓m_obind, m_obind, ↓m_oite, m_oite, ↓m_someP, m_someP, ↓m_noneP, m_noneP, ↓m_bindP, m_bindP, ↓m_someW, m_someW, ↓m_noneW, m_noneW, ↓m_bindW, m_bindW, ↓m_iteW, m_iteW, ↓m_nm, ↓m_cI, ↓m_cS, ↓m_cB, ↓m_cN, ↓m_gl, ↓m_bin, ↓m_neg, ↓m_cmp, ↓m_cmp2, ↓m_and1, ↓m_or1, ↓m_and2, ↓m_or2, ↓m_not, ↓m_ite, m_ite, ↓m_ife, ↓m_call, ↓m_mk, ↓m_meth, ↓m_bif, ↓m_isi, ↓m_bm, ↓m_attr, ↓m_xat, ↓m_xis, ↓m_sub, ↓m_slc, ↓m_tup, ↓m_lst, ↓m_dct0, ↓m_dct, ↓m_ep0, ↓m_ep1, ↓m_lc, ↓l_body, ↓f_body, ↓m_es0, ↓m_es1, ↓m_eo0, ↓m_eo1, ↓m_te, ↓m_tnot, ↓m_tand1, ↓m_tor1, ↓m_tand2, ↓m_tor2, ↓m_ts0, ↓m_ts1, ↓m_b0, ↓m_app1, ↓m_app0, ↓m_iff, ↓m_set, ↓m_setI, ↓m_setF, ↓m_aug, ↓m_exp, ↓m_ret, ↓m_retN, ↓m_pass, ↓m_brk, ↓m_cont, ↓m_whl, ↓m_for, ↓m_raise, ↓m_try, v_len, ↓v_len, v_all, ↓v_all, v_any, ↓v_any, v_intb, ↓v_intb, v_inti, ↓v_inti, v_lenT, ↓v_lenT, v_lenS, ↓v_lenS, v_lenR, ↓v_lenR, v_lenCl, ↓v_lenCl, v_lenCd, ↓v_lenCd, v_lat, ↓v_lat, v_lstC, ↓v_lstC, v_seqT, ↓v_seqT, v_seqR, ↓v_seqR, v_asI, ↓v_asI, v_asB, ↓v_asB, v_asR, ↓v_asR, v_trB, ↓v_trB, v_trN, ↓v_trN, v_trI, ↓v_trI, v_trT, ↓v_trT, v_trR, ↓v_trR, v_truCl, ↓v_truCl, v_truCd, ↓v_truCd, v_subT, ↓v_subT, v_subS, ↓v_subS, v_subRI, ↓v_subRI, v_subRS, ↓v_subRS, v_subCIl, ↓v_subCIl, v_subCId, ↓v_subCId, v_subCSd, ↓v_subCSd, v_setRI, ↓v_setRI, v_setRS, ↓v_setRS, v_setCIl, ↓v_setCIl, v_setCId, ↓v_setCId, v_setCSd, ↓v_setCSd, v_attr, ↓v_attr, v_atC, ↓v_atC, v_insC, ↓v_insC, v_emD, ↓v_emD, v_keyI, ↓v_keyI, v_keyS, ↓v_keyS, v_isi_bool, ↓v_isi_bool, v_isi_int, ↓v_isi_int, v_isi_str, ↓v_isi_str, v_isi_list, ↓v_isi_list, v_isi_tuple, ↓v_isi_tuple, v_isi_dict, ↓v_isi_dict, v_memS, ↓v_memS, v_new, ↓v_new, v_isN, ↓v_isN, v_isB, ↓v_isB, v_isI, ↓v_isI, v_isS, ↓v_isS, v_isT, ↓v_isT, v_isR, ↓v_isR, v_isCl, ↓v_isCl, v_isCd, ↓v_isCd, v_app, ↓v_app, v_appC, ↓v_appC, v_join, ↓v_join, v_upper, ↓v_upper, v_bmA, ↓v_bmA, v_bmJ, ↓v_bmJ, v_bmU, ↓v_bmU, v_slcT, ↓v_slcT, v_slcS, ↓v_slcS, v_slcR, ↓v_slcR, v_addI, ↓v_addI, v_subI, ↓v_subI, v_mulI, ↓v_mulI, v_mulS, ↓v_mulS, v_divI, ↓v_divI, v_modI, ↓v_modI, v_powI, ↓v_powI, v_addS, ↓v_addS, v_addT, ↓v_addT, v_addL, ↓v_addL, v_augA, ↓v_augA, v_augS, ↓v_augS, v_eq, ↓v_eq, v_ne, ↓v_ne, v_is, ↓v_is, v_isnt, ↓v_isnt, v_in, ↓v_in, v_notin, ↓v_notin, v_lt, ↓v_lt, v_le, ↓v_le, v_gt, ↓v_gt, v_ge, ↓v_ge, v_isNonN, ↓v_isNonN, v_isNonB, ↓v_isNonB, v_isNonI, ↓v_isNonI, v_isNonS, ↓v_isNonS, v_isNonT, ↓v_isNonT, v_isNonR, ↓v_isNonR, v_memT, ↓v_memT, v_memR, ↓v_memR, v_memCl, ↓v_memCl, v_memCd, ↓v_memCd, v_walkT, ↓v_walkT, v_walkR, ↓v_walkR, v_walkR2, ↓v_walkR2, v_walkS, ↓v_walkS, v_walkET, ↓v_walkET, v_walkL, ↓v_walkL, v_walkE, ↓v_walkE, v_walkCl, ↓v_walkCl, v_walkCEl, ↓v_walkCEl, v_ix, ↓v_ix, v_wipe0, ↓v_wipe0, v_wipe1, ↓v_wipe1, v_eqNN, ↓v_eqNN, v_eqNB, ↓v_eqNB, v_eqNI, ↓v_eqNI, v_eqNS, ↓v_eqNS, v_eqNT, ↓v_eqNT, v_eqBN, ↓v_eqBN, v_eqBB, ↓v_eqBB, v_eqBI, ↓v_eqBI, v_eqBS, ↓v_eqBS, v_eqBT, ↓v_eqBT, v_eqIN, ↓v_eqIN, v_eqIB, ↓v_eqIB, v_eqII, ↓v_eqII, v_eqIS, ↓v_eqIS, v_eqIT, ↓v_eqIT, v_eqSN, ↓v_eqSN, v_eqSB, ↓v_eqSB, v_eqSI, ↓v_eqSI, v_eqSS, ↓v_eqSS, v_eqST, ↓v_eqST, v_eqTN, ↓v_eqTN, v_eqTB, ↓v_eqTB, v_eqTI, ↓v_eqTI, v_eqTS, ↓v_eqTS, v_eqTT, ↓v_eqTT, ↓m_eqL0, m_eqL0, ↓m_eqL1, m_eqL1, ↓m_eqL2, m_eqL2, ↓m_eqL3, m_eqL3, v_neU, ↓v_neU, v_neSS, ↓v_neSS, v_neII, ↓v_neII, v_neTT, ↓v_neTT, v_pf0, ↓v_pf0, v_pf1, ↓v_pf1, v_pf2, ↓v_pf2, v_lk1, ↓v_lk1, v_lk2, ↓v_lk2, v_lk0, ↓v_lk0, v_scr, ↓v_scr, v_scrV, ↓v_scrV, v_scrN, ↓v_scrN, v_scrE, ↓v_scrE, v_six0, ↓v_six0, v_six1, ↓v_six1, v_setNew, ↓v_setNew, v_putK1, ↓v_putK1, v_osq, ↓v_osq, v_dctN, ↓v_dctN, v_dctB, ↓v_dctB, v_dctI, ↓v_dctI, v_dctS, ↓v_dctS, v_dctT, ↓v_dctT, v_asgT, ↓v_asgT, v_asgs0, ↓v_asgs0, v_asgs1, ↓v_asgs1, v_bindP0, ↓v_bindP0, v_bindP1, ↓v_bindP1, v_bindP2, ↓v_bindP2, slot_0, slot_1, slot_2, slot_3, slot_4, slot_5, slot_6, slot_7, slot_8, slot_9, slot_10, slot_11, slot_12, slot_13, slot_14, slot_15, slot_16, slot_17, slot_18, slot_19, slot_20, slot_21, slot_22, slot_23, slot_24, slot_25, slot_26, slot_27, slot_28, slot_29, exn_0, exn_1, exn_2, exn_3, exn_4, exn_5, exn_6, exn_7, exn_8, exn_9, exn_10, exn_11, exn_12, exn_13, exn_14, exn_15, exn_16, exn_17, exn_18, exn_19, exn_20, exn_21, exn_22, exn_23, exn_24, exn_25, exn_26, exn_27, exn_28, exn_29, asg_0, asg_1, asg_2, asg_3, asg_4, asg_5, asg_6, asg_7, asg_8, asg_9, asg_10, asg_11, asg_12, asg_13, asg_14, asg_15, asg_16, asg_17, asg_18, asg_19, asg_20, asg_21, asg_22, asg_23, asg_24, asg_25, asg_26, asg_27, asg_28, asg_29, dset_0, dset_1, dset_2, dset_3, dset_4, dset_5, dset_6, dset_7, dset_8, dset_9, dset_10, dset_11, dset_12, dset_13, dset_14, dset_15, dset_16, dset_17, dset_18, dset_19, dset_20, dset_21, dset_22, dset_23, dset_24, dset_25, dset_26, dset_27, dset_28, dset_29, at_0, at_1, at_2, at_3, at_4, at_5, at_6, at_7, at_8, at_9, at_10, at_11, at_12, at_13, at_14, at_15, List.length_cons, List.length_nil, Option.bind_some, Option.bind_none, Option.map_some, Option.map_none, decide_true, decide_false, Bool.not_true, Bool.not_false, Bool.and_true, Bool.true_and, Bool.and_false, Bool.false_and, Bool.or_true, Bool.true_or, Bool.or_false, Bool.false_or, List.isEmpty_nil, List.isEmpty_cons, Option.isSome_some, Option.isNone_some, Option.isSome_none, Option.isNone_none, List.nil_append, List.cons_append, beq_self_eq_true, and_true, true_and, m_setH, List.map_cons, List.map_nil, eq_self, lim_eq, List.length_range, dep_eq, List.getElem?_set_self, List.getElem?_set_ne, List.set_set, List.length_set, ne_eq, not_false_eq_true, List.length_map, Int.reduceLT, Int.reduceLE, Int.reduceEq, Int.reduceNe, Int.reduceAdd, Int.reduceSub, Int.reduceMul, Int.reduceNeg, Int.reducePow, Int.reduceToNat, Nat.reduceAdd, Nat.reduceSub, Nat.reduceMul, Nat.reduceLT, Nat.reduceLeDiff, Nat.reduceEqDiff, String.reduceEq, String.reduceBEq, String.reduceBNe, ↓reduceIte, Int.reduceBEq, Int.reduceBNe, Nat.reduceBEq, Int.cast_ofNat_Int, Int.toNat_natCast, *])
local macro_rules | `(tactic| o_readsAll) => `(tactic| repeat (first | o_shape | refine br_mul (by omega) ?_ | refine br_div (by omega) ?_ | refine br_pow (by omega) ?_ | refine br_dec (by omega) ?_ | refine br_decn (by omega) ?_))
local macro_rules | `(tactic| o_reads) => `(tactic| repeat' (first | o_shape | refine br_mul (by omega) ?_ | refine br_div (by omega) ?_ | refine br_pow (by omega) ?_ | refine br_dec (by omega) ?_ | refine br_decn (by omega) ?_ | refine br_of (fun _ => ?_) (fun _ => ?_)))
local macro_rules | `(tactic| wide_line with $t:term) => `(tactic| simp -dsimp only [↓m_br1, m_br1, ↓m_br0, m_br0, ↓m_brn, m_brn, ↓m_ok, m_ok, ↓m_exn, ↓m_bad, m_bad, ↓m_bind, ↓m_ofO, m_ofO, ↓m_site, m_site, ↓m_some, m_some, ↓m_none, m_none, ↓m_map, m_map, ↓m_obind, m_obind, ↓m_oite, m_oite, ↓m_someP, m_someP, ↓m_noneP, m_noneP, ↓m_bindP, m_bindP, ↓m_someW, m_someW, ↓m_noneW, m_noneW, ↓m_bindW, m_bindW, ↓m_iteW, m_iteW, ↓m_nm, ↓m_cI, ↓m_cS, ↓m_cB, ↓m_cN, ↓m_gl, ↓m_bin, ↓m_neg, ↓m_cmp, ↓m_cmp2, ↓m_and1, ↓m_or1, ↓m_and2, ↓m_or2, ↓m_not, ↓m_ite, m_ite, ↓m_ife, ↓m_call, ↓m_mk, ↓m_meth, ↓m_bif, ↓m_isi, ↓m_bm, ↓m_attr, ↓m_xat, ↓m_xis, ↓m_sub, ↓m_slc, ↓m_tup, ↓m_lst, ↓m_dct0, ↓m_dct, ↓m_ep0, ↓m_ep1, ↓m_lc, ↓l_body, ↓f_body, ↓m_es0, ↓m_es1, ↓m_eo0, ↓m_eo1, ↓m_te, ↓m_tnot, ↓m_tand1, ↓m_tor1, ↓m_tand2, ↓m_tor2, ↓m_ts0, ↓m_ts1, ↓m_b0, ↓m_app1, ↓m_app0, ↓m_iff, ↓m_set, ↓m_setI, ↓m_setF, ↓m_aug, ↓m_exp, ↓m_ret, ↓m_retN, ↓m_pass, ↓m_brk, ↓m_cont, ↓m_whl, ↓m_for, ↓m_raise, ↓m_try, v_len, ↓v_len, v_all, ↓v_all, v_any, ↓v_any, v_intb, ↓v_intb, v_inti, ↓v_inti, v_lenT, ↓v_lenT, v_lenS, ↓v_lenS, v_lenR, ↓v_lenR, v_lenCl, ↓v_lenCl, v_lenCd, ↓v_lenCd, v_lat, ↓v_lat, v_lstC, ↓v_lstC, v_seqT, ↓v_seqT, v_seqR, ↓v_seqR, v_asI, ↓v_asI, v_asB, ↓v_asB, v_asR, ↓v_asR, v_trB, ↓v_trB, v_trN, ↓v_trN, v_trI, ↓v_trI, v_trT, ↓v_trT, v_trR, ↓v_trR, v_truCl, ↓v_truCl, v_truCd, ↓v_truCd, v_subT, ↓v_subT, v_subS, ↓v_subS, v_subRI, ↓v_subRI, v_subRS, ↓v_subRS, v_subCIl, ↓v_subCIl, v_subCId, ↓v_subCId, v_subCSd, ↓v_subCSd, v_setRI, ↓v_setRI, v_setRS, ↓v_setRS, v_setCIl, ↓v_setCIl, v_setCId, ↓v_setCId, v_setCSd, ↓v_setCSd, v_attr, ↓v_attr, v_atC, ↓v_atC, v_insC, ↓v_insC, v_emD, ↓v_emD, v_keyI, ↓v_keyI, v_keyS, ↓v_keyS, v_isi_bool, ↓v_isi_bool, v_isi_int, ↓v_isi_int, v_isi_str, ↓v_isi_str, v_isi_list, ↓v_isi_list, v_isi_tuple, ↓v_isi_tuple, v_isi_dict, ↓v_isi_dict, v_memS, ↓v_memS, v_new, ↓v_new, v_isN, ↓v_isN, v_isB, ↓v_isB, v_isI, ↓v_isI, v_isS, ↓v_isS, v_isT, ↓v_isT, v_isR, ↓v_isR, v_isCl, ↓v_isCl, v_isCd, ↓v_isCd, v_app, ↓v_app, v_appC, ↓v_appC, v_join, ↓v_join, v_upper, ↓v_upper, v_bmA, ↓v_bmA, v_bmJ, ↓v_bmJ, v_bmU, ↓v_bmU, v_slcT, ↓v_slcT, v_slcS, ↓v_slcS, v_slcR, ↓v_slcR, v_addI, ↓v_addI, v_subI, ↓v_subI, v_mulI, ↓v_mulI, v_mulS, ↓v_mulS, v_divI, ↓v_divI, v_modI, ↓v_modI, v_powI, ↓v_powI, v_addS, ↓v_addS, v_addT, ↓v_addT, v_addL, ↓v_addL, v_augA, ↓v_augA, v_augS, ↓v_augS, v_eq, ↓v_eq, v_ne, ↓v_ne, v_is, ↓v_is, v_isnt, ↓v_isnt, v_in, ↓v_in, v_notin, ↓v_notin, v_lt, ↓v_lt, v_le, ↓v_le, v_gt, ↓v_gt, v_ge, ↓v_ge, v_isNonN, ↓v_isNonN, v_isNonB, ↓v_isNonB, v_isNonI, ↓v_isNonI, v_isNonS, ↓v_isNonS, v_isNonT, ↓v_isNonT, v_isNonR, ↓v_isNonR, v_memT, ↓v_memT, v_memR, ↓v_memR, v_memCl, ↓v_memCl, v_memCd, ↓v_memCd, v_walkT, ↓v_walkT, v_walkR, ↓v_walkR, v_walkR2, ↓v_walkR2, v_walkS, ↓v_walkS, v_walkET, ↓v_walkET, v_walkL, ↓v_walkL, v_walkE, ↓v_walkE, v_walkCl, ↓v_walkCl, v_walkCEl, ↓v_walkCEl, v_ix, ↓v_ix, v_wipe0, ↓v_wipe0, v_wipe1, ↓v_wipe1, v_eqNN, ↓v_eqNN, v_eqNB, ↓v_eqNB, v_eqNI, ↓v_eqNI, v_eqNS, ↓v_eqNS, v_eqNT, ↓v_eqNT, v_eqBN, ↓v_eqBN, v_eqBB, ↓v_eqBB, v_eqBI, ↓v_eqBI, v_eqBS, ↓v_eqBS, v_eqBT, ↓v_eqBT, v_eqIN, ↓v_eqIN, v_eqIB, ↓v_eqIB, v_eqII, ↓v_eqII, v_eqIS, ↓v_eqIS, v_eqIT, ↓v_eqIT, v_eqSN, ↓v_eqSN, v_eqSB, ↓v_eqSB, v_eqSI, ↓v_eqSI, v_eqSS, ↓v_eqSS, v_eqST, ↓v_eqST, v_eqTN, ↓v_eqTN, v_eqTB, ↓v_eqTB, v_eqTI, ↓v_eqTI, v_eqTS, ↓v_eqTS, v_eqTT, ↓v_eqTT, ↓m_eqL0, m_eqL0, ↓m_eqL1, m_eqL1, ↓m_eqL2, m_eqL2, ↓m_eqL3, m_eqL3, v_neU, ↓v_neU, v_neSS, ↓v_neSS, v_neII, ↓v_neII, v_neTT, ↓v_neTT, v_pf0, ↓v_pf0, v_pf1, ↓v_pf1, v_pf2, ↓v_pf2, v_lk1, ↓v_lk1, v_lk2, ↓v_lk2, v_lk0, ↓v_lk0, v_scr, ↓v_scr, v_scrV, ↓v_scrV, v_scrN, ↓v_scrN, v_scrE, ↓v_scrE, v_six0, ↓v_six0, v_six1, ↓v_six1, v_setNew, ↓v_setNew, v_putK1, ↓v_putK1, v_osq, ↓v_osq, v_dctN, ↓v_dctN, v_dctB, ↓v_dctB, v_dctI, ↓v_dctI, v_dctS, ↓v_dctS, v_dctT, ↓v_dctT, v_asgT, ↓v_asgT, v_asgs0, ↓v_asgs0, v_asgs1, ↓v_asgs1, v_bindP0, ↓v_bindP0, v_bindP1, ↓v_bindP1, v_bindP2, ↓v_bindP2, slot_0, slot_1, slot_2, slot_3, slot_4, slot_5, slot_6, slot_7, slot_8, slot_9, slot_10, slot_11, slot_12, slot_13, slot_14, slot_15, slot_16, slot_17, slot_18, slot_19, slot_20, slot_21, slot_22, slot_23, slot_24, slot_25, slot_26, slot_27, slot_28, slot_29, exn_0, exn_1, exn_2, exn_3, exn_4, exn_5, exn_6, exn_7, exn_8, exn_9, exn_10, exn_11, exn_12, exn_13, exn_14, exn_15, exn_16, exn_17, exn_18, exn_19, exn_20, exn_21, exn_22, exn_23, exn_24, exn_25, exn_26, exn_27, exn_28, exn_29, asg_0, asg_1, asg_2, asg_3, asg_4, asg_5, asg_6, asg_7, asg_8, asg_9, asg_10, asg_11, asg_12, asg_13, asg_14, asg_15, asg_16, asg_17, asg_18, asg_19, asg_20, asg_21, asg_22, asg_23, asg_24, asg_25, asg_26, asg_27, asg_28, asg_29, dset_0, dset_1, dset_2, dset_3, dset_4, dset_5, dset_6, dset_7, dset_8, dset_9, dset_10, dset_11, dset_12, dset_13, dset_14, dset_15, dset_16, dset_17, dset_18, dset_19, dset_20, dset_21, dset_22, dset_23, dset_24, dset_25, dset_26, dset_27, dset_28, dset_29, at_0, at_1, at_2, at_3, at_4, at_5, at_6, at_7, at_8, at_9, at_10, at_11, at_12, at_13, at_14, at_15, List.length_cons, List.length_nil, Option.bind_some, Option.bind_none, Option.map_some, Option.map_none, decide_true, decide_false, Bool.not_true, Bool.not_false, Bool.and_true, Bool.true_and, Bool.and_false, Bool.false_and, Bool.or_true, Bool.true_or, Bool.or_false, Bool.false_or, List.isEmpty_nil, List.isEmpty_cons, Option.isSome_some, Option.isNone_some, Option.isSome_none, Option.isNone_none, List.nil_append, List.cons_append, beq_self_eq_true, and_true, true_and, m_setH, List.map_cons, List.map_nil, eq_self, lim_eq, List.length_range, dep_eq, List.getElem?_set_self, List.getElem?_set_ne, List.set_set, List.length_set, ne_eq, not_false_eq_true, List.length_map, Int.reduceLT, Int.reduceLE, Int.reduceEq, Int.reduceNe, Int.reduceAdd, Int.reduceSub, Int.reduceMul, Int.reduceNeg, Int.reducePow, Int.reduceToNat, Nat.reduceAdd, Nat.reduceSub, Nat.reduceMul, Nat.reduceLT, Nat.reduceLeDiff, Nat.reduceEqDiff, String.reduceEq, String.reduceBEq, String.reduceBNe, ↓reduceIte, Int.reduceBEq, Int.reduceBNe, Nat.reduceBEq, Int.cast_ofNat_Int, Int.toNat_natCast, $t:term, *])

/-! ### things of any kind -/
inductive ThC : Cell → Prop
  | l0 : ThC (.lst [])
  | l1 (x : Str) : ThC (.lst [.str x])
  | d0 : ThC (.dct [])
  | d1 (k : Key) (i : Int) : ThC (.dct [(k, .int i)])
inductive Th (st : Nat) (G : Gp) : U → Prop
  | non : Th st G .non
  | bl (b : Bool) : Th st G (.bl b)
  | int (i : Int) : Th st G (.int i)
  | str (x : Str) (h : x.length ≤ 100) : Th st G (.str x)
  | tup (x : Str) : Th st G (.tup [.str x])
  | ref (r : Nat) (c : Cell) (hr : r ≠ st) (h : G[r]? = some c) (hc : ThC c) : Th st G (.ref r)
def isS : U → Str → Bool
  | .str x, s => decide (x = s)
  | _, _ => false
section
variable {st : Nat} {G G1 : Gp} {u : U} {n : Nat}
theorem Th.kp (h : Th st G u) (k : Kp st G G1) : Th st G1 u := by
  cases h with
  | non => exact .non
  | bl b => exact .bl b
  | int i => exact .int i
  | str x h => exact .str x h
  | tup x => exact .tup x
  | ref r c hr h hc => exact .ref r c hr (k _ _ hr h) hc
theorem Th.isi (h : Th st G u) : isiU G u "str" = some (isStr u) := by
  cases h with
  | ref r c hr h hc =>
    show (G[r]?).bind (isiC "str") = _
    rw [h]
    cases hc <;> rfl
  | _ => rfl
theorem Th.isb (h : Th st G u) : isiU G u "bool" = some (match u with | .bl _ => true | _ => false) := by
  cases h with
  | ref r c hr h hc =>
    show (G[r]?).bind (isiC "bool") = _
    rw [h]
    cases hc <;> rfl
  | _ => rfl
theorem Th.eqS (h : Th st G u) (s : Str) : eqU (n + 1) G u (.str s) = some (isS u s) := by
  cases h with
  | ref r c hr h hc =>
    show plainRef G r = _
    unfold plainRef
    rw [h]
    cases hc <;> rfl
  | _ => rfl
theorem Th.eqS' (h : Th st G u) (s : Str) : eqU (n + 1) G (.str s) u = some (isS u s) := by
  cases h with
  | ref r c hr h hc =>
    show plainRef G r = _
    unfold plainRef
    rw [h]
    cases hc <;> rfl
  | str x h =>
    show some (decide (s = x)) = some (decide (x = s))
    congr 1
    rw [decide_eq_decide]
    exact eq_comm
  | _ => rfl
theorem Th.eqN (h : Th st G u) : eqU (n + 1) G u .non = some (isNon u) := by
  cases h with
  | ref r c hr h hc =>
    show plainRef G r = _
    unfold plainRef
    rw [h]
    cases hc <;> rfl
  | _ => rfl
theorem Th.self (h : Th st G u) : eqU (n + 3) G u u = some true := by
  cases h with
  | ref r c hr h hc =>
    show (match G[r]?, G[r]? with
    | some (.lst us), some (.lst ws) => if us.length = ws.length then eqL (eqU (n + 2) G) us ws else some false
    | some (.dct ks), some (.dct ls) => if ks.length = ls.length then eqD (eqU (n + 2) G) ls ks else none
    | some (.lst _), some (.dct _) => some false
    | some (.dct _), some (.lst _) => some false
    | _, _ => none) = _
    rw [h]
    cases hc with
    | l0 => rfl
    | l1 x =>
      show ((some (decide (x = x))).bind fun b => (some true).bind fun r => some (b && r)) = some true
      simp
    | d0 => rfl
    | d1 k i =>
      show ((some true).bind fun r => match lookK k [(k, U.int i)] with
        | none => some false
        | some w => (eqU (n + 2) G (.int i) w).bind fun b => some (b && r)) = some true
      have e : lookK k [(k, U.int i)] = some (.int i) := by simp [lookK]
      rw [e]
      show ((some (decide (i = i))).bind fun b => some (b && true)) = some true
      simp
  | bl b =>
    show some (decide (b = b)) = some true
    simp
  | int b =>
    show some (decide (b = b)) = some true
    simp
  | str b _ =>
    show some (decide (b = b)) = some true
    simp
  | non => rfl
  | tup x =>
    show ((some (decide (x = x))).bind fun b => (some true).bind fun r => some (b && r)) = some true
    simp
theorem inL_th (h : Th st G u) : ∀ ss : List Str, inL (eqU (n + 1) G) u (ss.map .str) = some (ss.any fun s => isS u s)
  | [] => rfl
  | s :: ss => by
    rw [List.map_cons]
    unfold inL
    rw [h.eqS' s]
    cases e : isS u s with
    | true => simp [e]
    | false =>
      simp only [List.any_cons, e, Bool.false_or]
      exact inL_th h ss
theorem isS_str {s : Str} (h : isS u s = true) : u = .str s := by
  cases u with
  | str x => exact congrArg _ (of_decide_eq_true h)
  | _ => cases h
theorem any_str {ss : List Str} (h : (ss.any fun s => isS u s) = true) : ∃ s, u = .str s := by
  obtain ⟨s, _, e⟩ := List.any_eq_true.mp h
  exact ⟨s, isS_str e⟩
theorem Th.hz (h : Th st G u) : ∀ x, u = .str x → x.length ≤ 1000000 := by
  rintro x rfl
  cases h with
  | str _ h => omega
end
namespace K01
abbrev MP : MProg := D.mp
theorem hFill : MP.defs "" "_law_fill" = some mFill := d_law_fill
theorem hTake : MP.defs "" "_law_take" = some mTake := d_law_take
theorem hWords : MP.defs "" "_law_words" = some mWords := d_law_words
theorem hWritten : MP.defs "" "is_written" = some mWritten := d_is_written
def isWd (u : U) : Bool := written lett 8 u
def inK (u : U) : Bool := [Str.ofString "whole", Str.ofString "text", Str.ofString "truth", Str.ofString "link"].any fun s => isS u s
def inG (u : U) : Bool := [Str.ofString "bar", Str.ofString "empty", Str.ofString "along"].any fun s => isS u s
/-- what is amiss of a column, the first of it -/
def amiss (name kind : U) (empty : Bool) (to gone : U) : String :=
  if isWd name = false then "name" else if inK kind = false then "kind" else
  if ((isS kind (Str.ofString "link") && !isWd to) || (!isS kind (Str.ofString "link") && !isNon to)) = true then "to" else
  if ((!inG gone || (isS gone (Str.ofString "empty") && !empty)) || (!isS gone (Str.ofString "bar") && !isS kind (Str.ofString "link"))) = true then "gone" else ""
section
variable {n st : Nat} {L : List Nat} {G : Gp}
theorem is_word_ok {u : U} (hu : Th st G u) : Sat (run MP (n + 2) false L "" "is_word" [u] G) (fun r G1 => r = .bl (isWd u) ∧ Ke G G1) noE := by
  rw [sat_run d_is_word rfl rfl]
  refine fsatT ?_
  simp only [m_is_word, start, List.map_cons, List.map_nil, List.replicate, List.nil_append, List.cons_append]
  o_readsAll
  exact SatT.use (written_ok hWritten hu.isi hu.hz _ _) fun r G1 h => h
theorem law_word_ok {u : U} (hu : Th st G u) : Sat (run MP (n + 1) false L "" "_law_is_word" [u] G) (fun r G1 => r = .bl (isWd u) ∧ Ke G G1) noE := by
  rw [sat_run d_law_is_word rfl rfl]
  refine fsatT ?_
  generalize hK : (FK.mk _ _ _ _ _) = K
  simp only [m_law_is_word, start, List.map_cons, List.map_nil, List.replicate, List.nil_append, List.cons_append]
  have h1 := hu.isi
  have fin : ∀ b G1, b = isWd u → Ke G G1 → K.rt (.bl b) G1 := fun b G1 e h => by subst hK; subst e; exact ⟨rfl, h⟩
  cases hu with
  | str x hx =>
    have hx2 : x.length ≤ 1000000 := by omega
    have hw : isWd (.str x) = (decide (1 ≤ (x.length : Int)) && (decide ((x.length : Int) ≤ 8) && x.cps.toList.all fun c => decide (c ∈ lett.cps.toList))) := rfl
    o_readsAll
    refine br_cases (fun h1 => ?_) (fun h1 => ?_)
    · o_readsAll
      refine br_cases (fun h2 => ?_) (fun h2 => ?_)
      · o_readsAll
        refine lcm_T (by simp [Str.length]) (g := gIn lett) ?_ ?_
        · intro u hu
          obtain ⟨c, _, rfl⟩ := List.mem_map.mp hu
          clear hu
          have hg : gIn lett (.str ⟨#[c]⟩) = some (.bl (decide (c ∈ (Str.ofString "abcdefghijklmnopqrstuvwxyz").cps.toList))) := rfl
          o_readsAll
        · rw [chars_map (f := fun c => decide (c ∈ lett.cps.toList)) fun c => rfl]
          have hb := allBl_map (fun c => decide (c ∈ lett.cps.toList)) x.cps.toList
          o_readsAll
          refine fin _ _ ?_ Ke.app
          rw [hw, decide_eq_true (show 1 ≤ (x.length : Int) by omega), decide_eq_true (show (x.length : Int) ≤ 8 by omega), List.all_map]
          rfl
      · o_readsAll
        refine fin _ _ ?_ (Ke.refl _)
        rw [hw, decide_eq_false (show ¬ (x.length : Int) ≤ 8 by omega), Bool.false_and, Bool.and_false]
    · o_readsAll
      refine fin _ _ ?_ (Ke.refl _)
      rw [hw, decide_eq_false (show ¬ 1 ≤ (x.length : Int) by omega), Bool.false_and]
  | ref r c hr h hc =>
    have := fin false G rfl (Ke.refl _)
    have hq : isiC "str" c = some false := by cases hc <;> rfl
    o_readsAll
  | _ =>
    have := fin false G rfl (Ke.refl _)
    o_readsAll
end
end K01
end PV
set_option Elab.async false
set_option linter.all false
set_option maxRecDepth 100000
set_option maxHeartbeats 4000000
namespace PV
open PySem
local macro_rules | `(tactic| o_shape) => `(tactic| simp -dsimp only [↓m_br1, m_br1, ↓m_br0, m_br0, ↓m_brn, m_brn, ↓m_ok, m_ok, ↓m_exn, ↓m_bad, m_bad, ↓m_bind, ↓m_ofO, m_ofO, ↓m_site, m_site, ↓m_some, m_some, ↓m_none, m_none, ↓m_map, m_map, ↓m_obind, m_obind, ↓m_oite, m_oite, ↓m_someP, m_someP, ↓m_noneP, m_noneP, ↓m_bindP, m_bindP, ↓m_someW, m_someW, ↓m_noneW, m_noneW, ↓m_bindW, m_bindW, ↓m_iteW, m_iteW, ↓m_nm, ↓m_cI, ↓m_cS, ↓m_cB, ↓m_cN, ↓m_gl, ↓m_bin, ↓m_neg, ↓m_cmp, ↓m_cmp2, ↓m_and1, ↓m_or1, ↓m_and2, ↓m_or2, ↓m_not, ↓m_ite, m_ite, ↓m_ife, ↓m_call, ↓m_mk, ↓m_meth, ↓m_bif, ↓m_isi, ↓m_bm, ↓m_attr, ↓m_xat, ↓m_xis, ↓m_sub, ↓m_slc, ↓m_tup, ↓m_lst, ↓m_dct0, ↓m_dct, ↓m_ep0, ↓m_ep1, ↓m_lc, ↓l_body, ↓f_body, ↓m_es0, ↓m_es1, ↓m_eo0, ↓m_eo1, ↓m_te, ↓m_tnot, ↓m_tand1, ↓m_tor1, ↓m_tand2, ↓m_tor2, ↓m_ts0, ↓m_ts1, ↓m_b0, ↓m_app1, ↓m_app0, ↓m_iff, ↓m_set, ↓m_setI, ↓m_setF, ↓m_aug, ↓m_exp, ↓m_ret, ↓m_retN, ↓m_pass, ↓m_brk, ↓m_cont, ↓m_whl, ↓m_for, ↓m_raise, ↓m_try, v_len, ↓v_len, v_all, ↓v_all, v_any, ↓v_any, v_intb, ↓v_intb, v_inti, ↓v_inti, v_lenT, ↓v_lenT, v_lenS, ↓v_lenS, v_lenR, ↓v_lenR, v_lenCl, ↓v_lenCl, v_lenCd, ↓v_lenCd, v_lat, ↓v_lat, v_lstC, ↓v_lstC, v_seqT, ↓v_seqT, v_seqR, ↓v_seqR, v_asI, ↓v_asI, v_asB, ↓v_asB, v_asR, ↓v_asR, v_trB, ↓v_trB, v_trN, ↓v_trN, v_trI, ↓v_trI, v_trT, ↓v_trT, v_trR, ↓v_trR, v_truCl, ↓v_truCl, v_truCd, ↓v_truCd, v_subT, ↓v_subT, v_subS, ↓v_subS, v_subRI, ↓v_subRI, v_subRS, ↓v_subRS, v_subCIl, ↓v_subCIl, v_subCId, ↓v_subCId, v_subCSd, ↓v_subCSd, v_setRI, ↓v_setRI, v_setRS, ↓v_setRS, v_setCIl, ↓v_setCIl, v_setCId, ↓v_setCId, v_setCSd, ↓v_setCSd, v_attr, ↓v_attr, v_atC, ↓v_atC, v_insC, ↓v_insC, v_emD, ↓v_emD, v_keyI, ↓v_keyI, v_keyS, ↓v_keyS, v_isi_bool, ↓v_isi_bool, v_isi_int, ↓v_isi_int, v_isi_str, ↓v_isi_str, v_isi_list, ↓v_isi_list, v_isi_tuple, ↓v_isi_tuple, v_isi_dict, ↓v_isi_dict, v_memS, ↓v_memS, v_new, ↓v_new, v_isN, ↓v_isN, v_isB, ↓v_isB, v_isI, ↓v_isI, v_isS, ↓v_isS, v_isT, ↓v_isT, v_isR, ↓v_isR, v_isCl, ↓v_isCl, v_isCd, ↓v_isCd, v_app, ↓v_app, v_appC, ↓v_appC, v_join, ↓v_join, v_upper, ↓v_upper, v_bmA, ↓v_bmA, v_bmJ, ↓v_bmJ, v_bmU, ↓v_bmU, v_slcT, ↓v_slcT, v_slcS, ↓v_slcS, v_slcR, ↓v_slcR, v_addI, ↓v_addI, v_subI, ↓v_subI, v_mulI, ↓v_mulI, v_mulS, ↓v_mulS, v_divI, ↓v_divI, v_modI, ↓v_modI, v_powI, ↓v_powI, v_addS, ↓v_addS, v_addT, ↓v_addT, v_addL, ↓v_addL, v_augA, ↓v_augA, v_augS, ↓v_augS, v_eq, ↓v_eq, v_ne, ↓v_ne, v_is, ↓v_is, v_isnt, ↓v_isnt, v_in, ↓v_in, v_notin, ↓v_notin, v_lt, ↓v_lt, v_le, ↓v_le, v_gt, ↓v_gt, v_ge, ↓v_ge, v_isNonN, ↓v_isNonN, v_isNonB, ↓v_isNonB, v_isNonI, ↓v_isNonI, v_isNonS, ↓v_isNonS, v_isNonT, ↓v_isNonT, v_isNonR, ↓v_isNonR, v_memT, ↓v_memT, v_memR, ↓v_memR, v_memCl, ↓v_memCl, v_memCd, ↓v_memCd, v_walkT, ↓v_walkT, v_walkR, ↓v_walkR, v_walkR2, ↓v_walkR2, v_walkS, ↓v_walkS, v_walkET, ↓v_walkET, v_walkL, ↓v_walkL, v_walkE, ↓v_walkE, v_walkCl, ↓v_walkCl, v_walkCEl, ↓v_walkCEl, v_ix, ↓v_ix, v_wipe0, ↓v_wipe0, v_wipe1, ↓v_wipe1, v_eqNN, ↓v_eqNN, v_eqNB, ↓v_eqNB, v_eqNI, ↓v_eqNI, v_eqNS, ↓v_eqNS, v_eqNT, ↓v_eqNT, v_eqBN, ↓v_eqBN, v_eqBB, ↓v_eqBB, v_eqBI, ↓v_eqBI, v_eqBS, ↓v_eqBS, v_eqBT, ↓v_eqBT, v_eqIN, ↓v_eqIN, v_eqIB, ↓v_eqIB, v_eqII, ↓v_eqII, v_eqIS, ↓v_eqIS, v_eqIT, ↓v_eqIT, v_eqSN, ↓v_eqSN, v_eqSB, ↓v_eqSB, v_eqSI, ↓v_eqSI, v_eqSS, ↓v_eqSS, v_eqST, ↓v_eqST, v_eqTN, ↓v_eqTN, v_eqTB, ↓v_eqTB, v_eqTI, ↓v_eqTI, v_eqTS, ↓v_eqTS, v_eqTT, ↓v_eqTT, ↓m_eqL0, m_eqL0, ↓m_eqL1, m_eqL1, ↓m_eqL2, m_eqL2, ↓m_eqL3, m_eqL3, v_neU, ↓v_neU, v_neSS, ↓v_neSS, v_neII, ↓v_neII, v_neTT, ↓v_neTT, v_pf0, ↓v_pf0, v_pf1, ↓v_pf1, v_pf2, ↓v_pf2, v_lk1, ↓v_lk1, v_lk2, ↓v_lk2, v_lk0, ↓v_lk0, v_scr, ↓v_scr, v_scrV, ↓v_scrV, v_scrN, ↓v_scrN, v_scrE, ↓v_scrE, v_six0, ↓v_six0, v_six1, ↓v_six1, v_setNew, ↓v_setNew, v_putK1, ↓v_putK1, v_osq, ↓v_osq, v_dctN, ↓v_dctN, v_dctB, ↓v_dctB, v_dctI, ↓v_dctI, v_dctS, ↓v_dctS, v_dctT, ↓v_dctT, v_asgT, ↓v_asgT, v_asgs0, ↓v_asgs0, v_asgs1, ↓v_asgs1, v_bindP0, ↓v_bindP0, v_bindP1, ↓v_bindP1, v_bindP2, ↓v_bindP2, slot_0, slot_1, slot_2, slot_3, slot_4, slot_5, slot_6, slot_7, slot_8, slot_9, slot_10, slot_11, slot_12, slot_13, slot_14, slot_15, slot_16, slot_17, slot_18, slot_19, slot_20, slot_21, slot_22, slot_23, slot_24, slot_25, slot_26, slot_27, slot_28, slot_29, exn_0, exn_1, exn_2, exn_3, exn_4, exn_5, exn_6, exn_7, exn_8, exn_9, exn_10, exn_11, exn_12, exn_13, exn_14, exn_15, exn_16, exn_17, exn_18, exn_19, exn_20, exn_21, exn_22, exn_23, exn_24, exn_25, exn_26, exn_27, exn_28, exn_29, asg_0, asg_1, asg_2, asg_3, asg_4, asg_5, asg_6, asg_7, asg_8, asg_9, asg_10, asg_11, asg_12, asg_13, asg_14, asg_15, asg_16, asg_17, asg_18, asg_19, asg_20, asg_21, asg_22, asg_23, asg_24, asg_25, asg_26, asg_27, asg_28, asg_29, dset_0, dset_1, dset_2, dset_3, dset_4, dset_5, dset_6, dset_7, dset_8, dset_9, dset_10, dset_11, dset_12, dset_13, dset_14, dset_15, dset_16, dset_17, dset_18, dset_19, dset_20, dset_21, dset_22, dset_23, dset_24, dset_25, dset_26, dset_27, dset_28, dset_29, at_0, at_1, at_2, at_3, at_4, at_5, at_6, at_7, at_8, at_9, at_10, at_11, at_12, at_13, at_14, at_15, List.length_cons, List.length_nil, Option.bind_some, Option.bind_none, Option.map_some, Option.map_none, decide_true, decide_false, Bool.not_true, Bool.not_false, Bool.and_true, Bool.true_and, Bool.and_false, Bool.false_and, Bool.or_true, Bool.true_or, Bool.or_false, Bool.false_or, List.isEmpty_nil, List.isEmpty_cons, Option.isSome_some, Option.isNone_some, Option.isSome_none, Option.isNone_none, List.nil_append, List.cons_append, beq_self_eq_true, and_true, true_and, m_setH, List.map_cons, List.map_nil, eq_self, lim_eq, List.length_range, dep_eq, List.getElem?_set_self, List.getElem?_set_ne, List.set_set, List.length_set, ne_eq, not_false_eq_true, List.length_map, Int.reduceLT, Int.reduceLE, Int.reduceEq, Int.reduceNe, Int.reduceAdd, Int.reduceSub, Int.reduceMul, Int.reduceNeg, Int.reducePow, Int.reduceToNat, Nat.reduceAdd, Nat.reduceSub, Nat.reduceMul, Nat.reduceLT, Nat.reduceLeDiff, Nat.reduceEqDiff, String.reduceEq, String.reduceBEq, String.reduceBNe, ↓reduceIte, Int.reduceBEq, Int.reduceBNe, Nat.reduceBEq, Int.cast_ofNat_Int, Int.toNat_natCast, *])
local macro_rules | `(tactic| o_readsAll) => `(tactic| repeat (first | o_shape | refine br_mul (by omega) ?_ | refine br_div (by omega) ?_ | refine br_pow (by omega) ?_ | refine br_dec (by omega) ?_ | refine br_decn (by omega) ?_))
local macro_rules | `(tactic| o_reads) => `(tactic| repeat' (first | o_shape | refine br_mul (by omega) ?_ | refine br_div (by omega) ?_ | refine br_pow (by omega) ?_ | refine br_dec (by omega) ?_ | refine br_decn (by omega) ?_ | refine br_of (fun _ => ?_) (fun _ => ?_)))
local macro_rules | `(tactic| wide_line with $t:term) => `(tactic| simp -dsimp only [↓m_br1, m_br1, ↓m_br0, m_br0, ↓m_brn, m_brn, ↓m_ok, m_ok, ↓m_exn, ↓m_bad, m_bad, ↓m_bind, ↓m_ofO, m_ofO, ↓m_site, m_site, ↓m_some, m_some, ↓m_none, m_none, ↓m_map, m_map, ↓m_obind, m_obind, ↓m_oite, m_oite, ↓m_someP, m_someP, ↓m_noneP, m_noneP, ↓m_bindP, m_bindP, ↓m_someW, m_someW, ↓m_noneW, m_noneW, ↓m_bindW, m_bindW, ↓m_iteW, m_iteW, ↓m_nm, ↓m_cI, ↓m_cS, ↓m_cB, ↓m_cN, ↓m_gl, ↓m_bin, ↓m_neg, ↓m_cmp, ↓m_cmp2, ↓m_and1, ↓m_or1, ↓m_and2, ↓m_or2, ↓m_not, ↓m_ite, m_ite, ↓m_ife, ↓m_call, ↓m_mk, ↓m_meth, ↓m_bif, ↓m_isi, ↓m_bm, ↓m_attr, ↓m_xat, ↓m_xis, ↓m_sub, ↓m_slc, ↓m_tup, ↓m_lst, ↓m_dct0, ↓m_dct, ↓m_ep0, ↓m_ep1, ↓m_lc, ↓l_body, ↓f_body, ↓m_es0, ↓m_es1, ↓m_eo0, ↓m_eo1, ↓m_te, ↓m_tnot, ↓m_tand1, ↓m_tor1, ↓m_tand2, ↓m_tor2, ↓m_ts0, ↓m_ts1, ↓m_b0, ↓m_app1, ↓m_app0, ↓m_iff, ↓m_set, ↓m_setI, ↓m_setF, ↓m_aug, ↓m_exp, ↓m_ret, ↓m_retN, ↓m_pass, ↓m_brk, ↓m_cont, ↓m_whl, ↓m_for, ↓m_raise, ↓m_try, v_len, ↓v_len, v_all, ↓v_all, v_any, ↓v_any, v_intb, ↓v_intb, v_inti, ↓v_inti, v_lenT, ↓v_lenT, v_lenS, ↓v_lenS, v_lenR, ↓v_lenR, v_lenCl, ↓v_lenCl, v_lenCd, ↓v_lenCd, v_lat, ↓v_lat, v_lstC, ↓v_lstC, v_seqT, ↓v_seqT, v_seqR, ↓v_seqR, v_asI, ↓v_asI, v_asB, ↓v_asB, v_asR, ↓v_asR, v_trB, ↓v_trB, v_trN, ↓v_trN, v_trI, ↓v_trI, v_trT, ↓v_trT, v_trR, ↓v_trR, v_truCl, ↓v_truCl, v_truCd, ↓v_truCd, v_subT, ↓v_subT, v_subS, ↓v_subS, v_subRI, ↓v_subRI, v_subRS, ↓v_subRS, v_subCIl, ↓v_subCIl, v_subCId, ↓v_subCId, v_subCSd, ↓v_subCSd, v_setRI, ↓v_setRI, v_setRS, ↓v_setRS, v_setCIl, ↓v_setCIl, v_setCId, ↓v_setCId, v_setCSd, ↓v_setCSd, v_attr, ↓v_attr, v_atC, ↓v_atC, v_insC, ↓v_insC, v_emD, ↓v_emD, v_keyI, ↓v_keyI, v_keyS, ↓v_keyS, v_isi_bool, ↓v_isi_bool, v_isi_int, ↓v_isi_int, v_isi_str, ↓v_isi_str, v_isi_list, ↓v_isi_list, v_isi_tuple, ↓v_isi_tuple, v_isi_dict, ↓v_isi_dict, v_memS, ↓v_memS, v_new, ↓v_new, v_isN, ↓v_isN, v_isB, ↓v_isB, v_isI, ↓v_isI, v_isS, ↓v_isS, v_isT, ↓v_isT, v_isR, ↓v_isR, v_isCl, ↓v_isCl, v_isCd, ↓v_isCd, v_app, ↓v_app, v_appC, ↓v_appC, v_join, ↓v_join, v_upper, ↓v_upper, v_bmA, ↓v_bmA, v_bmJ, ↓v_bmJ, v_bmU, ↓v_bmU, v_slcT, ↓v_slcT, v_slcS, ↓v_slcS, v_slcR, ↓v_slcR, v_addI, ↓v_addI, v_subI, ↓v_subI, v_mulI, ↓v_mulI, v_mulS, ↓v_mulS, v_divI, ↓v_divI, v_modI, ↓v_modI, v_powI, ↓v_powI, v_addS, ↓v_addS, v_addT, ↓v_addT, v_addL, ↓v_addL, v_augA, ↓v_augA, v_augS, ↓v_augS, v_eq, ↓v_eq, v_ne, ↓v_ne, v_is, ↓v_is, v_isnt, ↓v_isnt, v_in, ↓v_in, v_notin, ↓v_notin, v_lt, ↓v_lt, v_le, ↓v_le, v_gt, ↓v_gt, v_ge, ↓v_ge, v_isNonN, ↓v_isNonN, v_isNonB, ↓v_isNonB, v_isNonI, ↓v_isNonI, v_isNonS, ↓v_isNonS, v_isNonT, ↓v_isNonT, v_isNonR, ↓v_isNonR, v_memT, ↓v_memT, v_memR, ↓v_memR, v_memCl, ↓v_memCl, v_memCd, ↓v_memCd, v_walkT, ↓v_walkT, v_walkR, ↓v_walkR, v_walkR2, ↓v_walkR2, v_walkS, ↓v_walkS, v_walkET, ↓v_walkET, v_walkL, ↓v_walkL, v_walkE, ↓v_walkE, v_walkCl, ↓v_walkCl, v_walkCEl, ↓v_walkCEl, v_ix, ↓v_ix, v_wipe0, ↓v_wipe0, v_wipe1, ↓v_wipe1, v_eqNN, ↓v_eqNN, v_eqNB, ↓v_eqNB, v_eqNI, ↓v_eqNI, v_eqNS, ↓v_eqNS, v_eqNT, ↓v_eqNT, v_eqBN, ↓v_eqBN, v_eqBB, ↓v_eqBB, v_eqBI, ↓v_eqBI, v_eqBS, ↓v_eqBS, v_eqBT, ↓v_eqBT, v_eqIN, ↓v_eqIN, v_eqIB, ↓v_eqIB, v_eqII, ↓v_eqII, v_eqIS, ↓v_eqIS, v_eqIT, ↓v_eqIT, v_eqSN, ↓v_eqSN, v_eqSB, ↓v_eqSB, v_eqSI, ↓v_eqSI, v_eqSS, ↓v_eqSS, v_eqST, ↓v_eqST, v_eqTN, ↓v_eqTN, v_eqTB, ↓v_eqTB, v_eqTI, ↓v_eqTI, v_eqTS, ↓v_eqTS, v_eqTT, ↓v_eqTT, ↓m_eqL0, m_eqL0, ↓m_eqL1, m_eqL1, ↓m_eqL2, m_eqL2, ↓m_eqL3, m_eqL3, v_neU, ↓v_neU, v_neSS, ↓v_neSS, v_neII, ↓v_neII, v_neTT, ↓v_neTT, v_pf0, ↓v_pf0, v_pf1, ↓v_pf1, v_pf2, ↓v_pf2, v_lk1, ↓v_lk1, v_lk2, ↓v_lk2, v_lk0, ↓v_lk0, v_scr, ↓v_scr, v_scrV, ↓v_scrV, v_scrN, ↓v_scrN, v_scrE, ↓v_scrE, v_six0, ↓v_six0, v_six1, ↓v_six1, v_setNew, ↓v_setNew, v_putK1, ↓v_putK1, v_osq, ↓v_osq, v_dctN, ↓v_dctN, v_dctB, ↓v_dctB, v_dctI, ↓v_dctI, v_dctS, ↓v_dctS, v_dctT, ↓v_dctT, v_asgT, ↓v_asgT, v_asgs0, ↓v_asgs0, v_asgs1, ↓v_asgs1, v_bindP0, ↓v_bindP0, v_bindP1, ↓v_bindP1, v_bindP2, ↓v_bindP2, slot_0, slot_1, slot_2, slot_3, slot_4, slot_5, slot_6, slot_7, slot_8, slot_9, slot_10, slot_11, slot_12, slot_13, slot_14, slot_15, slot_16, slot_17, slot_18, slot_19, slot_20, slot_21, slot_22, slot_23, slot_24, slot_25, slot_26, slot_27, slot_28, slot_29, exn_0, exn_1, exn_2, exn_3, exn_4, exn_5, exn_6, exn_7, exn_8, exn_9, exn_10, exn_11, exn_12, exn_13, exn_14, exn_15, exn_16, exn_17, exn_18, exn_19, exn_20, exn_21, exn_22, exn_23, exn_24, exn_25, exn_26, exn_27, exn_28, exn_29, asg_0, asg_1, asg_2, asg_3, asg_4, asg_5, asg_6, asg_7, asg_8, asg_9, asg_10, asg_11, asg_12, asg_13, asg_14, asg_15, asg_16, asg_17, asg_18, asg_19, asg_20, asg_21, asg_22, asg_23, asg_24, asg_25, asg_26, asg_27, asg_28, asg_29, dset_0, dset_1, dset_2, dset_3, dset_4, dset_5, dset_6, dset_7, dset_8, dset_9, dset_10, dset_11, dset_12, dset_13, dset_14, dset_15, dset_16, dset_17, dset_18, dset_19, dset_20, dset_21, dset_22, dset_23, dset_24, dset_25, dset_26, dset_27, dset_28, dset_29, at_0, at_1, at_2, at_3, at_4, at_5, at_6, at_7, at_8, at_9, at_10, at_11, at_12, at_13, at_14, at_15, List.length_cons, List.length_nil, Option.bind_some, Option.bind_none, Option.map_some, Option.map_none, decide_true, decide_false, Bool.not_true, Bool.not_false, Bool.and_true, Bool.true_and, Bool.and_false, Bool.false_and, Bool.or_true, Bool.true_or, Bool.or_false, Bool.false_or, List.isEmpty_nil, List.isEmpty_cons, Option.isSome_some, Option.isNone_some, Option.isSome_none, Option.isNone_none, List.nil_append, List.cons_append, beq_self_eq_true, and_true, true_and, m_setH, List.map_cons, List.map_nil, eq_self, lim_eq, List.length_range, dep_eq, List.getElem?_set_self, List.getElem?_set_ne, List.set_set, List.length_set, ne_eq, not_false_eq_true, List.length_map, Int.reduceLT, Int.reduceLE, Int.reduceEq, Int.reduceNe, Int.reduceAdd, Int.reduceSub, Int.reduceMul, Int.reduceNeg, Int.reducePow, Int.reduceToNat, Nat.reduceAdd, Nat.reduceSub, Nat.reduceMul, Nat.reduceLT, Nat.reduceLeDiff, Nat.reduceEqDiff, String.reduceEq, String.reduceBEq, String.reduceBNe, ↓reduceIte, Int.reduceBEq, Int.reduceBNe, Nat.reduceBEq, Int.cast_ofNat_Int, Int.toNat_natCast, $t:term, *])

namespace K01
section
variable {n st : Nat} {L : List Nat} {G : Gp}
theorem inK_eq {G : Gp} {kind : U} (h : Th st G kind) : inL (eqU 12 G) kind [.str (Str.ofString "whole"), .str (Str.ofString "text"), .str (Str.ofString "truth"), .str (Str.ofString "link")] = some (inK kind) := inL_th (n := 11) h [Str.ofString "whole", Str.ofString "text", Str.ofString "truth", Str.ofString "link"]
theorem inG_eq {G : Gp} {gone : U} (h : Th st G gone) : inL (eqU 12 G) gone [.str (Str.ofString "bar"), .str (Str.ofString "empty"), .str (Str.ofString "along")] = some (inG gone) := inL_th (n := 11) h [Str.ofString "bar", Str.ofString "empty", Str.ofString "along"]
theorem amiss4 {name kind to gone : U} {e : Bool} (ha : isWd name = true) (hb : inK kind = true) (hto : ((isS kind (Str.ofString "link") && !isWd to) || (!isS kind (Str.ofString "link") && !isNon to)) = false) : amiss name kind e to gone = (if ((!inG gone || (isS gone (Str.ofString "empty") && !e)) || (!isS gone (Str.ofString "bar") && !isS kind (Str.ofString "link"))) = true then "gone" else "") := by
  unfold amiss
  rw [if_neg (by rw [ha]; decide), if_neg (by rw [hb]; decide), if_neg (by rw [hto]; decide)]
theorem amiss3 {name kind to gone : U} {e : Bool} (ha : isWd name = true) (hb : inK kind = true) (hto : ((isS kind (Str.ofString "link") && !isWd to) || (!isS kind (Str.ofString "link") && !isNon to)) = true) : amiss name kind e to gone = "to" := by
  unfold amiss
  rw [if_neg (by rw [ha]; decide), if_neg (by rw [hb]; decide), if_pos hto]
theorem amiss2 {name kind to gone : U} {e : Bool} (ha : isWd name = true) (hb : inK kind = false) : amiss name kind e to gone = "kind" := by
  unfold amiss
  rw [if_neg (by rw [ha]; decide), if_pos hb]
theorem amiss1 {name kind to gone : U} {e : Bool} (ha : isWd name = false) : amiss name kind e to gone = "name" := by
  unfold amiss
  rw [if_pos ha]
theorem gone_ok {name to gone : U} {ks : Str} {e : Bool} {K : FK} (hg : Th st G gone)
    (fin : ∀ s, s = (if ((!inG gone || (isS gone (Str.ofString "empty") && !e)) || (!isS gone (Str.ofString "bar") && !isS (.str ks) (Str.ofString "link"))) = true then "gone" else "") → K.rt (.str (Str.ofString s)) G) :
    FSatT (exB ⟨false, run D.mp n, D.mp.flds, D.mp.sub⟩ L (m_column_amiss.body.drop 3) [.val name, .val (.str ks), .val (.bl e), .val to, .val gone] G) K () := by
  have hg1 := inG_eq hg
  simp only [m_column_amiss, List.drop_succ_cons, List.drop_zero]
  cases hc : inG gone with
  | false =>
    rw [hc] at hg1 fin
    have := fin _ rfl
    rw [if_pos (by rfl)] at this
    o_readsAll
  | true =>
    rw [hc] at hg1 fin
    obtain ⟨gs, rfl⟩ := any_str hc
    have q1 : isS (.str gs) (Str.ofString "empty") = decide (gs = Str.ofString "empty") := rfl
    have q2 : isS (.str gs) (Str.ofString "bar") = decide (gs = Str.ofString "bar") := rfl
    have q3 : isS (.str ks) (Str.ofString "link") = decide (ks = Str.ofString "link") := rfl
    rw [q1, q2, q3] at fin
    clear q1 q2 q3
    cases h1 : decide (gs = Str.ofString "empty") <;> cases h2 : decide (gs = Str.ofString "bar") <;> cases h3 : decide (ks = Str.ofString "link") <;> cases e <;> rw [h1, h2, h3] at fin <;> (have := fin _ rfl; first | rw [if_pos (by rfl)] at this | rw [if_neg (by decide)] at this) <;> o_readsAll
theorem amiss_ok {name kind to gone : U} {e : Bool} (hn : Th st G name) (hk : Th st G kind) (ht : Th st G to) (hg : Th st G gone) : Sat (run MP (n + 3) false L "" "column_amiss" [name, kind, .bl e, to, gone] G) (fun r G1 => r = .str (Str.ofString (amiss name kind e to gone)) ∧ Ke G G1) noE := by
  rw [sat_run d_column_amiss rfl rfl]
  refine fsatT ?_
  generalize hK : (FK.mk _ _ _ _ _) = K
  have fin : ∀ s G1, s = amiss name kind e to gone → Ke G G1 → K.rt (.str (Str.ofString s)) G1 := fun s G1 q h => by subst hK; subst q; exact ⟨rfl, h⟩
  clear hK
  rw [show m_column_amiss.body = m_column_amiss.body.take 3 ++ m_column_amiss.body.drop 3 from rfl]
  generalize hr : m_column_amiss.body.drop 3 = rest
  simp only [m_column_amiss, start, List.map_cons, List.map_nil, List.replicate, List.nil_append, List.cons_append, List.take_succ_cons, List.take_zero]
  o_readsAll
  refine SatT.use (is_word_ok hn) ?_
  rintro _ G1 ⟨rfl, k1⟩
  have hk1 := inK_eq (hk.kp k1.kp)
  cases ha : isWd name with
  | false =>
    o_readsAll
    exact fin _ _ (amiss1 ha).symm k1
  | true =>
    cases hb : inK kind with
    | false =>
      rw [hb] at hk1
      o_readsAll
      exact fin _ _ (amiss2 ha hb).symm k1
    | true =>
      rw [hb] at hk1
      obtain ⟨ks, rfl⟩ := any_str hb
      have q3 : isS (.str ks) (Str.ofString "link") = decide (ks = Str.ofString "link") := rfl
      have part : ∀ G2, Ke G G2 → ((isS (.str ks) (Str.ofString "link") && !isWd to) || (!isS (.str ks) (Str.ofString "link") && !isNon to)) = false → FSatT (exB ⟨false, run D.mp (n + 2), D.mp.flds, D.mp.sub⟩ L rest [.val name, .val (.str ks), .val (.bl e), .val to, .val gone] G2) K () := fun G2 k2 hto => by
        rw [← hr]
        exact gone_ok (hg.kp k2.kp) fun s hs => fin _ _ (hs.trans (amiss4 ha hb hto).symm) k2
      clear hr
      cases h3 : decide (ks = Str.ofString "link") with
      | true =>
        rw [h3] at q3
        o_readsAll
        refine SatT.use (is_word_ok (ht.kp k1.kp)) ?_
        rintro _ G2 ⟨rfl, k2⟩
        cases h4 : isWd to with
        | true =>
          have := part G2 (k1.trans k2) (by rw [q3, h4]; rfl)
          o_readsAll
        | false =>
          have := fin _ G2 (amiss3 ha hb (by rw [q3, h4]; rfl)).symm (k1.trans k2)
          o_readsAll
      | false =>
        rw [h3] at q3
        cases h4 : isNon to with
        | true =>
          have := part G1 k1 (by rw [q3, h4]; rfl)
          o_readsAll
        | false =>
          have := fin _ G1 (amiss3 ha hb (by rw [q3, h4]; rfl)).symm k1
          o_readsAll
end
end K01
end PV
set_option Elab.async false
set_option linter.all false
set_option maxRecDepth 100000
set_option maxHeartbeats 4000000
namespace PV
open PySem
local macro_rules | `(tactic| o_shape) => `(tactic| simp -dsimp only [↓m_br1, m_br1, ↓m_br0, m_br0, ↓m_brn, m_brn, ↓m_ok, m_ok, ↓m_exn, ↓m_bad, m_bad, ↓m_bind, ↓m_ofO, m_ofO, ↓m_site, m_site, ↓m_some, m_some, ↓m_none, m_none, ↓m_map, m_map, ↓m_obind, m_obind, ↓m_oite, m_oite, ↓m_someP, m_someP, ↓m_noneP, m_noneP, ↓m_bindP, m_bindP, ↓m_someW, m_someW, ↓m_noneW, m_noneW, ↓m_bindW, m_bindW, ↓m_iteW, m_iteW, ↓m_nm, ↓m_cI, ↓m_cS, ↓m_cB, ↓m_cN, ↓m_gl, ↓m_bin, ↓m_neg, ↓m_cmp, ↓m_cmp2, ↓m_and1, ↓m_or1, ↓m_and2, ↓m_or2, ↓m_not, ↓m_ite, m_ite, ↓m_ife, ↓m_call, ↓m_mk, ↓m_meth, ↓m_bif, ↓m_isi, ↓m_bm, ↓m_attr, ↓m_xat, ↓m_xis, ↓m_sub, ↓m_slc, ↓m_tup, ↓m_lst, ↓m_dct0, ↓m_dct, ↓m_ep0, ↓m_ep1, ↓m_lc, ↓l_body, ↓f_body, ↓m_es0, ↓m_es1, ↓m_eo0, ↓m_eo1, ↓m_te, ↓m_tnot, ↓m_tand1, ↓m_tor1, ↓m_tand2, ↓m_tor2, ↓m_ts0, ↓m_ts1, ↓m_b0, ↓m_app1, ↓m_app0, ↓m_iff, ↓m_set, ↓m_setI, ↓m_setF, ↓m_aug, ↓m_exp, ↓m_ret, ↓m_retN, ↓m_pass, ↓m_brk, ↓m_cont, ↓m_whl, ↓m_for, ↓m_raise, ↓m_try, v_len, ↓v_len, v_all, ↓v_all, v_any, ↓v_any, v_intb, ↓v_intb, v_inti, ↓v_inti, v_lenT, ↓v_lenT, v_lenS, ↓v_lenS, v_lenR, ↓v_lenR, v_lenCl, ↓v_lenCl, v_lenCd, ↓v_lenCd, v_lat, ↓v_lat, v_lstC, ↓v_lstC, v_seqT, ↓v_seqT, v_seqR, ↓v_seqR, v_asI, ↓v_asI, v_asB, ↓v_asB, v_asR, ↓v_asR, v_trB, ↓v_trB, v_trN, ↓v_trN, v_trI, ↓v_trI, v_trT, ↓v_trT, v_trR, ↓v_trR, v_truCl, ↓v_truCl, v_truCd, ↓v_truCd, v_subT, ↓v_subT, v_subS, ↓v_subS, v_subRI, ↓v_subRI, v_subRS, ↓v_subRS, v_subCIl, ↓v_subCIl, v_subCId, ↓v_subCId, v_subCSd, ↓v_subCSd, v_setRI, ↓v_setRI, v_setRS, ↓v_setRS, v_setCIl, ↓v_setCIl, v_setCId, ↓v_setCId, v_setCSd, ↓v_setCSd, v_attr, ↓v_attr, v_atC, ↓v_atC, v_insC, ↓v_insC, v_emD, ↓v_emD, v_keyI, ↓v_keyI, v_keyS, ↓v_keyS, v_isi_bool, ↓v_isi_bool, v_isi_int, ↓v_isi_int, v_isi_str, ↓v_isi_str, v_isi_list, ↓v_isi_list, v_isi_tuple, ↓v_isi_tuple, v_isi_dict, ↓v_isi_dict, v_memS, ↓v_memS, v_new, ↓v_new, v_isN, ↓v_isN, v_isB, ↓v_isB, v_isI, ↓v_isI, v_isS, ↓v_isS, v_isT, ↓v_isT, v_isR, ↓v_isR, v_isCl, ↓v_isCl, v_isCd, ↓v_isCd, v_app, ↓v_app, v_appC, ↓v_appC, v_join, ↓v_join, v_upper, ↓v_upper, v_bmA, ↓v_bmA, v_bmJ, ↓v_bmJ, v_bmU, ↓v_bmU, v_slcT, ↓v_slcT, v_slcS, ↓v_slcS, v_slcR, ↓v_slcR, v_addI, ↓v_addI, v_subI, ↓v_subI, v_mulI, ↓v_mulI, v_mulS, ↓v_mulS, v_divI, ↓v_divI, v_modI, ↓v_modI, v_powI, ↓v_powI, v_addS, ↓v_addS, v_addT, ↓v_addT, v_addL, ↓v_addL, v_augA, ↓v_augA, v_augS, ↓v_augS, v_eq, ↓v_eq, v_ne, ↓v_ne, v_is, ↓v_is, v_isnt, ↓v_isnt, v_in, ↓v_in, v_notin, ↓v_notin, v_lt, ↓v_lt, v_le, ↓v_le, v_gt, ↓v_gt, v_ge, ↓v_ge, v_isNonN, ↓v_isNonN, v_isNonB, ↓v_isNonB, v_isNonI, ↓v_isNonI, v_isNonS, ↓v_isNonS, v_isNonT, ↓v_isNonT, v_isNonR, ↓v_isNonR, v_memT, ↓v_memT, v_memR, ↓v_memR, v_memCl, ↓v_memCl, v_memCd, ↓v_memCd, v_walkT, ↓v_walkT, v_walkR, ↓v_walkR, v_walkR2, ↓v_walkR2, v_walkS, ↓v_walkS, v_walkET, ↓v_walkET, v_walkL, ↓v_walkL, v_walkE, ↓v_walkE, v_walkCl, ↓v_walkCl, v_walkCEl, ↓v_walkCEl, v_ix, ↓v_ix, v_wipe0, ↓v_wipe0, v_wipe1, ↓v_wipe1, v_eqNN, ↓v_eqNN, v_eqNB, ↓v_eqNB, v_eqNI, ↓v_eqNI, v_eqNS, ↓v_eqNS, v_eqNT, ↓v_eqNT, v_eqBN, ↓v_eqBN, v_eqBB, ↓v_eqBB, v_eqBI, ↓v_eqBI, v_eqBS, ↓v_eqBS, v_eqBT, ↓v_eqBT, v_eqIN, ↓v_eqIN, v_eqIB, ↓v_eqIB, v_eqII, ↓v_eqII, v_eqIS, ↓v_eqIS, v_eqIT, ↓v_eqIT, v_eqSN, ↓v_eqSN, v_eqSB, ↓v_eqSB, v_eqSI, ↓v_eqSI, v_eqSS, ↓v_eqSS, v_eqST, ↓v_eqST, v_eqTN, ↓v_eqTN, v_eqTB, ↓v_eqTB, v_eqTI, ↓v_eqTI, v_eqTS, ↓v_eqTS, v_eqTT, ↓v_eqTT, ↓m_eqL0, m_eqL0, ↓m_eqL1, m_eqL1, ↓m_eqL2, m_eqL2, ↓m_eqL3, m_eqL3, v_neU, ↓v_neU, v_neSS, ↓v_neSS, v_neII, ↓v_neII, v_neTT, ↓v_neTT, v_pf0, ↓v_pf0, v_pf1, ↓v_pf1, v_pf2, ↓v_pf2, v_lk1, ↓v_lk1, v_lk2, ↓v_lk2, v_lk0, ↓v_lk0, v_scr, ↓v_scr, v_scrV, ↓v_scrV, v_scrN, ↓v_scrN, v_scrE, ↓v_scrE, v_six0, ↓v_six0, v_six1, ↓v_six1, v_setNew, ↓v_setNew, v_putK1, ↓v_putK1, v_osq, ↓v_osq, v_dctN, ↓v_dctN, v_dctB, ↓v_dctB, v_dctI, ↓v_dctI, v_dctS, ↓v_dctS, v_dctT, ↓v_dctT, v_asgT, ↓v_asgT, v_asgs0, ↓v_asgs0, v_asgs1, ↓v_asgs1, v_bindP0, ↓v_bindP0, v_bindP1, ↓v_bindP1, v_bindP2, ↓v_bindP2, slot_0, slot_1, slot_2, slot_3, slot_4, slot_5, slot_6, slot_7, slot_8, slot_9, slot_10, slot_11, slot_12, slot_13, slot_14, slot_15, slot_16, slot_17, slot_18, slot_19, slot_20, slot_21, slot_22, slot_23, slot_24, slot_25, slot_26, slot_27, slot_28, slot_29, exn_0, exn_1, exn_2, exn_3, exn_4, exn_5, exn_6, exn_7, exn_8, exn_9, exn_10, exn_11, exn_12, exn_13, exn_14, exn_15, exn_16, exn_17, exn_18, exn_19, exn_20, exn_21, exn_22, exn_23, exn_24, exn_25, exn_26, exn_27, exn_28, exn_29, asg_0, asg_1, asg_2, asg_3, asg_4, asg_5, asg_6, asg_7, asg_8, asg_9, asg_10, asg_11, asg_12, asg_13, asg_14, asg_15, asg_16, asg_17, asg_18, asg_19, asg_20, asg_21, asg_22, asg_23, asg_24, asg_25, asg_26, asg_27, asg_28, asg_29, dset_0, dset_1, dset_2, dset_3, dset_4, dset_5, dset_6, dset_7, dset_8, dset_9, dset_10, dset_11, dset_12, dset_13, dset_14, dset_15, dset_16, dset_17, dset_18, dset_19, dset_20, dset_21, dset_22, dset_23, dset_24, dset_25, dset_26, dset_27, dset_28, dset_29, at_0, at_1, at_2, at_3, at_4, at_5, at_6, at_7, at_8, at_9, at_10, at_11, at_12, at_13, at_14, at_15, List.length_cons, List.length_nil, Option.bind_some, Option.bind_none, Option.map_some, Option.map_none, decide_true, decide_false, Bool.not_true, Bool.not_false, Bool.and_true, Bool.true_and, Bool.and_false, Bool.false_and, Bool.or_true, Bool.true_or, Bool.or_false, Bool.false_or, List.isEmpty_nil, List.isEmpty_cons, Option.isSome_some, Option.isNone_some, Option.isSome_none, Option.isNone_none, List.nil_append, List.cons_append, beq_self_eq_true, and_true, true_and, m_setH, List.map_cons, List.map_nil, eq_self, lim_eq, List.length_range, dep_eq, List.getElem?_set_self, List.getElem?_set_ne, List.set_set, List.length_set, ne_eq, not_false_eq_true, List.length_map, Int.reduceLT, Int.reduceLE, Int.reduceEq, Int.reduceNe, Int.reduceAdd, Int.reduceSub, Int.reduceMul, Int.reduceNeg, Int.reducePow, Int.reduceToNat, Nat.reduceAdd, Nat.reduceSub, Nat.reduceMul, Nat.reduceLT, Nat.reduceLeDiff, Nat.reduceEqDiff, String.reduceEq, String.reduceBEq, String.reduceBNe, ↓reduceIte, Int.reduceBEq, Int.reduceBNe, Nat.reduceBEq, Int.cast_ofNat_Int, Int.toNat_natCast, *])
local macro_rules | `(tactic| o_readsAll) => `(tactic| repeat (first | o_shape | refine br_mul (by omega) ?_ | refine br_div (by omega) ?_ | refine br_pow (by omega) ?_ | refine br_dec (by omega) ?_ | refine br_decn (by omega) ?_))
local macro_rules | `(tactic| o_reads) => `(tactic| repeat' (first | o_shape | refine br_mul (by omega) ?_ | refine br_div (by omega) ?_ | refine br_pow (by omega) ?_ | refine br_dec (by omega) ?_ | refine br_decn (by omega) ?_ | refine br_of (fun _ => ?_) (fun _ => ?_)))
local macro_rules | `(tactic| wide_line with $t:term) => `(tactic| simp -dsimp only [↓m_br1, m_br1, ↓m_br0, m_br0, ↓m_brn, m_brn, ↓m_ok, m_ok, ↓m_exn, ↓m_bad, m_bad, ↓m_bind, ↓m_ofO, m_ofO, ↓m_site, m_site, ↓m_some, m_some, ↓m_none, m_none, ↓m_map, m_map, ↓m_obind, m_obind, ↓m_oite, m_oite, ↓m_someP, m_someP, ↓m_noneP, m_noneP, ↓m_bindP, m_bindP, ↓m_someW, m_someW, ↓m_noneW, m_noneW, ↓m_bindW, m_bindW, ↓m_iteW, m_iteW, ↓m_nm, ↓m_cI, ↓m_cS, ↓m_cB, ↓m_cN, ↓m_gl, ↓m_bin, ↓m_neg, ↓m_cmp, ↓m_cmp2, ↓m_and1, ↓m_or1, ↓m_and2, ↓m_or2, ↓m_not, ↓m_ite, m_ite, ↓m_ife, ↓m_call, ↓m_mk, ↓m_meth, ↓m_bif, ↓m_isi, ↓m_bm, ↓m_attr, ↓m_xat, ↓m_xis, ↓m_sub, ↓m_slc, ↓m_tup, ↓m_lst, ↓m_dct0, ↓m_dct, ↓m_ep0, ↓m_ep1, ↓m_lc, ↓l_body, ↓f_body, ↓m_es0, ↓m_es1, ↓m_eo0, ↓m_eo1, ↓m_te, ↓m_tnot, ↓m_tand1, ↓m_tor1, ↓m_tand2, ↓m_tor2, ↓m_ts0, ↓m_ts1, ↓m_b0, ↓m_app1, ↓m_app0, ↓m_iff, ↓m_set, ↓m_setI, ↓m_setF, ↓m_aug, ↓m_exp, ↓m_ret, ↓m_retN, ↓m_pass, ↓m_brk, ↓m_cont, ↓m_whl, ↓m_for, ↓m_raise, ↓m_try, v_len, ↓v_len, v_all, ↓v_all, v_any, ↓v_any, v_intb, ↓v_intb, v_inti, ↓v_inti, v_lenT, ↓v_lenT, v_lenS, ↓v_lenS, v_lenR, ↓v_lenR, v_lenCl, ↓v_lenCl, v_lenCd, ↓v_lenCd, v_lat, ↓v_lat, v_lstC, ↓v_lstC, v_seqT, ↓v_seqT, v_seqR, ↓v_seqR, v_asI, ↓v_asI, v_asB, ↓v_asB, v_asR, ↓v_asR, v_trB, ↓v_trB, v_trN, ↓v_trN, v_trI, ↓v_trI, v_trT, ↓v_trT, v_trR, ↓v_trR, v_truCl, ↓v_truCl, v_truCd, ↓v_truCd, v_subT, ↓v_subT, v_subS, ↓v_subS, v_subRI, ↓v_subRI, v_subRS, ↓v_subRS, v_subCIl, ↓v_subCIl, v_subCId, ↓v_subCId, v_subCSd, ↓v_subCSd, v_setRI, ↓v_setRI, v_setRS, ↓v_setRS, v_setCIl, ↓v_setCIl, v_setCId, ↓v_setCId, v_setCSd, ↓v_setCSd, v_attr, ↓v_attr, v_atC, ↓v_atC, v_insC, ↓v_insC, v_emD, ↓v_emD, v_keyI, ↓v_keyI, v_keyS, ↓v_keyS, v_isi_bool, ↓v_isi_bool, v_isi_int, ↓v_isi_int, v_isi_str, ↓v_isi_str, v_isi_list, ↓v_isi_list, v_isi_tuple, ↓v_isi_tuple, v_isi_dict, ↓v_isi_dict, v_memS, ↓v_memS, v_new, ↓v_new, v_isN, ↓v_isN, v_isB, ↓v_isB, v_isI, ↓v_isI, v_isS, ↓v_isS, v_isT, ↓v_isT, v_isR, ↓v_isR, v_isCl, ↓v_isCl, v_isCd, ↓v_isCd, v_app, ↓v_app, v_appC, ↓v_appC, v_join, ↓v_join, v_upper, ↓v_upper, v_bmA, ↓v_bmA, v_bmJ, ↓v_bmJ, v_bmU, ↓v_bmU, v_slcT, ↓v_slcT, v_slcS, ↓v_slcS, v_slcR, ↓v_slcR, v_addI, ↓v_addI, v_subI, ↓v_subI, v_mulI, ↓v_mulI, v_mulS, ↓v_mulS, v_divI, ↓v_divI, v_modI, ↓v_modI, v_powI, ↓v_powI, v_addS, ↓v_addS, v_addT, ↓v_addT, v_addL, ↓v_addL, v_augA, ↓v_augA, v_augS, ↓v_augS, v_eq, ↓v_eq, v_ne, ↓v_ne, v_is, ↓v_is, v_isnt, ↓v_isnt, v_in, ↓v_in, v_notin, ↓v_notin, v_lt, ↓v_lt, v_le, ↓v_le, v_gt, ↓v_gt, v_ge, ↓v_ge, v_isNonN, ↓v_isNonN, v_isNonB, ↓v_isNonB, v_isNonI, ↓v_isNonI, v_isNonS, ↓v_isNonS, v_isNonT, ↓v_isNonT, v_isNonR, ↓v_isNonR, v_memT, ↓v_memT, v_memR, ↓v_memR, v_memCl, ↓v_memCl, v_memCd, ↓v_memCd, v_walkT, ↓v_walkT, v_walkR, ↓v_walkR, v_walkR2, ↓v_walkR2, v_walkS, ↓v_walkS, v_walkET, ↓v_walkET, v_walkL, ↓v_walkL, v_walkE, ↓v_walkE, v_walkCl, ↓v_walkCl, v_walkCEl, ↓v_walkCEl, v_ix, ↓v_ix, v_wipe0, ↓v_wipe0, v_wipe1, ↓v_wipe1, v_eqNN, ↓v_eqNN, v_eqNB, ↓v_eqNB, v_eqNI, ↓v_eqNI, v_eqNS, ↓v_eqNS, v_eqNT, ↓v_eqNT, v_eqBN, ↓v_eqBN, v_eqBB, ↓v_eqBB, v_eqBI, ↓v_eqBI, v_eqBS, ↓v_eqBS, v_eqBT, ↓v_eqBT, v_eqIN, ↓v_eqIN, v_eqIB, ↓v_eqIB, v_eqII, ↓v_eqII, v_eqIS, ↓v_eqIS, v_eqIT, ↓v_eqIT, v_eqSN, ↓v_eqSN, v_eqSB, ↓v_eqSB, v_eqSI, ↓v_eqSI, v_eqSS, ↓v_eqSS, v_eqST, ↓v_eqST, v_eqTN, ↓v_eqTN, v_eqTB, ↓v_eqTB, v_eqTI, ↓v_eqTI, v_eqTS, ↓v_eqTS, v_eqTT, ↓v_eqTT, ↓m_eqL0, m_eqL0, ↓m_eqL1, m_eqL1, ↓m_eqL2, m_eqL2, ↓m_eqL3, m_eqL3, v_neU, ↓v_neU, v_neSS, ↓v_neSS, v_neII, ↓v_neII, v_neTT, ↓v_neTT, v_pf0, ↓v_pf0, v_pf1, ↓v_pf1, v_pf2, ↓v_pf2, v_lk1, ↓v_lk1, v_lk2, ↓v_lk2, v_lk0, ↓v_lk0, v_scr, ↓v_scr, v_scrV, ↓v_scrV, v_scrN, ↓v_scrN, v_scrE, ↓v_scrE, v_six0, ↓v_six0, v_six1, ↓v_six1, v_setNew, ↓v_setNew, v_putK1, ↓v_putK1, v_osq, ↓v_osq, v_dctN, ↓v_dctN, v_dctB, ↓v_dctB, v_dctI, ↓v_dctI, v_dctS, ↓v_dctS, v_dctT, ↓v_dctT, v_asgT, ↓v_asgT, v_asgs0, ↓v_asgs0, v_asgs1, ↓v_asgs1, v_bindP0, ↓v_bindP0, v_bindP1, ↓v_bindP1, v_bindP2, ↓v_bindP2, slot_0, slot_1, slot_2, slot_3, slot_4, slot_5, slot_6, slot_7, slot_8, slot_9, slot_10, slot_11, slot_12, slot_13, slot_14, slot_15, slot_16, slot_17, slot_18, slot_19, slot_20, slot_21, slot_22, slot_23, slot_24, slot_25, slot_26, slot_27, slot_28, slot_29, exn_0, exn_1, exn_2, exn_3, exn_4, exn_5, exn_6, exn_7, exn_8, exn_9, exn_10, exn_11, exn_12, exn_13, exn_14, exn_15, exn_16, exn_17, exn_18, exn_19, exn_20, exn_21, exn_22, exn_23, exn_24, exn_25, exn_26, exn_27, exn_28, exn_29, asg_0, asg_1, asg_2, asg_3, asg_4, asg_5, asg_6, asg_7, asg_8, asg_9, asg_10, asg_11, asg_12, asg_13, asg_14, asg_15, asg_16, asg_17, asg_18, asg_19, asg_20, asg_21, asg_22, asg_23, asg_24, asg_25, asg_26, asg_27, asg_28, asg_29, dset_0, dset_1, dset_2, dset_3, dset_4, dset_5, dset_6, dset_7, dset_8, dset_9, dset_10, dset_11, dset_12, dset_13, dset_14, dset_15, dset_16, dset_17, dset_18, dset_19, dset_20, dset_21, dset_22, dset_23, dset_24, dset_25, dset_26, dset_27, dset_28, dset_29, at_0, at_1, at_2, at_3, at_4, at_5, at_6, at_7, at_8, at_9, at_10, at_11, at_12, at_13, at_14, at_15, List.length_cons, List.length_nil, Option.bind_some, Option.bind_none, Option.map_some, Option.map_none, decide_true, decide_false, Bool.not_true, Bool.not_false, Bool.and_true, Bool.true_and, Bool.and_false, Bool.false_and, Bool.or_true, Bool.true_or, Bool.or_false, Bool.false_or, List.isEmpty_nil, List.isEmpty_cons, Option.isSome_some, Option.isNone_some, Option.isSome_none, Option.isNone_none, List.nil_append, List.cons_append, beq_self_eq_true, and_true, true_and, m_setH, List.map_cons, List.map_nil, eq_self, lim_eq, List.length_range, dep_eq, List.getElem?_set_self, List.getElem?_set_ne, List.set_set, List.length_set, ne_eq, not_false_eq_true, List.length_map, Int.reduceLT, Int.reduceLE, Int.reduceEq, Int.reduceNe, Int.reduceAdd, Int.reduceSub, Int.reduceMul, Int.reduceNeg, Int.reducePow, Int.reduceToNat, Nat.reduceAdd, Nat.reduceSub, Nat.reduceMul, Nat.reduceLT, Nat.reduceLeDiff, Nat.reduceEqDiff, String.reduceEq, String.reduceBEq, String.reduceBNe, ↓reduceIte, Int.reduceBEq, Int.reduceBNe, Nat.reduceBEq, Int.cast_ofNat_Int, Int.toNat_natCast, $t:term, *])

namespace K01
section
variable {n st : Nat} {L : List Nat} {G : Gp}
theorem gone_ok2 {name to gone o : U} {ks : Str} {e : Bool} {K : FK} (hg : Th st G gone)
    (fin : ∀ s, s = (if ((!inG gone || (isS gone (Str.ofString "empty") && !e)) || (!isS gone (Str.ofString "bar") && !isS (.str ks) (Str.ofString "link"))) = true then "gone" else "") → K.rt (.str (Str.ofString s)) G) :
    FSatT (exB ⟨false, run D.mp n, D.mp.flds, D.mp.sub⟩ L (m_law_what.body.drop 4) [.val (.tup [name, .str ks, .bl e, o, to, gone]), .val name, .val (.str ks), .val (.bl e), .val o, .val to, .val gone] G) K () := by
  have hg1 := inG_eq hg
  simp only [m_law_what, List.drop_succ_cons, List.drop_zero]
  cases hc : inG gone with
  | false =>
    rw [hc] at hg1 fin
    have := fin _ rfl
    rw [if_pos (by rfl)] at this
    o_readsAll
  | true =>
    rw [hc] at hg1 fin
    obtain ⟨gs, rfl⟩ := any_str hc
    have q1 : isS (.str gs) (Str.ofString "empty") = decide (gs = Str.ofString "empty") := rfl
    have q2 : isS (.str gs) (Str.ofString "bar") = decide (gs = Str.ofString "bar") := rfl
    have q3 : isS (.str ks) (Str.ofString "link") = decide (ks = Str.ofString "link") := rfl
    rw [q1, q2, q3] at fin
    clear q1 q2 q3
    cases h1 : decide (gs = Str.ofString "empty") <;> cases h2 : decide (gs = Str.ofString "bar") <;> cases h3 : decide (ks = Str.ofString "link") <;> cases e <;> rw [h1, h2, h3] at fin <;> (have := fin _ rfl; first | rw [if_pos (by rfl)] at this | rw [if_neg (by decide)] at this) <;> o_readsAll
theorem what_ok {name kind to gone o : U} {e : Bool} (hn : Th st G name) (hk : Th st G kind) (ht : Th st G to) (hg : Th st G gone) : Sat (run MP (n + 3) false L "" "_law_what" [.tup [name, kind, .bl e, o, to, gone]] G) (fun r G1 => r = .str (Str.ofString (amiss name kind e to gone)) ∧ Ke G G1) noE := by
  rw [sat_run d_law_what rfl rfl]
  refine fsatT ?_
  generalize hK : (FK.mk _ _ _ _ _) = K
  have fin : ∀ s G1, s = amiss name kind e to gone → Ke G G1 → K.rt (.str (Str.ofString s)) G1 := fun s G1 q h => by subst hK; subst q; exact ⟨rfl, h⟩
  clear hK
  rw [show m_law_what.body = m_law_what.body.take 4 ++ m_law_what.body.drop 4 from rfl]
  generalize hr : m_law_what.body.drop 4 = rest
  simp only [m_law_what, start, List.map_cons, List.map_nil, List.replicate, List.nil_append, List.cons_append, List.take_succ_cons, List.take_zero]
  o_readsAll
  refine SatT.use (law_word_ok (n := n + 1) hn) ?_
  rintro _ G1 ⟨rfl, k1⟩
  have hk1 := inK_eq (hk.kp k1.kp)
  cases ha : isWd name with
  | false =>
    o_readsAll
    exact fin _ _ (amiss1 ha).symm k1
  | true =>
    cases hb : inK kind with
    | false =>
      rw [hb] at hk1
      o_readsAll
      exact fin _ _ (amiss2 ha hb).symm k1
    | true =>
      rw [hb] at hk1
      obtain ⟨ks, rfl⟩ := any_str hb
      have q3 : isS (.str ks) (Str.ofString "link") = decide (ks = Str.ofString "link") := rfl
      have part : ∀ G2, Ke G G2 → ((isS (.str ks) (Str.ofString "link") && !isWd to) || (!isS (.str ks) (Str.ofString "link") && !isNon to)) = false → FSatT (exB ⟨false, run D.mp (n + 2), D.mp.flds, D.mp.sub⟩ L rest [.val (.tup [name, .str ks, .bl e, o, to, gone]), .val name, .val (.str ks), .val (.bl e), .val o, .val to, .val gone] G2) K () := fun G2 k2 hto => by
        rw [← hr]
        exact gone_ok2 (hg.kp k2.kp) fun s hs => fin _ _ (hs.trans (amiss4 ha hb hto).symm) k2
      clear hr
      cases h3 : decide (ks = Str.ofString "link") with
      | true =>
        rw [h3] at q3
        o_readsAll
        refine SatT.use (law_word_ok (n := n + 1) (ht.kp k1.kp)) ?_
        rintro _ G2 ⟨rfl, k2⟩
        cases h4 : isWd to with
        | true =>
          have := part G2 (k1.trans k2) (by rw [q3, h4]; rfl)
          o_readsAll
        | false =>
          have := fin _ G2 (amiss3 ha hb (by rw [q3, h4]; rfl)).symm (k1.trans k2)
          o_readsAll
      | false =>
        rw [h3] at q3
        cases h4 : isNon to with
        | true =>
          have := part G1 k1 (by rw [q3, h4]; rfl)
          o_readsAll
        | false =>
          have := fin _ G1 (amiss3 ha hb (by rw [q3, h4]; rfl)).symm k1
          o_readsAll

/-- Column(..) -/
theorem init_ok {name kind to gone : U} {e o : Bool} {r : Nat} (hn : Th st G name) (hk : Th st G kind) (ht : Th st G to) (hg : Th st G gone) (hr : G[r]? = some (.ins "Column" [])) :
    Sat (run MP (n + 4) false L "Column" "__init__" [.ref r, name, kind, .bl e, .bl o, to, gone] G) (fun u G1 => u = .non ∧ amiss name kind e to gone = "" ∧ G1[r]? = some (.ins "Column" [("name", name), ("kind", kind), ("empty", .bl e), ("once", .bl o), ("to", to), ("gone", gone)]) ∧ Kp r G G1) (fun c fs G1 => c = "BadColumn" ∧ amiss name kind e to gone ≠ "" ∧ fs = [("what", .str (Str.ofString (amiss name kind e to gone)))] ∧ Ke G G1) := by
  rw [sat_run d_Column_init rfl rfl]
  refine fsatT ?_
  generalize hK : (FK.mk _ _ _ _ _) = K
  simp only [m_Column_init, start, List.map_cons, List.map_nil, List.replicate, List.nil_append, List.cons_append]
  o_readsAll
  refine SatT.use (amiss_ok hn hk ht hg) ?_
  rintro _ G1 ⟨rfl, k1⟩
  have hr1 := k1.at_ hr
  have hlt := (List.getElem?_eq_some_iff.mp hr1).1
  have hfl : D.mp.flds "BadColumn" = some ["what"] := f_BadColumn
  by_cases h : amiss name kind e to gone = ""
  · have fin : ∀ d G2, G2 = G1.set r (.ins "Column" [("name", name), ("kind", kind), ("empty", .bl e), ("once", .bl o), ("to", to), ("gone", gone)]) → K.nx d G2 := fun d G2 hG => by
      subst hK
      subst hG
      exact ⟨rfl, h, List.getElem?_set_self hlt, k1.kp.trans Kp.set⟩
    rw [h]
    clear hK h
    o_readsAll
  · have fin : ∀ d, K.ex "BadColumn" [("what", .str (Str.ofString (amiss name kind e to gone)))] d G1 := fun d => by
      subst hK
      exact ⟨rfl, h, rfl, k1⟩
    have hne : decide (amiss name kind e to gone = "") = false := decide_eq_false h
    clear hK h
    o_readsAll
    exact fin _
end
end K01
end PV
set_option Elab.async false
set_option linter.all false
set_option maxRecDepth 100000
set_option maxHeartbeats 4000000
namespace PV
open PySem
local macro_rules | `(tactic| o_shape) => `(tactic| simp -dsimp only [↓m_br1, m_br1, ↓m_br0, m_br0, ↓m_brn, m_brn, ↓m_ok, m_ok, ↓m_exn, ↓m_bad, m_bad, ↓m_bind, ↓m_ofO, m_ofO, ↓m_site, m_site, ↓m_some, m_some, ↓m_none, m_none, ↓m_map, m_map, ↓m_obind, m_obind, ↓m_oite, m_oite, ↓m_someP, m_someP, ↓m_noneP, m_noneP, ↓m_bindP, m_bindP, ↓m_someW, m_someW, ↓m_noneW, m_noneW, ↓m_bindW, m_bindW, ↓m_iteW, m_iteW, ↓m_nm, ↓m_cI, ↓m_cS, ↓m_cB, ↓m_cN, ↓m_gl, ↓m_bin, ↓m_neg, ↓m_cmp, ↓m_cmp2, ↓m_and1, ↓m_or1, ↓m_and2, ↓m_or2, ↓m_not, ↓m_ite, m_ite, ↓m_ife, ↓m_call, ↓m_mk, ↓m_meth, ↓m_bif, ↓m_isi, ↓m_bm, ↓m_attr, ↓m_xat, ↓m_xis, ↓m_sub, ↓m_slc, ↓m_tup, ↓m_lst, ↓m_dct0, ↓m_dct, ↓m_ep0, ↓m_ep1, ↓m_lc, ↓l_body, ↓f_body, ↓m_es0, ↓m_es1, ↓m_eo0, ↓m_eo1, ↓m_te, ↓m_tnot, ↓m_tand1, ↓m_tor1, ↓m_tand2, ↓m_tor2, ↓m_ts0, ↓m_ts1, ↓m_b0, ↓m_app1, ↓m_app0, ↓m_iff, ↓m_set, ↓m_setI, ↓m_setF, ↓m_aug, ↓m_exp, ↓m_ret, ↓m_retN, ↓m_pass, ↓m_brk, ↓m_cont, ↓m_whl, ↓m_for, ↓m_raise, ↓m_try, v_len, ↓v_len, v_all, ↓v_all, v_any, ↓v_any, v_intb, ↓v_intb, v_inti, ↓v_inti, v_lenT, ↓v_lenT, v_lenS, ↓v_lenS, v_lenR, ↓v_lenR, v_lenCl, ↓v_lenCl, v_lenCd, ↓v_lenCd, v_lat, ↓v_lat, v_lstC, ↓v_lstC, v_seqT, ↓v_seqT, v_seqR, ↓v_seqR, v_asI, ↓v_asI, v_asB, ↓v_asB, v_asR, ↓v_asR, v_trB, ↓v_trB, v_trN, ↓v_trN, v_trI, ↓v_trI, v_trT, ↓v_trT, v_trR, ↓v_trR, v_truCl, ↓v_truCl, v_truCd, ↓v_truCd, v_subT, ↓v_subT, v_subS, ↓v_subS, v_subRI, ↓v_subRI, v_subRS, ↓v_subRS, v_subCIl, ↓v_subCIl, v_subCId, ↓v_subCId, v_subCSd, ↓v_subCSd, v_setRI, ↓v_setRI, v_setRS, ↓v_setRS, v_setCIl, ↓v_setCIl, v_setCId, ↓v_setCId, v_setCSd, ↓v_setCSd, v_attr, ↓v_attr, v_atC, ↓v_atC, v_insC, ↓v_insC, v_emD, ↓v_emD, v_keyI, ↓v_keyI, v_keyS, ↓v_keyS, v_isi_bool, ↓v_isi_bool, v_isi_int, ↓v_isi_int, v_isi_str, ↓v_isi_str, v_isi_list, ↓v_isi_list, v_isi_tuple, ↓v_isi_tuple, v_isi_dict, ↓v_isi_dict, v_memS, ↓v_memS, v_new, ↓v_new, v_isN, ↓v_isN, v_isB, ↓v_isB, v_isI, ↓v_isI, v_isS, ↓v_isS, v_isT, ↓v_isT, v_isR, ↓v_isR, v_isCl, ↓v_isCl, v_isCd, ↓v_isCd, v_app, ↓v_app, v_appC, ↓v_appC, v_join, ↓v_join, v_upper, ↓v_upper, v_bmA, ↓v_bmA, v_bmJ, ↓v_bmJ, v_bmU, ↓v_bmU, v_slcT, ↓v_slcT, v_slcS, ↓v_slcS, v_slcR, ↓v_slcR, v_addI, ↓v_addI, v_subI, ↓v_subI, v_mulI, ↓v_mulI, v_mulS, ↓v_mulS, v_divI, ↓v_divI, v_modI, ↓v_modI, v_powI, ↓v_powI, v_addS, ↓v_addS, v_addT, ↓v_addT, v_addL, ↓v_addL, v_augA, ↓v_augA, v_augS, ↓v_augS, v_eq, ↓v_eq, v_ne, ↓v_ne, v_is, ↓v_is, v_isnt, ↓v_isnt, v_in, ↓v_in, v_notin, ↓v_notin, v_lt, ↓v_lt, v_le, ↓v_le, v_gt, ↓v_gt, v_ge, ↓v_ge, v_isNonN, ↓v_isNonN, v_isNonB, ↓v_isNonB, v_isNonI, ↓v_isNonI, v_isNonS, ↓v_isNonS, v_isNonT, ↓v_isNonT, v_isNonR, ↓v_isNonR, v_memT, ↓v_memT, v_memR, ↓v_memR, v_memCl, ↓v_memCl, v_memCd, ↓v_memCd, v_walkT, ↓v_walkT, v_walkR, ↓v_walkR, v_walkR2, ↓v_walkR2, v_walkS, ↓v_walkS, v_walkET, ↓v_walkET, v_walkL, ↓v_walkL, v_walkE, ↓v_walkE, v_walkCl, ↓v_walkCl, v_walkCEl, ↓v_walkCEl, v_ix, ↓v_ix, v_wipe0, ↓v_wipe0, v_wipe1, ↓v_wipe1, v_eqNN, ↓v_eqNN, v_eqNB, ↓v_eqNB, v_eqNI, ↓v_eqNI, v_eqNS, ↓v_eqNS, v_eqNT, ↓v_eqNT, v_eqBN, ↓v_eqBN, v_eqBB, ↓v_eqBB, v_eqBI, ↓v_eqBI, v_eqBS, ↓v_eqBS, v_eqBT, ↓v_eqBT, v_eqIN, ↓v_eqIN, v_eqIB, ↓v_eqIB, v_eqII, ↓v_eqII, v_eqIS, ↓v_eqIS, v_eqIT, ↓v_eqIT, v_eqSN, ↓v_eqSN, v_eqSB, ↓v_eqSB, v_eqSI, ↓v_eqSI, v_eqSS, ↓v_eqSS, v_eqST, ↓v_eqST, v_eqTN, ↓v_eqTN, v_eqTB, ↓v_eqTB, v_eqTI, ↓v_eqTI, v_eqTS, ↓v_eqTS, v_eqTT, ↓v_eqTT, ↓m_eqL0, m_eqL0, ↓m_eqL1, m_eqL1, ↓m_eqL2, m_eqL2, ↓m_eqL3, m_eqL3, v_neU, ↓v_neU, v_neSS, ↓v_neSS, v_neII, ↓v_neII, v_neTT, ↓v_neTT, v_pf0, ↓v_pf0, v_pf1, ↓v_pf1, v_pf2, ↓v_pf2, v_lk1, ↓v_lk1, v_lk2, ↓v_lk2, v_lk0, ↓v_lk0, v_scr, ↓v_scr, v_scrV, ↓v_scrV, v_scrN, ↓v_scrN, v_scrE, ↓v_scrE, v_six0, ↓v_six0, v_six1, ↓v_six1, v_setNew, ↓v_setNew, v_putK1, ↓v_putK1, v_osq, ↓v_osq, v_dctN, ↓v_dctN, v_dctB, ↓v_dctB, v_dctI, ↓v_dctI, v_dctS, ↓v_dctS, v_dctT, ↓v_dctT, v_asgT, ↓v_asgT, v_asgs0, ↓v_asgs0, v_asgs1, ↓v_asgs1, v_bindP0, ↓v_bindP0, v_bindP1, ↓v_bindP1, v_bindP2, ↓v_bindP2, slot_0, slot_1, slot_2, slot_3, slot_4, slot_5, slot_6, slot_7, slot_8, slot_9, slot_10, slot_11, slot_12, slot_13, slot_14, slot_15, slot_16, slot_17, slot_18, slot_19, slot_20, slot_21, slot_22, slot_23, slot_24, slot_25, slot_26, slot_27, slot_28, slot_29, exn_0, exn_1, exn_2, exn_3, exn_4, exn_5, exn_6, exn_7, exn_8, exn_9, exn_10, exn_11, exn_12, exn_13, exn_14, exn_15, exn_16, exn_17, exn_18, exn_19, exn_20, exn_21, exn_22, exn_23, exn_24, exn_25, exn_26, exn_27, exn_28, exn_29, asg_0, asg_1, asg_2, asg_3, asg_4, asg_5, asg_6, asg_7, asg_8, asg_9, asg_10, asg_11, asg_12, asg_13, asg_14, asg_15, asg_16, asg_17, asg_18, asg_19, asg_20, asg_21, asg_22, asg_23, asg_24, asg_25, asg_26, asg_27, asg_28, asg_29, dset_0, dset_1, dset_2, dset_3, dset_4, dset_5, dset_6, dset_7, dset_8, dset_9, dset_10, dset_11, dset_12, dset_13, dset_14, dset_15, dset_16, dset_17, dset_18, dset_19, dset_20, dset_21, dset_22, dset_23, dset_24, dset_25, dset_26, dset_27, dset_28, dset_29, at_0, at_1, at_2, at_3, at_4, at_5, at_6, at_7, at_8, at_9, at_10, at_11, at_12, at_13, at_14, at_15, List.length_cons, List.length_nil, Option.bind_some, Option.bind_none, Option.map_some, Option.map_none, decide_true, decide_false, Bool.not_true, Bool.not_false, Bool.and_true, Bool.true_and, Bool.and_false, Bool.false_and, Bool.or_true, Bool.true_or, Bool.or_false, Bool.false_or, List.isEmpty_nil, List.isEmpty_cons, Option.isSome_some, Option.isNone_some, Option.isSome_none, Option.isNone_none, List.nil_append, List.cons_append, beq_self_eq_true, and_true, true_and, m_setH, List.map_cons, List.map_nil, eq_self, lim_eq, List.length_range, dep_eq, List.getElem?_set_self, List.getElem?_set_ne, List.set_set, List.length_set, ne_eq, not_false_eq_true, List.length_map, Int.reduceLT, Int.reduceLE, Int.reduceEq, Int.reduceNe, Int.reduceAdd, Int.reduceSub, Int.reduceMul, Int.reduceNeg, Int.reducePow, Int.reduceToNat, Nat.reduceAdd, Nat.reduceSub, Nat.reduceMul, Nat.reduceLT, Nat.reduceLeDiff, Nat.reduceEqDiff, String.reduceEq, String.reduceBEq, String.reduceBNe, ↓reduceIte, Int.reduceBEq, Int.reduceBNe, Nat.reduceBEq, Int.cast_ofNat_Int, Int.toNat_natCast, *])
local macro_rules | `(tactic| o_readsAll) => `(tactic| repeat (first | o_shape | refine br_mul (by omega) ?_ | refine br_div (by omega) ?_ | refine br_pow (by omega) ?_ | refine br_dec (by omega) ?_ | refine br_decn (by omega) ?_))
local macro_rules | `(tactic| o_reads) => `(tactic| repeat' (first | o_shape | refine br_mul (by omega) ?_ | refine br_div (by omega) ?_ | refine br_pow (by omega) ?_ | refine br_dec (by omega) ?_ | refine br_decn (by omega) ?_ | refine br_of (fun _ => ?_) (fun _ => ?_)))
local macro_rules | `(tactic| wide_line with $t:term) => `(tactic| simp -dsimp only [↓m_br1, m_br1, ↓m_br0, m_br0, ↓m_brn, m_brn, ↓m_ok, m_ok, ↓m_exn, ↓m_bad, m_bad, ↓m_bind, ↓m_ofO, m_ofO, ↓m_site, m_site, ↓m_some, m_some, ↓m_none, m_none, ↓m_map, m_map, ↓m_obind, m_obind, ↓m_oite, m_oite, ↓m_someP, m_someP, ↓m_noneP, m_noneP, ↓m_bindP, m_bindP, ↓m_someW, m_someW, ↓m_noneW, m_noneW, ↓m_bindW, m_bindW, ↓m_iteW, m_iteW, ↓m_nm, ↓m_cI, ↓m_cS, ↓m_cB, ↓m_cN, ↓m_gl, ↓m_bin, ↓m_neg, ↓m_cmp, ↓m_cmp2, ↓m_and1, ↓m_or1, ↓m_and2, ↓m_or2, ↓m_not, ↓m_ite, m_ite, ↓m_ife, ↓m_call, ↓m_mk, ↓m_meth, ↓m_bif, ↓m_isi, ↓m_bm, ↓m_attr, ↓m_xat, ↓m_xis, ↓m_sub, ↓m_slc, ↓m_tup, ↓m_lst, ↓m_dct0, ↓m_dct, ↓m_ep0, ↓m_ep1, ↓m_lc, ↓l_body, ↓f_body, ↓m_es0, ↓m_es1, ↓m_eo0, ↓m_eo1, ↓m_te, ↓m_tnot, ↓m_tand1, ↓m_tor1, ↓m_tand2, ↓m_tor2, ↓m_ts0, ↓m_ts1, ↓m_b0, ↓m_app1, ↓m_app0, ↓m_iff, ↓m_set, ↓m_setI, ↓m_setF, ↓m_aug, ↓m_exp, ↓m_ret, ↓m_retN, ↓m_pass, ↓m_brk, ↓m_cont, ↓m_whl, ↓m_for, ↓m_raise, ↓m_try, v_len, ↓v_len, v_all, ↓v_all, v_any, ↓v_any, v_intb, ↓v_intb, v_inti, ↓v_inti, v_lenT, ↓v_lenT, v_lenS, ↓v_lenS, v_lenR, ↓v_lenR, v_lenCl, ↓v_lenCl, v_lenCd, ↓v_lenCd, v_lat, ↓v_lat, v_lstC, ↓v_lstC, v_seqT, ↓v_seqT, v_seqR, ↓v_seqR, v_asI, ↓v_asI, v_asB, ↓v_asB, v_asR, ↓v_asR, v_trB, ↓v_trB, v_trN, ↓v_trN, v_trI, ↓v_trI, v_trT, ↓v_trT, v_trR, ↓v_trR, v_truCl, ↓v_truCl, v_truCd, ↓v_truCd, v_subT, ↓v_subT, v_subS, ↓v_subS, v_subRI, ↓v_subRI, v_subRS, ↓v_subRS, v_subCIl, ↓v_subCIl, v_subCId, ↓v_subCId, v_subCSd, ↓v_subCSd, v_setRI, ↓v_setRI, v_setRS, ↓v_setRS, v_setCIl, ↓v_setCIl, v_setCId, ↓v_setCId, v_setCSd, ↓v_setCSd, v_attr, ↓v_attr, v_atC, ↓v_atC, v_insC, ↓v_insC, v_emD, ↓v_emD, v_keyI, ↓v_keyI, v_keyS, ↓v_keyS, v_isi_bool, ↓v_isi_bool, v_isi_int, ↓v_isi_int, v_isi_str, ↓v_isi_str, v_isi_list, ↓v_isi_list, v_isi_tuple, ↓v_isi_tuple, v_isi_dict, ↓v_isi_dict, v_memS, ↓v_memS, v_new, ↓v_new, v_isN, ↓v_isN, v_isB, ↓v_isB, v_isI, ↓v_isI, v_isS, ↓v_isS, v_isT, ↓v_isT, v_isR, ↓v_isR, v_isCl, ↓v_isCl, v_isCd, ↓v_isCd, v_app, ↓v_app, v_appC, ↓v_appC, v_join, ↓v_join, v_upper, ↓v_upper, v_bmA, ↓v_bmA, v_bmJ, ↓v_bmJ, v_bmU, ↓v_bmU, v_slcT, ↓v_slcT, v_slcS, ↓v_slcS, v_slcR, ↓v_slcR, v_addI, ↓v_addI, v_subI, ↓v_subI, v_mulI, ↓v_mulI, v_mulS, ↓v_mulS, v_divI, ↓v_divI, v_modI, ↓v_modI, v_powI, ↓v_powI, v_addS, ↓v_addS, v_addT, ↓v_addT, v_addL, ↓v_addL, v_augA, ↓v_augA, v_augS, ↓v_augS, v_eq, ↓v_eq, v_ne, ↓v_ne, v_is, ↓v_is, v_isnt, ↓v_isnt, v_in, ↓v_in, v_notin, ↓v_notin, v_lt, ↓v_lt, v_le, ↓v_le, v_gt, ↓v_gt, v_ge, ↓v_ge, v_isNonN, ↓v_isNonN, v_isNonB, ↓v_isNonB, v_isNonI, ↓v_isNonI, v_isNonS, ↓v_isNonS, v_isNonT, ↓v_isNonT, v_isNonR, ↓v_isNonR, v_memT, ↓v_memT, v_memR, ↓v_memR, v_memCl, ↓v_memCl, v_memCd, ↓v_memCd, v_walkT, ↓v_walkT, v_walkR, ↓v_walkR, v_walkR2, ↓v_walkR2, v_walkS, ↓v_walkS, v_walkET, ↓v_walkET, v_walkL, ↓v_walkL, v_walkE, ↓v_walkE, v_walkCl, ↓v_walkCl, v_walkCEl, ↓v_walkCEl, v_ix, ↓v_ix, v_wipe0, ↓v_wipe0, v_wipe1, ↓v_wipe1, v_eqNN, ↓v_eqNN, v_eqNB, ↓v_eqNB, v_eqNI, ↓v_eqNI, v_eqNS, ↓v_eqNS, v_eqNT, ↓v_eqNT, v_eqBN, ↓v_eqBN, v_eqBB, ↓v_eqBB, v_eqBI, ↓v_eqBI, v_eqBS, ↓v_eqBS, v_eqBT, ↓v_eqBT, v_eqIN, ↓v_eqIN, v_eqIB, ↓v_eqIB, v_eqII, ↓v_eqII, v_eqIS, ↓v_eqIS, v_eqIT, ↓v_eqIT, v_eqSN, ↓v_eqSN, v_eqSB, ↓v_eqSB, v_eqSI, ↓v_eqSI, v_eqSS, ↓v_eqSS, v_eqST, ↓v_eqST, v_eqTN, ↓v_eqTN, v_eqTB, ↓v_eqTB, v_eqTI, ↓v_eqTI, v_eqTS, ↓v_eqTS, v_eqTT, ↓v_eqTT, ↓m_eqL0, m_eqL0, ↓m_eqL1, m_eqL1, ↓m_eqL2, m_eqL2, ↓m_eqL3, m_eqL3, v_neU, ↓v_neU, v_neSS, ↓v_neSS, v_neII, ↓v_neII, v_neTT, ↓v_neTT, v_pf0, ↓v_pf0, v_pf1, ↓v_pf1, v_pf2, ↓v_pf2, v_lk1, ↓v_lk1, v_lk2, ↓v_lk2, v_lk0, ↓v_lk0, v_scr, ↓v_scr, v_scrV, ↓v_scrV, v_scrN, ↓v_scrN, v_scrE, ↓v_scrE, v_six0, ↓v_six0, v_six1, ↓v_six1, v_setNew, ↓v_setNew, v_putK1, ↓v_putK1, v_osq, ↓v_osq, v_dctN, ↓v_dctN, v_dctB, ↓v_dctB, v_dctI, ↓v_dctI, v_dctS, ↓v_dctS, v_dctT, ↓v_dctT, v_asgT, ↓v_asgT, v_asgs0, ↓v_asgs0, v_asgs1, ↓v_asgs1, v_bindP0, ↓v_bindP0, v_bindP1, ↓v_bindP1, v_bindP2, ↓v_bindP2, slot_0, slot_1, slot_2, slot_3, slot_4, slot_5, slot_6, slot_7, slot_8, slot_9, slot_10, slot_11, slot_12, slot_13, slot_14, slot_15, slot_16, slot_17, slot_18, slot_19, slot_20, slot_21, slot_22, slot_23, slot_24, slot_25, slot_26, slot_27, slot_28, slot_29, exn_0, exn_1, exn_2, exn_3, exn_4, exn_5, exn_6, exn_7, exn_8, exn_9, exn_10, exn_11, exn_12, exn_13, exn_14, exn_15, exn_16, exn_17, exn_18, exn_19, exn_20, exn_21, exn_22, exn_23, exn_24, exn_25, exn_26, exn_27, exn_28, exn_29, asg_0, asg_1, asg_2, asg_3, asg_4, asg_5, asg_6, asg_7, asg_8, asg_9, asg_10, asg_11, asg_12, asg_13, asg_14, asg_15, asg_16, asg_17, asg_18, asg_19, asg_20, asg_21, asg_22, asg_23, asg_24, asg_25, asg_26, asg_27, asg_28, asg_29, dset_0, dset_1, dset_2, dset_3, dset_4, dset_5, dset_6, dset_7, dset_8, dset_9, dset_10, dset_11, dset_12, dset_13, dset_14, dset_15, dset_16, dset_17, dset_18, dset_19, dset_20, dset_21, dset_22, dset_23, dset_24, dset_25, dset_26, dset_27, dset_28, dset_29, at_0, at_1, at_2, at_3, at_4, at_5, at_6, at_7, at_8, at_9, at_10, at_11, at_12, at_13, at_14, at_15, List.length_cons, List.length_nil, Option.bind_some, Option.bind_none, Option.map_some, Option.map_none, decide_true, decide_false, Bool.not_true, Bool.not_false, Bool.and_true, Bool.true_and, Bool.and_false, Bool.false_and, Bool.or_true, Bool.true_or, Bool.or_false, Bool.false_or, List.isEmpty_nil, List.isEmpty_cons, Option.isSome_some, Option.isNone_some, Option.isSome_none, Option.isNone_none, List.nil_append, List.cons_append, beq_self_eq_true, and_true, true_and, m_setH, List.map_cons, List.map_nil, eq_self, lim_eq, List.length_range, dep_eq, List.getElem?_set_self, List.getElem?_set_ne, List.set_set, List.length_set, ne_eq, not_false_eq_true, List.length_map, Int.reduceLT, Int.reduceLE, Int.reduceEq, Int.reduceNe, Int.reduceAdd, Int.reduceSub, Int.reduceMul, Int.reduceNeg, Int.reducePow, Int.reduceToNat, Nat.reduceAdd, Nat.reduceSub, Nat.reduceMul, Nat.reduceLT, Nat.reduceLeDiff, Nat.reduceEqDiff, String.reduceEq, String.reduceBEq, String.reduceBNe, ↓reduceIte, Int.reduceBEq, Int.reduceBNe, Nat.reduceBEq, Int.cast_ofNat_Int, Int.toNat_natCast, $t:term, *])

/-- every cell stands as it stood -/
def Kq (G G1 : Gp) : Prop := ∀ (i : Nat) (c : Cell), G[i]? = some c → G1[i]? = some c
theorem Kq.kp {st : Nat} {G G1 : Gp} (h : Kq G G1) : Kp st G G1 := fun i c _ q => h i c q
theorem Ke.kq {G G1 : Gp} (h : Ke G G1) : Kq G G1 := fun _ _ q => h.at_ q
theorem Kq.trans {G G1 G2 : Gp} (a : Kq G G1) (b : Kq G1 G2) : Kq G G2 := fun i c q => b i c (a i c q)
theorem Kp.kq {r : Nat} {G G1 : Gp} {t : Gp} (hr : G.length ≤ r) (h : Kp r (G ++ t) G1) : Kq G G1 := fun i c q => by
  have hl := (List.getElem?_eq_some_iff.mp q).1
  exact h i c (by omega) (by rw [List.getElem?_append_left hl]; exact q)
theorem isNon_eq {u : U} (h : isNon u = true) : u = .non := by
  cases u <;> first | rfl | cases h
namespace K01
section
variable {n st : Nat} {L : List Nat} {G : Gp}
def due (name kind : U) (e o : Bool) (to gone : U) : U := if amiss name kind e to gone = "" then .tup [.str (Str.ofString "made"), name, kind, .bl e, .bl o, to, gone] else .tup [.str (Str.ofString "BadColumn"), .str (Str.ofString (amiss name kind e to gone)), .bl true, .bl true]
theorem made_ok {name kind to gone : U} {e o : Bool} {w : Int} (hw : w = 0 ∨ w = 1 ∨ w = 2) (hn : Th st G name) (hk : Th st G kind) (ht : Th st G to) (hg : Th st G gone) :
    Sat (run MP (n + 5) false L "" "_law_made" [.tup [name, kind, .bl e, .bl o, to, gone], .int w] G) (fun u G1 => u = due name kind e o to gone ∧ Kq G G1) noE := by
  rw [sat_run d_law_made rfl rfl]
  refine fsatT ?_
  generalize hK : (FK.mk _ _ _ _ _) = K
  have fin1 : amiss name kind e to gone = "" → ∀ G1, Kq G G1 → K.rt (.tup [.str (Str.ofString "made"), name, kind, .bl e, .bl o, to, gone]) G1 := fun h G1 q => by
    subst hK
    exact ⟨by unfold due; rw [if_pos h], q⟩
  have fin2 : amiss name kind e to gone ≠ "" → ∀ G1, Kq G G1 → K.rt (.tup [.str (Str.ofString "BadColumn"), .str (Str.ofString (amiss name kind e to gone)), .bl true, .bl true]) G1 := fun h G1 q => by
    subst hK
    exact ⟨by unfold due; rw [if_neg h], q⟩
  clear hK
  have hs1 : D.mp.sub "BadColumn" "BadColumn" = some true := s_BadColumn_BadColumn
  have hs2 : D.mp.sub "BadColumn" "HoldError" = some true := s_BadColumn_HoldError
  have hs3 : D.mp.sub "BadColumn" "ValueError" = some true := s_BadColumn_ValueError
  have hfl : D.mp.flds "BadColumn" = some ["what"] := f_BadColumn
  have kcl : Kp st G (G ++ [.ins "Column" []]) := Ke.app.kp
  have I := init_ok (n := n) (L := L) (G := G ++ [.ins "Column" []]) (r := G.length) (e := e) (o := o) (hn.kp kcl) (hk.kp kcl) (ht.kp kcl) (hg.kp kcl) v_new
  rcases hw with rfl | rfl | rfl
  · simp only [m_law_made, start, List.map_cons, List.map_nil, List.replicate, List.nil_append, List.cons_append]
    o_readsAll
    refine SatT.useE I ?_ ?_
    · rintro _ G1 ⟨rfl, ha, hr, kp⟩
      have := fin1 ha G1 (kp.kq (Nat.le_refl _))
      clear fin1 fin2 I
      o_readsAll
    · rintro c fs G1 ⟨rfl, ha, rfl, ke⟩
      have := fin2 ha G1 (Ke.app.kq.trans ke.kq)
      clear fin1 fin2 I
      o_readsAll
  · simp only [m_law_made, start, List.map_cons, List.map_nil, List.replicate, List.nil_append, List.cons_append]
    o_readsAll
    refine SatT.useE I ?_ ?_
    · rintro _ G1 ⟨rfl, ha, hr, kp⟩
      have := fin1 ha G1 (kp.kq (Nat.le_refl _))
      clear fin1 fin2 I
      o_readsAll
    · rintro c fs G1 ⟨rfl, ha, rfl, ke⟩
      have := fin2 ha G1 (Ke.app.kq.trans ke.kq)
      clear fin1 fin2 I
      o_readsAll
  · simp only [m_law_made, start, List.map_cons, List.map_nil, List.replicate, List.nil_append, List.cons_append]
    have c1 : cut [name, kind, .bl e, .bl o, to, gone] (some 1) none = [kind, .bl e, .bl o, to, gone] := rfl
    have c2 : cut [name, kind, .bl e, .bl o, to, gone] (some 2) none = [.bl e, .bl o, to, gone] := rfl
    have hkS : ∀ s, eqU 11 G kind (.str s) = some (isS kind s) := fun s => hk.eqS (n := 10) s
    have hgS : ∀ s, eqU 11 G gone (.str s) = some (isS gone s) := fun s => hg.eqS (n := 10) s
    have hgS2 : ∀ s, eqU 12 G gone (.str s) = some (isS gone s) := fun s => hg.eqS (n := 11) s
    have htN : eqU 11 G to .non = some (isNon to) := ht.eqN (n := 10)
    o_readsAll
    refine br_of (fun hb => ?_) (fun hb => ?_)
    · simp only [Bool.and_eq_true, decide_eq_true_eq] at hb
      obtain ⟨b1, b2, b3, b4, b5⟩ := hb
      have e1 := isS_str b1
      have e4 := isNon_eq b4
      have e5 := isS_str b5
      subst e1 b2 b3 e4 e5
      clear b1 b4 b5 hkS hgS hgS2 htN
      o_readsAll
      refine SatT.useE I ?_ ?_
      · rintro _ G1 ⟨rfl, ha, hr, kp⟩
        have := fin1 ha G1 (kp.kq (Nat.le_refl _))
        clear fin1 fin2 I
        o_readsAll
      · rintro c fs G1 ⟨rfl, ha, rfl, ke⟩
        have := fin2 ha G1 (Ke.app.kq.trans ke.kq)
        clear fin1 fin2 I
        o_readsAll
    · clear hb
      o_readsAll
      refine br_of (fun hb => ?_) (fun hb => ?_)
      · simp only [Bool.and_eq_true, decide_eq_true_eq] at hb
        obtain ⟨b2, b3, b4, b5⟩ := hb
        have e4 := isNon_eq b4
        have e5 := isS_str b5
        subst b2 b3 e4 e5
        clear b4 b5 hkS hgS hgS2 htN
        o_readsAll
        refine SatT.useE I ?_ ?_
        · rintro _ G1 ⟨rfl, ha, hr, kp⟩
          have := fin1 ha G1 (kp.kq (Nat.le_refl _))
          clear fin1 fin2 I
          o_readsAll
        · rintro c fs G1 ⟨rfl, ha, rfl, ke⟩
          have := fin2 ha G1 (Ke.app.kq.trans ke.kq)
          clear fin1 fin2 I
          o_readsAll
      · clear hb
        o_readsAll
        refine br_of (fun hb => ?_) (fun hb => ?_)
        · have e5 := isS_str hb
          subst e5
          clear hb hkS hgS hgS2 htN
          o_readsAll
          refine SatT.useE I ?_ ?_
          · rintro _ G1 ⟨rfl, ha, hr, kp⟩
            have := fin1 ha G1 (kp.kq (Nat.le_refl _))
            clear fin1 fin2 I
            o_readsAll
          · rintro c fs G1 ⟨rfl, ha, rfl, ke⟩
            have := fin2 ha G1 (Ke.app.kq.trans ke.kq)
            clear fin1 fin2 I
            o_readsAll
        · clear hb hkS hgS hgS2 htN
          o_readsAll
          refine SatT.useE I ?_ ?_
          · rintro _ G1 ⟨rfl, ha, hr, kp⟩
            have := fin1 ha G1 (kp.kq (Nat.le_refl _))
            clear fin1 fin2 I
            o_readsAll
          · rintro c fs G1 ⟨rfl, ha, rfl, ke⟩
            have := fin2 ha G1 (Ke.app.kq.trans ke.kq)
            clear fin1 fin2 I
            o_readsAll
end
end K01
end PV
set_option Elab.async false
set_option linter.all false
set_option maxRecDepth 100000
set_option maxHeartbeats 4000000
namespace PV
open PySem
local macro_rules | `(tactic| o_shape) => `(tactic| simp -dsimp only [↓m_br1, m_br1, ↓m_br0, m_br0, ↓m_brn, m_brn, ↓m_ok, m_ok, ↓m_exn, ↓m_bad, m_bad, ↓m_bind, ↓m_ofO, m_ofO, ↓m_site, m_site, ↓m_some, m_some, ↓m_none, m_none, ↓m_map, m_map, ↓m_obind, m_obind, ↓m_oite, m_oite, ↓m_someP, m_someP, ↓m_noneP, m_noneP, ↓m_bindP, m_bindP, ↓m_someW, m_someW, ↓m_noneW, m_noneW, ↓m_bindW, m_bindW, ↓m_iteW, m_iteW, ↓m_nm, ↓m_cI, ↓m_cS, ↓m_cB, ↓m_cN, ↓m_gl, ↓m_bin, ↓m_neg, ↓m_cmp, ↓m_cmp2, ↓m_and1, ↓m_or1, ↓m_and2, ↓m_or2, ↓m_not, ↓m_ite, m_ite, ↓m_ife, ↓m_call, ↓m_mk, ↓m_meth, ↓m_bif, ↓m_isi, ↓m_bm, ↓m_attr, ↓m_xat, ↓m_xis, ↓m_sub, ↓m_slc, ↓m_tup, ↓m_lst, ↓m_dct0, ↓m_dct, ↓m_ep0, ↓m_ep1, ↓m_lc, ↓l_body, ↓f_body, ↓m_es0, ↓m_es1, ↓m_eo0, ↓m_eo1, ↓m_te, ↓m_tnot, ↓m_tand1, ↓m_tor1, ↓m_tand2, ↓m_tor2, ↓m_ts0, ↓m_ts1, ↓m_b0, ↓m_app1, ↓m_app0, ↓m_iff, ↓m_set, ↓m_setI, ↓m_setF, ↓m_aug, ↓m_exp, ↓m_ret, ↓m_retN, ↓m_pass, ↓m_brk, ↓m_cont, ↓m_whl, ↓m_for, ↓m_raise, ↓m_try, v_len, ↓v_len, v_all, ↓v_all, v_any, ↓v_any, v_intb, ↓v_intb, v_inti, ↓v_inti, v_lenT, ↓v_lenT, v_lenS, ↓v_lenS, v_lenR, ↓v_lenR, v_lenCl, ↓v_lenCl, v_lenCd, ↓v_lenCd, v_lat, ↓v_lat, v_lstC, ↓v_lstC, v_seqT, ↓v_seqT, v_seqR, ↓v_seqR, v_asI, ↓v_asI, v_asB, ↓v_asB, v_asR, ↓v_asR, v_trB, ↓v_trB, v_trN, ↓v_trN, v_trI, ↓v_trI, v_trT, ↓v_trT, v_trR, ↓v_trR, v_truCl, ↓v_truCl, v_truCd, ↓v_truCd, v_subT, ↓v_subT, v_subS, ↓v_subS, v_subRI, ↓v_subRI, v_subRS, ↓v_subRS, v_subCIl, ↓v_subCIl, v_subCId, ↓v_subCId, v_subCSd, ↓v_subCSd, v_setRI, ↓v_setRI, v_setRS, ↓v_setRS, v_setCIl, ↓v_setCIl, v_setCId, ↓v_setCId, v_setCSd, ↓v_setCSd, v_attr, ↓v_attr, v_atC, ↓v_atC, v_insC, ↓v_insC, v_emD, ↓v_emD, v_keyI, ↓v_keyI, v_keyS, ↓v_keyS, v_isi_bool, ↓v_isi_bool, v_isi_int, ↓v_isi_int, v_isi_str, ↓v_isi_str, v_isi_list, ↓v_isi_list, v_isi_tuple, ↓v_isi_tuple, v_isi_dict, ↓v_isi_dict, v_memS, ↓v_memS, v_new, ↓v_new, v_isN, ↓v_isN, v_isB, ↓v_isB, v_isI, ↓v_isI, v_isS, ↓v_isS, v_isT, ↓v_isT, v_isR, ↓v_isR, v_isCl, ↓v_isCl, v_isCd, ↓v_isCd, v_app, ↓v_app, v_appC, ↓v_appC, v_join, ↓v_join, v_upper, ↓v_upper, v_bmA, ↓v_bmA, v_bmJ, ↓v_bmJ, v_bmU, ↓v_bmU, v_slcT, ↓v_slcT, v_slcS, ↓v_slcS, v_slcR, ↓v_slcR, v_addI, ↓v_addI, v_subI, ↓v_subI, v_mulI, ↓v_mulI, v_mulS, ↓v_mulS, v_divI, ↓v_divI, v_modI, ↓v_modI, v_powI, ↓v_powI, v_addS, ↓v_addS, v_addT, ↓v_addT, v_addL, ↓v_addL, v_augA, ↓v_augA, v_augS, ↓v_augS, v_eq, ↓v_eq, v_ne, ↓v_ne, v_is, ↓v_is, v_isnt, ↓v_isnt, v_in, ↓v_in, v_notin, ↓v_notin, v_lt, ↓v_lt, v_le, ↓v_le, v_gt, ↓v_gt, v_ge, ↓v_ge, v_isNonN, ↓v_isNonN, v_isNonB, ↓v_isNonB, v_isNonI, ↓v_isNonI, v_isNonS, ↓v_isNonS, v_isNonT, ↓v_isNonT, v_isNonR, ↓v_isNonR, v_memT, ↓v_memT, v_memR, ↓v_memR, v_memCl, ↓v_memCl, v_memCd, ↓v_memCd, v_walkT, ↓v_walkT, v_walkR, ↓v_walkR, v_walkR2, ↓v_walkR2, v_walkS, ↓v_walkS, v_walkET, ↓v_walkET, v_walkL, ↓v_walkL, v_walkE, ↓v_walkE, v_walkCl, ↓v_walkCl, v_walkCEl, ↓v_walkCEl, v_ix, ↓v_ix, v_wipe0, ↓v_wipe0, v_wipe1, ↓v_wipe1, v_eqNN, ↓v_eqNN, v_eqNB, ↓v_eqNB, v_eqNI, ↓v_eqNI, v_eqNS, ↓v_eqNS, v_eqNT, ↓v_eqNT, v_eqBN, ↓v_eqBN, v_eqBB, ↓v_eqBB, v_eqBI, ↓v_eqBI, v_eqBS, ↓v_eqBS, v_eqBT, ↓v_eqBT, v_eqIN, ↓v_eqIN, v_eqIB, ↓v_eqIB, v_eqII, ↓v_eqII, v_eqIS, ↓v_eqIS, v_eqIT, ↓v_eqIT, v_eqSN, ↓v_eqSN, v_eqSB, ↓v_eqSB, v_eqSI, ↓v_eqSI, v_eqSS, ↓v_eqSS, v_eqST, ↓v_eqST, v_eqTN, ↓v_eqTN, v_eqTB, ↓v_eqTB, v_eqTI, ↓v_eqTI, v_eqTS, ↓v_eqTS, v_eqTT, ↓v_eqTT, ↓m_eqL0, m_eqL0, ↓m_eqL1, m_eqL1, ↓m_eqL2, m_eqL2, ↓m_eqL3, m_eqL3, v_neU, ↓v_neU, v_neSS, ↓v_neSS, v_neII, ↓v_neII, v_neTT, ↓v_neTT, v_pf0, ↓v_pf0, v_pf1, ↓v_pf1, v_pf2, ↓v_pf2, v_lk1, ↓v_lk1, v_lk2, ↓v_lk2, v_lk0, ↓v_lk0, v_scr, ↓v_scr, v_scrV, ↓v_scrV, v_scrN, ↓v_scrN, v_scrE, ↓v_scrE, v_six0, ↓v_six0, v_six1, ↓v_six1, v_setNew, ↓v_setNew, v_putK1, ↓v_putK1, v_osq, ↓v_osq, v_dctN, ↓v_dctN, v_dctB, ↓v_dctB, v_dctI, ↓v_dctI, v_dctS, ↓v_dctS, v_dctT, ↓v_dctT, v_asgT, ↓v_asgT, v_asgs0, ↓v_asgs0, v_asgs1, ↓v_asgs1, v_bindP0, ↓v_bindP0, v_bindP1, ↓v_bindP1, v_bindP2, ↓v_bindP2, slot_0, slot_1, slot_2, slot_3, slot_4, slot_5, slot_6, slot_7, slot_8, slot_9, slot_10, slot_11, slot_12, slot_13, slot_14, slot_15, slot_16, slot_17, slot_18, slot_19, slot_20, slot_21, slot_22, slot_23, slot_24, slot_25, slot_26, slot_27, slot_28, slot_29, exn_0, exn_1, exn_2, exn_3, exn_4, exn_5, exn_6, exn_7, exn_8, exn_9, exn_10, exn_11, exn_12, exn_13, exn_14, exn_15, exn_16, exn_17, exn_18, exn_19, exn_20, exn_21, exn_22, exn_23, exn_24, exn_25, exn_26, exn_27, exn_28, exn_29, asg_0, asg_1, asg_2, asg_3, asg_4, asg_5, asg_6, asg_7, asg_8, asg_9, asg_10, asg_11, asg_12, asg_13, asg_14, asg_15, asg_16, asg_17, asg_18, asg_19, asg_20, asg_21, asg_22, asg_23, asg_24, asg_25, asg_26, asg_27, asg_28, asg_29, dset_0, dset_1, dset_2, dset_3, dset_4, dset_5, dset_6, dset_7, dset_8, dset_9, dset_10, dset_11, dset_12, dset_13, dset_14, dset_15, dset_16, dset_17, dset_18, dset_19, dset_20, dset_21, dset_22, dset_23, dset_24, dset_25, dset_26, dset_27, dset_28, dset_29, at_0, at_1, at_2, at_3, at_4, at_5, at_6, at_7, at_8, at_9, at_10, at_11, at_12, at_13, at_14, at_15, List.length_cons, List.length_nil, Option.bind_some, Option.bind_none, Option.map_some, Option.map_none, decide_true, decide_false, Bool.not_true, Bool.not_false, Bool.and_true, Bool.true_and, Bool.and_false, Bool.false_and, Bool.or_true, Bool.true_or, Bool.or_false, Bool.false_or, List.isEmpty_nil, List.isEmpty_cons, Option.isSome_some, Option.isNone_some, Option.isSome_none, Option.isNone_none, List.nil_append, List.cons_append, beq_self_eq_true, and_true, true_and, m_setH, List.map_cons, List.map_nil, eq_self, lim_eq, List.length_range, dep_eq, List.getElem?_set_self, List.getElem?_set_ne, List.set_set, List.length_set, ne_eq, not_false_eq_true, List.length_map, Int.reduceLT, Int.reduceLE, Int.reduceEq, Int.reduceNe, Int.reduceAdd, Int.reduceSub, Int.reduceMul, Int.reduceNeg, Int.reducePow, Int.reduceToNat, Nat.reduceAdd, Nat.reduceSub, Nat.reduceMul, Nat.reduceLT, Nat.reduceLeDiff, Nat.reduceEqDiff, String.reduceEq, String.reduceBEq, String.reduceBNe, ↓reduceIte, Int.reduceBEq, Int.reduceBNe, Nat.reduceBEq, Int.cast_ofNat_Int, Int.toNat_natCast, *])
local macro_rules | `(tactic| o_readsAll) => `(tactic| repeat (first | o_shape | refine br_mul (by omega) ?_ | refine br_div (by omega) ?_ | refine br_pow (by omega) ?_ | refine br_dec (by omega) ?_ | refine br_decn (by omega) ?_))
local macro_rules | `(tactic| o_reads) => `(tactic| repeat' (first | o_shape | refine br_mul (by omega) ?_ | refine br_div (by omega) ?_ | refine br_pow (by omega) ?_ | refine br_dec (by omega) ?_ | refine br_decn (by omega) ?_ | refine br_of (fun _ => ?_) (fun _ => ?_)))
local macro_rules | `(tactic| wide_line with $t:term) => `(tactic| simp -dsimp only [↓m_br1, m_br1, ↓m_br0, m_br0, ↓m_brn, m_brn, ↓m_ok, m_ok, ↓m_exn, ↓m_bad, m_bad, ↓m_bind, ↓m_ofO, m_ofO, ↓m_site, m_site, ↓m_some, m_some, ↓m_none, m_none, ↓m_map, m_map, ↓m_obind, m_obind, ↓m_oite, m_oite, ↓m_someP, m_someP, ↓m_noneP, m_noneP, ↓m_bindP, m_bindP, ↓m_someW, m_someW, ↓m_noneW, m_noneW, ↓m_bindW, m_bindW, ↓m_iteW, m_iteW, ↓m_nm, ↓m_cI, ↓m_cS, ↓m_cB, ↓m_cN, ↓m_gl, ↓m_bin, ↓m_neg, ↓m_cmp, ↓m_cmp2, ↓m_and1, ↓m_or1, ↓m_and2, ↓m_or2, ↓m_not, ↓m_ite, m_ite, ↓m_ife, ↓m_call, ↓m_mk, ↓m_meth, ↓m_bif, ↓m_isi, ↓m_bm, ↓m_attr, ↓m_xat, ↓m_xis, ↓m_sub, ↓m_slc, ↓m_tup, ↓m_lst, ↓m_dct0, ↓m_dct, ↓m_ep0, ↓m_ep1, ↓m_lc, ↓l_body, ↓f_body, ↓m_es0, ↓m_es1, ↓m_eo0, ↓m_eo1, ↓m_te, ↓m_tnot, ↓m_tand1, ↓m_tor1, ↓m_tand2, ↓m_tor2, ↓m_ts0, ↓m_ts1, ↓m_b0, ↓m_app1, ↓m_app0, ↓m_iff, ↓m_set, ↓m_setI, ↓m_setF, ↓m_aug, ↓m_exp, ↓m_ret, ↓m_retN, ↓m_pass, ↓m_brk, ↓m_cont, ↓m_whl, ↓m_for, ↓m_raise, ↓m_try, v_len, ↓v_len, v_all, ↓v_all, v_any, ↓v_any, v_intb, ↓v_intb, v_inti, ↓v_inti, v_lenT, ↓v_lenT, v_lenS, ↓v_lenS, v_lenR, ↓v_lenR, v_lenCl, ↓v_lenCl, v_lenCd, ↓v_lenCd, v_lat, ↓v_lat, v_lstC, ↓v_lstC, v_seqT, ↓v_seqT, v_seqR, ↓v_seqR, v_asI, ↓v_asI, v_asB, ↓v_asB, v_asR, ↓v_asR, v_trB, ↓v_trB, v_trN, ↓v_trN, v_trI, ↓v_trI, v_trT, ↓v_trT, v_trR, ↓v_trR, v_truCl, ↓v_truCl, v_truCd, ↓v_truCd, v_subT, ↓v_subT, v_subS, ↓v_subS, v_subRI, ↓v_subRI, v_subRS, ↓v_subRS, v_subCIl, ↓v_subCIl, v_subCId, ↓v_subCId, v_subCSd, ↓v_subCSd, v_setRI, ↓v_setRI, v_setRS, ↓v_setRS, v_setCIl, ↓v_setCIl, v_setCId, ↓v_setCId, v_setCSd, ↓v_setCSd, v_attr, ↓v_attr, v_atC, ↓v_atC, v_insC, ↓v_insC, v_emD, ↓v_emD, v_keyI, ↓v_keyI, v_keyS, ↓v_keyS, v_isi_bool, ↓v_isi_bool, v_isi_int, ↓v_isi_int, v_isi_str, ↓v_isi_str, v_isi_list, ↓v_isi_list, v_isi_tuple, ↓v_isi_tuple, v_isi_dict, ↓v_isi_dict, v_memS, ↓v_memS, v_new, ↓v_new, v_isN, ↓v_isN, v_isB, ↓v_isB, v_isI, ↓v_isI, v_isS, ↓v_isS, v_isT, ↓v_isT, v_isR, ↓v_isR, v_isCl, ↓v_isCl, v_isCd, ↓v_isCd, v_app, ↓v_app, v_appC, ↓v_appC, v_join, ↓v_join, v_upper, ↓v_upper, v_bmA, ↓v_bmA, v_bmJ, ↓v_bmJ, v_bmU, ↓v_bmU, v_slcT, ↓v_slcT, v_slcS, ↓v_slcS, v_slcR, ↓v_slcR, v_addI, ↓v_addI, v_subI, ↓v_subI, v_mulI, ↓v_mulI, v_mulS, ↓v_mulS, v_divI, ↓v_divI, v_modI, ↓v_modI, v_powI, ↓v_powI, v_addS, ↓v_addS, v_addT, ↓v_addT, v_addL, ↓v_addL, v_augA, ↓v_augA, v_augS, ↓v_augS, v_eq, ↓v_eq, v_ne, ↓v_ne, v_is, ↓v_is, v_isnt, ↓v_isnt, v_in, ↓v_in, v_notin, ↓v_notin, v_lt, ↓v_lt, v_le, ↓v_le, v_gt, ↓v_gt, v_ge, ↓v_ge, v_isNonN, ↓v_isNonN, v_isNonB, ↓v_isNonB, v_isNonI, ↓v_isNonI, v_isNonS, ↓v_isNonS, v_isNonT, ↓v_isNonT, v_isNonR, ↓v_isNonR, v_memT, ↓v_memT, v_memR, ↓v_memR, v_memCl, ↓v_memCl, v_memCd, ↓v_memCd, v_walkT, ↓v_walkT, v_walkR, ↓v_walkR, v_walkR2, ↓v_walkR2, v_walkS, ↓v_walkS, v_walkET, ↓v_walkET, v_walkL, ↓v_walkL, v_walkE, ↓v_walkE, v_walkCl, ↓v_walkCl, v_walkCEl, ↓v_walkCEl, v_ix, ↓v_ix, v_wipe0, ↓v_wipe0, v_wipe1, ↓v_wipe1, v_eqNN, ↓v_eqNN, v_eqNB, ↓v_eqNB, v_eqNI, ↓v_eqNI, v_eqNS, ↓v_eqNS, v_eqNT, ↓v_eqNT, v_eqBN, ↓v_eqBN, v_eqBB, ↓v_eqBB, v_eqBI, ↓v_eqBI, v_eqBS, ↓v_eqBS, v_eqBT, ↓v_eqBT, v_eqIN, ↓v_eqIN, v_eqIB, ↓v_eqIB, v_eqII, ↓v_eqII, v_eqIS, ↓v_eqIS, v_eqIT, ↓v_eqIT, v_eqSN, ↓v_eqSN, v_eqSB, ↓v_eqSB, v_eqSI, ↓v_eqSI, v_eqSS, ↓v_eqSS, v_eqST, ↓v_eqST, v_eqTN, ↓v_eqTN, v_eqTB, ↓v_eqTB, v_eqTI, ↓v_eqTI, v_eqTS, ↓v_eqTS, v_eqTT, ↓v_eqTT, ↓m_eqL0, m_eqL0, ↓m_eqL1, m_eqL1, ↓m_eqL2, m_eqL2, ↓m_eqL3, m_eqL3, v_neU, ↓v_neU, v_neSS, ↓v_neSS, v_neII, ↓v_neII, v_neTT, ↓v_neTT, v_pf0, ↓v_pf0, v_pf1, ↓v_pf1, v_pf2, ↓v_pf2, v_lk1, ↓v_lk1, v_lk2, ↓v_lk2, v_lk0, ↓v_lk0, v_scr, ↓v_scr, v_scrV, ↓v_scrV, v_scrN, ↓v_scrN, v_scrE, ↓v_scrE, v_six0, ↓v_six0, v_six1, ↓v_six1, v_setNew, ↓v_setNew, v_putK1, ↓v_putK1, v_osq, ↓v_osq, v_dctN, ↓v_dctN, v_dctB, ↓v_dctB, v_dctI, ↓v_dctI, v_dctS, ↓v_dctS, v_dctT, ↓v_dctT, v_asgT, ↓v_asgT, v_asgs0, ↓v_asgs0, v_asgs1, ↓v_asgs1, v_bindP0, ↓v_bindP0, v_bindP1, ↓v_bindP1, v_bindP2, ↓v_bindP2, slot_0, slot_1, slot_2, slot_3, slot_4, slot_5, slot_6, slot_7, slot_8, slot_9, slot_10, slot_11, slot_12, slot_13, slot_14, slot_15, slot_16, slot_17, slot_18, slot_19, slot_20, slot_21, slot_22, slot_23, slot_24, slot_25, slot_26, slot_27, slot_28, slot_29, exn_0, exn_1, exn_2, exn_3, exn_4, exn_5, exn_6, exn_7, exn_8, exn_9, exn_10, exn_11, exn_12, exn_13, exn_14, exn_15, exn_16, exn_17, exn_18, exn_19, exn_20, exn_21, exn_22, exn_23, exn_24, exn_25, exn_26, exn_27, exn_28, exn_29, asg_0, asg_1, asg_2, asg_3, asg_4, asg_5, asg_6, asg_7, asg_8, asg_9, asg_10, asg_11, asg_12, asg_13, asg_14, asg_15, asg_16, asg_17, asg_18, asg_19, asg_20, asg_21, asg_22, asg_23, asg_24, asg_25, asg_26, asg_27, asg_28, asg_29, dset_0, dset_1, dset_2, dset_3, dset_4, dset_5, dset_6, dset_7, dset_8, dset_9, dset_10, dset_11, dset_12, dset_13, dset_14, dset_15, dset_16, dset_17, dset_18, dset_19, dset_20, dset_21, dset_22, dset_23, dset_24, dset_25, dset_26, dset_27, dset_28, dset_29, at_0, at_1, at_2, at_3, at_4, at_5, at_6, at_7, at_8, at_9, at_10, at_11, at_12, at_13, at_14, at_15, List.length_cons, List.length_nil, Option.bind_some, Option.bind_none, Option.map_some, Option.map_none, decide_true, decide_false, Bool.not_true, Bool.not_false, Bool.and_true, Bool.true_and, Bool.and_false, Bool.false_and, Bool.or_true, Bool.true_or, Bool.or_false, Bool.false_or, List.isEmpty_nil, List.isEmpty_cons, Option.isSome_some, Option.isNone_some, Option.isSome_none, Option.isNone_none, List.nil_append, List.cons_append, beq_self_eq_true, and_true, true_and, m_setH, List.map_cons, List.map_nil, eq_self, lim_eq, List.length_range, dep_eq, List.getElem?_set_self, List.getElem?_set_ne, List.set_set, List.length_set, ne_eq, not_false_eq_true, List.length_map, Int.reduceLT, Int.reduceLE, Int.reduceEq, Int.reduceNe, Int.reduceAdd, Int.reduceSub, Int.reduceMul, Int.reduceNeg, Int.reducePow, Int.reduceToNat, Nat.reduceAdd, Nat.reduceSub, Nat.reduceMul, Nat.reduceLT, Nat.reduceLeDiff, Nat.reduceEqDiff, String.reduceEq, String.reduceBEq, String.reduceBNe, ↓reduceIte, Int.reduceBEq, Int.reduceBNe, Nat.reduceBEq, Int.cast_ofNat_Int, Int.toNat_natCast, $t:term, *])

theorem upper_len : ∀ c ∈ lett.cps.toList, (Txt.upper ⟨#[c]⟩).length ≤ 100 := by decide +kernel
namespace K01
section
variable {n st : Nat} {L : List Nat} {G : Gp}
theorem odd_ok (h : DS st G) : Sat (run MP (n + 3) false L "" "_law_odd" [.ref st] G) (fun u G1 => Th st G1 u ∧ DS st G1 ∧ Kp st G G1) noE := by
  rw [sat_run d_law_odd rfl rfl]
  refine fsatT ?_
  generalize hK : (FK.mk _ _ _ _ _) = K
  have fin : ∀ u G1, Th st G1 u → DS st G1 → Kp st G G1 → K.rt u G1 := fun u G1 a b c => by
    subst hK
    exact ⟨a, b, c⟩
  clear hK
  simp only [m_law_odd, start, List.map_cons, List.map_nil, List.replicate, List.nil_append, List.cons_append]
  o_readsAll
  refine take_abs hFill hTake h (by omega) (by omega) fun v G1 h0 h1 hd hk hl => ?_
  obtain ⟨c, hc, hcm⟩ := at_in (us := (Str.ofString "abcdefghijklmnopqrstuvwxyz").cps.toList) h0 (by rw [Array.length_toList]; have := lett_len; unfold Str.length lett at this; omega)
  have hll : (Str.ofString "abcdefghijklmnopqrstuvwxyz").length = 26 := lett_len
  have hl1 : (⟨#[c]⟩ : Str).length = 1 := rfl
  have hl2 : (Str.ofString "1").length = 1 := by decide +kernel
  have hl3 : (Str.ofString " ").length = 1 := by decide +kernel
  clear hl
  o_readsAll
  rw [show List.foldl (fun (a : List (Key × U)) (p : Key × U) => putK a p.fst p.snd) [] [] = [] from rfl]
  have ke1 : Ke G1 (G1 ++ [Cell.lst []] ++ [Cell.lst [U.str ⟨#[c]⟩]] ++ [Cell.dct []] ++ [Cell.dct [(Sum.inr ⟨#[c]⟩, U.int 1)]]) := ((Ke.app.trans Ke.app).trans Ke.app).trans Ke.app
  refine take_abs hFill hTake (hd.ke ke1) (by omega) (by omega) fun v2 G3 h20 h21 hd3 hk3 _ => ?_
  have hlt := hd.lt
  have r1 : G3[G1.length]? = some (.lst []) := hk3 _ _ (by omega) (((Ke.app.trans Ke.app).trans Ke.app).at_ v_new)
  have r2 : G3[(G1 ++ [Cell.lst []]).length]? = some (.lst [.str ⟨#[c]⟩]) := hk3 _ _ (by rw [List.length_append]; omega) ((Ke.app.trans Ke.app).at_ v_new)
  have r3 : G3[(G1 ++ [Cell.lst []] ++ [Cell.lst [U.str ⟨#[c]⟩]]).length]? = some (.dct []) := hk3 _ _ (by rw [List.length_append, List.length_append]; omega) (Ke.app.at_ v_new)
  have r4 : G3[(G1 ++ [Cell.lst []] ++ [Cell.lst [U.str ⟨#[c]⟩]] ++ [Cell.dct []]).length]? = some (.dct [(Sum.inr ⟨#[c]⟩, U.int 1)]) := hk3 _ _ (by rw [List.length_append, List.length_append, List.length_append]; omega) v_new
  have n1 : G1.length ≠ st := by omega
  have n2 : (G1 ++ [Cell.lst []]).length ≠ st := by rw [List.length_append]; omega
  have n3 : (G1 ++ [Cell.lst []] ++ [Cell.lst [U.str ⟨#[c]⟩]]).length ≠ st := by rw [List.length_append, List.length_append]; omega
  have n4 : (G1 ++ [Cell.lst []] ++ [Cell.lst [U.str ⟨#[c]⟩]] ++ [Cell.dct []]).length ≠ st := by rw [List.length_append, List.length_append, List.length_append]; omega
  have u1 := upper_len c hcm
  have s8 : (repS ⟨#[c]⟩ 8).length ≤ 100 := by rw [repS_len]; show 1 * 8 ≤ 100; decide
  have s9 : (repS ⟨#[c]⟩ 9).length ≤ 100 := by rw [repS_len]; show 1 * 9 ≤ 100; decide
  have sa : ((⟨#[c]⟩ : Str) ++ Str.ofString "1").length ≤ 100 := by rw [Str.length_append, hl1, hl2]; decide
  have sb : ((⟨#[c]⟩ : Str) ++ Str.ofString " ").length ≤ 100 := by rw [Str.length_append, hl1, hl3]; decide
  have s1 : (⟨#[c]⟩ : Str).length ≤ 100 := by rw [hl1]; decide
  have key : ∀ u ∈ [U.non, U.bl true, U.bl false, U.int 0, U.int (-1), U.int 7, U.int 1000000, U.str (Str.ofString ""), U.str ⟨#[c]⟩, U.str (repS ⟨#[c]⟩ 8), U.str (repS ⟨#[c]⟩ 9), U.str (Txt.upper ⟨#[c]⟩), U.str (⟨#[c]⟩ ++ Str.ofString "1"),
      U.str (⟨#[c]⟩ ++ Str.ofString " "), U.ref (List.length G1), U.ref (List.length (G1 ++ [Cell.lst []])), U.tup [U.str ⟨#[c]⟩], U.ref (List.length (G1 ++ [Cell.lst []] ++ [Cell.lst [U.str ⟨#[c]⟩]])), U.ref (List.length (G1 ++ [Cell.lst []] ++ [Cell.lst [U.str ⟨#[c]⟩]] ++ [Cell.dct []])),
      U.tup [U.str (Str.ofString "link")], U.str (Str.ofString "Link"), U.str (Str.ofString "none"), U.str (Str.ofString "bar"), U.str (Str.ofString "link")], Th st G3 u := by
    intro u hu
    simp only [List.mem_cons, List.not_mem_nil, or_false] at hu
    rcases hu with rfl | rfl | rfl | rfl | rfl | rfl | rfl | rfl | rfl | rfl | rfl | rfl | rfl | rfl | rfl | rfl | rfl | rfl | rfl | rfl | rfl | rfl | rfl | rfl
    · exact .non
    · exact .bl _
    · exact .bl _
    · exact .int _
    · exact .int _
    · exact .int _
    · exact .int _
    · exact .str _ (by decide +kernel)
    · exact .str _ s1
    · exact .str _ s8
    · exact .str _ s9
    · exact .str _ u1
    · exact .str _ sa
    · exact .str _ sb
    · exact .ref _ _ n1 r1 .l0
    · exact .ref _ _ n2 r2 (.l1 _)
    · exact .tup _
    · exact .ref _ _ n3 r3 .d0
    · exact .ref _ _ n4 r4 (.d1 _ _)
    · exact .tup _
    · exact .str _ (by decide +kernel)
    · exact .str _ (by decide +kernel)
    · exact .str _ (by decide +kernel)
    · exact .str _ (by decide +kernel)
  clear r1 r2 r3 r4 n1 n2 n3 n4 s8 s9 sa sb s1 u1
  obtain ⟨u, hu, hum⟩ := at_in (us := [U.non, U.bl true, U.bl false, U.int 0, U.int (-1), U.int 7, U.int 1000000, U.str (Str.ofString ""), U.str ⟨#[c]⟩, U.str (repS ⟨#[c]⟩ 8), U.str (repS ⟨#[c]⟩ 9), U.str (Txt.upper ⟨#[c]⟩), U.str (⟨#[c]⟩ ++ Str.ofString "1"),
      U.str (⟨#[c]⟩ ++ Str.ofString " "), U.ref (List.length G1), U.ref (List.length (G1 ++ [Cell.lst []])), U.tup [U.str ⟨#[c]⟩], U.ref (List.length (G1 ++ [Cell.lst []] ++ [Cell.lst [U.str ⟨#[c]⟩]])), U.ref (List.length (G1 ++ [Cell.lst []] ++ [Cell.lst [U.str ⟨#[c]⟩]] ++ [Cell.dct []])),
      U.tup [U.str (Str.ofString "link")], U.str (Str.ofString "Link"), U.str (Str.ofString "none"), U.str (Str.ofString "bar"), U.str (Str.ofString "link")]) h20 (by simpa using h21)
  have f := fin u G3 (key u hum) hd3 (hk.trans (ke1.kp.trans hk3))
  clear key hum
  rw [v_subT, hu, m_some]
  exact f
end
end K01
end PV
set_option Elab.async false
set_option linter.all false
set_option maxRecDepth 100000
set_option maxHeartbeats 4000000
namespace PV
open PySem
local macro_rules | `(tactic| o_shape) => `(tactic| simp -dsimp only [↓m_br1, m_br1, ↓m_br0, m_br0, ↓m_brn, m_brn, ↓m_ok, m_ok, ↓m_exn, ↓m_bad, m_bad, ↓m_bind, ↓m_ofO, m_ofO, ↓m_site, m_site, ↓m_some, m_some, ↓m_none, m_none, ↓m_map, m_map, ↓m_obind, m_obind, ↓m_oite, m_oite, ↓m_someP, m_someP, ↓m_noneP, m_noneP, ↓m_bindP, m_bindP, ↓m_someW, m_someW, ↓m_noneW, m_noneW, ↓m_bindW, m_bindW, ↓m_iteW, m_iteW, ↓m_nm, ↓m_cI, ↓m_cS, ↓m_cB, ↓m_cN, ↓m_gl, ↓m_bin, ↓m_neg, ↓m_cmp, ↓m_cmp2, ↓m_and1, ↓m_or1, ↓m_and2, ↓m_or2, ↓m_not, ↓m_ite, m_ite, ↓m_ife, ↓m_call, ↓m_mk, ↓m_meth, ↓m_bif, ↓m_isi, ↓m_bm, ↓m_attr, ↓m_xat, ↓m_xis, ↓m_sub, ↓m_slc, ↓m_tup, ↓m_lst, ↓m_dct0, ↓m_dct, ↓m_ep0, ↓m_ep1, ↓m_lc, ↓l_body, ↓f_body, ↓m_es0, ↓m_es1, ↓m_eo0, ↓m_eo1, ↓m_te, ↓m_tnot, ↓m_tand1, ↓m_tor1, ↓m_tand2, ↓m_tor2, ↓m_ts0, ↓m_ts1, ↓m_b0, ↓m_app1, ↓m_app0, ↓m_iff, ↓m_set, ↓m_setI, ↓m_setF, ↓m_aug, ↓m_exp, ↓m_ret, ↓m_retN, ↓m_pass, ↓m_brk, ↓m_cont, ↓m_whl, ↓m_for, ↓m_raise, ↓m_try, v_len, ↓v_len, v_all, ↓v_all, v_any, ↓v_any, v_intb, ↓v_intb, v_inti, ↓v_inti, v_lenT, ↓v_lenT, v_lenS, ↓v_lenS, v_lenR, ↓v_lenR, v_lenCl, ↓v_lenCl, v_lenCd, ↓v_lenCd, v_lat, ↓v_lat, v_lstC, ↓v_lstC, v_seqT, ↓v_seqT, v_seqR, ↓v_seqR, v_asI, ↓v_asI, v_asB, ↓v_asB, v_asR, ↓v_asR, v_trB, ↓v_trB, v_trN, ↓v_trN, v_trI, ↓v_trI, v_trT, ↓v_trT, v_trR, ↓v_trR, v_truCl, ↓v_truCl, v_truCd, ↓v_truCd, v_subT, ↓v_subT, v_subS, ↓v_subS, v_subRI, ↓v_subRI, v_subRS, ↓v_subRS, v_subCIl, ↓v_subCIl, v_subCId, ↓v_subCId, v_subCSd, ↓v_subCSd, v_setRI, ↓v_setRI, v_setRS, ↓v_setRS, v_setCIl, ↓v_setCIl, v_setCId, ↓v_setCId, v_setCSd, ↓v_setCSd, v_attr, ↓v_attr, v_atC, ↓v_atC, v_insC, ↓v_insC, v_emD, ↓v_emD, v_keyI, ↓v_keyI, v_keyS, ↓v_keyS, v_isi_bool, ↓v_isi_bool, v_isi_int, ↓v_isi_int, v_isi_str, ↓v_isi_str, v_isi_list, ↓v_isi_list, v_isi_tuple, ↓v_isi_tuple, v_isi_dict, ↓v_isi_dict, v_memS, ↓v_memS, v_new, ↓v_new, v_isN, ↓v_isN, v_isB, ↓v_isB, v_isI, ↓v_isI, v_isS, ↓v_isS, v_isT, ↓v_isT, v_isR, ↓v_isR, v_isCl, ↓v_isCl, v_isCd, ↓v_isCd, v_app, ↓v_app, v_appC, ↓v_appC, v_join, ↓v_join, v_upper, ↓v_upper, v_bmA, ↓v_bmA, v_bmJ, ↓v_bmJ, v_bmU, ↓v_bmU, v_slcT, ↓v_slcT, v_slcS, ↓v_slcS, v_slcR, ↓v_slcR, v_addI, ↓v_addI, v_subI, ↓v_subI, v_mulI, ↓v_mulI, v_mulS, ↓v_mulS, v_divI, ↓v_divI, v_modI, ↓v_modI, v_powI, ↓v_powI, v_addS, ↓v_addS, v_addT, ↓v_addT, v_addL, ↓v_addL, v_augA, ↓v_augA, v_augS, ↓v_augS, v_eq, ↓v_eq, v_ne, ↓v_ne, v_is, ↓v_is, v_isnt, ↓v_isnt, v_in, ↓v_in, v_notin, ↓v_notin, v_lt, ↓v_lt, v_le, ↓v_le, v_gt, ↓v_gt, v_ge, ↓v_ge, v_isNonN, ↓v_isNonN, v_isNonB, ↓v_isNonB, v_isNonI, ↓v_isNonI, v_isNonS, ↓v_isNonS, v_isNonT, ↓v_isNonT, v_isNonR, ↓v_isNonR, v_memT, ↓v_memT, v_memR, ↓v_memR, v_memCl, ↓v_memCl, v_memCd, ↓v_memCd, v_walkT, ↓v_walkT, v_walkR, ↓v_walkR, v_walkR2, ↓v_walkR2, v_walkS, ↓v_walkS, v_walkET, ↓v_walkET, v_walkL, ↓v_walkL, v_walkE, ↓v_walkE, v_walkCl, ↓v_walkCl, v_walkCEl, ↓v_walkCEl, v_ix, ↓v_ix, v_wipe0, ↓v_wipe0, v_wipe1, ↓v_wipe1, v_eqNN, ↓v_eqNN, v_eqNB, ↓v_eqNB, v_eqNI, ↓v_eqNI, v_eqNS, ↓v_eqNS, v_eqNT, ↓v_eqNT, v_eqBN, ↓v_eqBN, v_eqBB, ↓v_eqBB, v_eqBI, ↓v_eqBI, v_eqBS, ↓v_eqBS, v_eqBT, ↓v_eqBT, v_eqIN, ↓v_eqIN, v_eqIB, ↓v_eqIB, v_eqII, ↓v_eqII, v_eqIS, ↓v_eqIS, v_eqIT, ↓v_eqIT, v_eqSN, ↓v_eqSN, v_eqSB, ↓v_eqSB, v_eqSI, ↓v_eqSI, v_eqSS, ↓v_eqSS, v_eqST, ↓v_eqST, v_eqTN, ↓v_eqTN, v_eqTB, ↓v_eqTB, v_eqTI, ↓v_eqTI, v_eqTS, ↓v_eqTS, v_eqTT, ↓v_eqTT, ↓m_eqL0, m_eqL0, ↓m_eqL1, m_eqL1, ↓m_eqL2, m_eqL2, ↓m_eqL3, m_eqL3, v_neU, ↓v_neU, v_neSS, ↓v_neSS, v_neII, ↓v_neII, v_neTT, ↓v_neTT, v_pf0, ↓v_pf0, v_pf1, ↓v_pf1, v_pf2, ↓v_pf2, v_lk1, ↓v_lk1, v_lk2, ↓v_lk2, v_lk0, ↓v_lk0, v_scr, ↓v_scr, v_scrV, ↓v_scrV, v_scrN, ↓v_scrN, v_scrE, ↓v_scrE, v_six0, ↓v_six0, v_six1, ↓v_six1, v_setNew, ↓v_setNew, v_putK1, ↓v_putK1, v_osq, ↓v_osq, v_dctN, ↓v_dctN, v_dctB, ↓v_dctB, v_dctI, ↓v_dctI, v_dctS, ↓v_dctS, v_dctT, ↓v_dctT, v_asgT, ↓v_asgT, v_asgs0, ↓v_asgs0, v_asgs1, ↓v_asgs1, v_bindP0, ↓v_bindP0, v_bindP1, ↓v_bindP1, v_bindP2, ↓v_bindP2, slot_0, slot_1, slot_2, slot_3, slot_4, slot_5, slot_6, slot_7, slot_8, slot_9, slot_10, slot_11, slot_12, slot_13, slot_14, slot_15, slot_16, slot_17, slot_18, slot_19, slot_20, slot_21, slot_22, slot_23, slot_24, slot_25, slot_26, slot_27, slot_28, slot_29, exn_0, exn_1, exn_2, exn_3, exn_4, exn_5, exn_6, exn_7, exn_8, exn_9, exn_10, exn_11, exn_12, exn_13, exn_14, exn_15, exn_16, exn_17, exn_18, exn_19, exn_20, exn_21, exn_22, exn_23, exn_24, exn_25, exn_26, exn_27, exn_28, exn_29, asg_0, asg_1, asg_2, asg_3, asg_4, asg_5, asg_6, asg_7, asg_8, asg_9, asg_10, asg_11, asg_12, asg_13, asg_14, asg_15, asg_16, asg_17, asg_18, asg_19, asg_20, asg_21, asg_22, asg_23, asg_24, asg_25, asg_26, asg_27, asg_28, asg_29, dset_0, dset_1, dset_2, dset_3, dset_4, dset_5, dset_6, dset_7, dset_8, dset_9, dset_10, dset_11, dset_12, dset_13, dset_14, dset_15, dset_16, dset_17, dset_18, dset_19, dset_20, dset_21, dset_22, dset_23, dset_24, dset_25, dset_26, dset_27, dset_28, dset_29, at_0, at_1, at_2, at_3, at_4, at_5, at_6, at_7, at_8, at_9, at_10, at_11, at_12, at_13, at_14, at_15, List.length_cons, List.length_nil, Option.bind_some, Option.bind_none, Option.map_some, Option.map_none, decide_true, decide_false, Bool.not_true, Bool.not_false, Bool.and_true, Bool.true_and, Bool.and_false, Bool.false_and, Bool.or_true, Bool.true_or, Bool.or_false, Bool.false_or, List.isEmpty_nil, List.isEmpty_cons, Option.isSome_some, Option.isNone_some, Option.isSome_none, Option.isNone_none, List.nil_append, List.cons_append, beq_self_eq_true, and_true, true_and, m_setH, List.map_cons, List.map_nil, eq_self, lim_eq, List.length_range, dep_eq, List.getElem?_set_self, List.getElem?_set_ne, List.set_set, List.length_set, ne_eq, not_false_eq_true, List.length_map, Int.reduceLT, Int.reduceLE, Int.reduceEq, Int.reduceNe, Int.reduceAdd, Int.reduceSub, Int.reduceMul, Int.reduceNeg, Int.reducePow, Int.reduceToNat, Nat.reduceAdd, Nat.reduceSub, Nat.reduceMul, Nat.reduceLT, Nat.reduceLeDiff, Nat.reduceEqDiff, String.reduceEq, String.reduceBEq, String.reduceBNe, ↓reduceIte, Int.reduceBEq, Int.reduceBNe, Nat.reduceBEq, Int.cast_ofNat_Int, Int.toNat_natCast, *])
local macro_rules | `(tactic| o_readsAll) => `(tactic| repeat (first | o_shape | refine br_mul (by omega) ?_ | refine br_div (by omega) ?_ | refine br_pow (by omega) ?_ | refine br_dec (by omega) ?_ | refine br_decn (by omega) ?_))
local macro_rules | `(tactic| o_reads) => `(tactic| repeat' (first | o_shape | refine br_mul (by omega) ?_ | refine br_div (by omega) ?_ | refine br_pow (by omega) ?_ | refine br_dec (by omega) ?_ | refine br_decn (by omega) ?_ | refine br_of (fun _ => ?_) (fun _ => ?_)))
local macro_rules | `(tactic| wide_line with $t:term) => `(tactic| simp -dsimp only [↓m_br1, m_br1, ↓m_br0, m_br0, ↓m_brn, m_brn, ↓m_ok, m_ok, ↓m_exn, ↓m_bad, m_bad, ↓m_bind, ↓m_ofO, m_ofO, ↓m_site, m_site, ↓m_some, m_some, ↓m_none, m_none, ↓m_map, m_map, ↓m_obind, m_obind, ↓m_oite, m_oite, ↓m_someP, m_someP, ↓m_noneP, m_noneP, ↓m_bindP, m_bindP, ↓m_someW, m_someW, ↓m_noneW, m_noneW, ↓m_bindW, m_bindW, ↓m_iteW, m_iteW, ↓m_nm, ↓m_cI, ↓m_cS, ↓m_cB, ↓m_cN, ↓m_gl, ↓m_bin, ↓m_neg, ↓m_cmp, ↓m_cmp2, ↓m_and1, ↓m_or1, ↓m_and2, ↓m_or2, ↓m_not, ↓m_ite, m_ite, ↓m_ife, ↓m_call, ↓m_mk, ↓m_meth, ↓m_bif, ↓m_isi, ↓m_bm, ↓m_attr, ↓m_xat, ↓m_xis, ↓m_sub, ↓m_slc, ↓m_tup, ↓m_lst, ↓m_dct0, ↓m_dct, ↓m_ep0, ↓m_ep1, ↓m_lc, ↓l_body, ↓f_body, ↓m_es0, ↓m_es1, ↓m_eo0, ↓m_eo1, ↓m_te, ↓m_tnot, ↓m_tand1, ↓m_tor1, ↓m_tand2, ↓m_tor2, ↓m_ts0, ↓m_ts1, ↓m_b0, ↓m_app1, ↓m_app0, ↓m_iff, ↓m_set, ↓m_setI, ↓m_setF, ↓m_aug, ↓m_exp, ↓m_ret, ↓m_retN, ↓m_pass, ↓m_brk, ↓m_cont, ↓m_whl, ↓m_for, ↓m_raise, ↓m_try, v_len, ↓v_len, v_all, ↓v_all, v_any, ↓v_any, v_intb, ↓v_intb, v_inti, ↓v_inti, v_lenT, ↓v_lenT, v_lenS, ↓v_lenS, v_lenR, ↓v_lenR, v_lenCl, ↓v_lenCl, v_lenCd, ↓v_lenCd, v_lat, ↓v_lat, v_lstC, ↓v_lstC, v_seqT, ↓v_seqT, v_seqR, ↓v_seqR, v_asI, ↓v_asI, v_asB, ↓v_asB, v_asR, ↓v_asR, v_trB, ↓v_trB, v_trN, ↓v_trN, v_trI, ↓v_trI, v_trT, ↓v_trT, v_trR, ↓v_trR, v_truCl, ↓v_truCl, v_truCd, ↓v_truCd, v_subT, ↓v_subT, v_subS, ↓v_subS, v_subRI, ↓v_subRI, v_subRS, ↓v_subRS, v_subCIl, ↓v_subCIl, v_subCId, ↓v_subCId, v_subCSd, ↓v_subCSd, v_setRI, ↓v_setRI, v_setRS, ↓v_setRS, v_setCIl, ↓v_setCIl, v_setCId, ↓v_setCId, v_setCSd, ↓v_setCSd, v_attr, ↓v_attr, v_atC, ↓v_atC, v_insC, ↓v_insC, v_emD, ↓v_emD, v_keyI, ↓v_keyI, v_keyS, ↓v_keyS, v_isi_bool, ↓v_isi_bool, v_isi_int, ↓v_isi_int, v_isi_str, ↓v_isi_str, v_isi_list, ↓v_isi_list, v_isi_tuple, ↓v_isi_tuple, v_isi_dict, ↓v_isi_dict, v_memS, ↓v_memS, v_new, ↓v_new, v_isN, ↓v_isN, v_isB, ↓v_isB, v_isI, ↓v_isI, v_isS, ↓v_isS, v_isT, ↓v_isT, v_isR, ↓v_isR, v_isCl, ↓v_isCl, v_isCd, ↓v_isCd, v_app, ↓v_app, v_appC, ↓v_appC, v_join, ↓v_join, v_upper, ↓v_upper, v_bmA, ↓v_bmA, v_bmJ, ↓v_bmJ, v_bmU, ↓v_bmU, v_slcT, ↓v_slcT, v_slcS, ↓v_slcS, v_slcR, ↓v_slcR, v_addI, ↓v_addI, v_subI, ↓v_subI, v_mulI, ↓v_mulI, v_mulS, ↓v_mulS, v_divI, ↓v_divI, v_modI, ↓v_modI, v_powI, ↓v_powI, v_addS, ↓v_addS, v_addT, ↓v_addT, v_addL, ↓v_addL, v_augA, ↓v_augA, v_augS, ↓v_augS, v_eq, ↓v_eq, v_ne, ↓v_ne, v_is, ↓v_is, v_isnt, ↓v_isnt, v_in, ↓v_in, v_notin, ↓v_notin, v_lt, ↓v_lt, v_le, ↓v_le, v_gt, ↓v_gt, v_ge, ↓v_ge, v_isNonN, ↓v_isNonN, v_isNonB, ↓v_isNonB, v_isNonI, ↓v_isNonI, v_isNonS, ↓v_isNonS, v_isNonT, ↓v_isNonT, v_isNonR, ↓v_isNonR, v_memT, ↓v_memT, v_memR, ↓v_memR, v_memCl, ↓v_memCl, v_memCd, ↓v_memCd, v_walkT, ↓v_walkT, v_walkR, ↓v_walkR, v_walkR2, ↓v_walkR2, v_walkS, ↓v_walkS, v_walkET, ↓v_walkET, v_walkL, ↓v_walkL, v_walkE, ↓v_walkE, v_walkCl, ↓v_walkCl, v_walkCEl, ↓v_walkCEl, v_ix, ↓v_ix, v_wipe0, ↓v_wipe0, v_wipe1, ↓v_wipe1, v_eqNN, ↓v_eqNN, v_eqNB, ↓v_eqNB, v_eqNI, ↓v_eqNI, v_eqNS, ↓v_eqNS, v_eqNT, ↓v_eqNT, v_eqBN, ↓v_eqBN, v_eqBB, ↓v_eqBB, v_eqBI, ↓v_eqBI, v_eqBS, ↓v_eqBS, v_eqBT, ↓v_eqBT, v_eqIN, ↓v_eqIN, v_eqIB, ↓v_eqIB, v_eqII, ↓v_eqII, v_eqIS, ↓v_eqIS, v_eqIT, ↓v_eqIT, v_eqSN, ↓v_eqSN, v_eqSB, ↓v_eqSB, v_eqSI, ↓v_eqSI, v_eqSS, ↓v_eqSS, v_eqST, ↓v_eqST, v_eqTN, ↓v_eqTN, v_eqTB, ↓v_eqTB, v_eqTI, ↓v_eqTI, v_eqTS, ↓v_eqTS, v_eqTT, ↓v_eqTT, ↓m_eqL0, m_eqL0, ↓m_eqL1, m_eqL1, ↓m_eqL2, m_eqL2, ↓m_eqL3, m_eqL3, v_neU, ↓v_neU, v_neSS, ↓v_neSS, v_neII, ↓v_neII, v_neTT, ↓v_neTT, v_pf0, ↓v_pf0, v_pf1, ↓v_pf1, v_pf2, ↓v_pf2, v_lk1, ↓v_lk1, v_lk2, ↓v_lk2, v_lk0, ↓v_lk0, v_scr, ↓v_scr, v_scrV, ↓v_scrV, v_scrN, ↓v_scrN, v_scrE, ↓v_scrE, v_six0, ↓v_six0, v_six1, ↓v_six1, v_setNew, ↓v_setNew, v_putK1, ↓v_putK1, v_osq, ↓v_osq, v_dctN, ↓v_dctN, v_dctB, ↓v_dctB, v_dctI, ↓v_dctI, v_dctS, ↓v_dctS, v_dctT, ↓v_dctT, v_asgT, ↓v_asgT, v_asgs0, ↓v_asgs0, v_asgs1, ↓v_asgs1, v_bindP0, ↓v_bindP0, v_bindP1, ↓v_bindP1, v_bindP2, ↓v_bindP2, slot_0, slot_1, slot_2, slot_3, slot_4, slot_5, slot_6, slot_7, slot_8, slot_9, slot_10, slot_11, slot_12, slot_13, slot_14, slot_15, slot_16, slot_17, slot_18, slot_19, slot_20, slot_21, slot_22, slot_23, slot_24, slot_25, slot_26, slot_27, slot_28, slot_29, exn_0, exn_1, exn_2, exn_3, exn_4, exn_5, exn_6, exn_7, exn_8, exn_9, exn_10, exn_11, exn_12, exn_13, exn_14, exn_15, exn_16, exn_17, exn_18, exn_19, exn_20, exn_21, exn_22, exn_23, exn_24, exn_25, exn_26, exn_27, exn_28, exn_29, asg_0, asg_1, asg_2, asg_3, asg_4, asg_5, asg_6, asg_7, asg_8, asg_9, asg_10, asg_11, asg_12, asg_13, asg_14, asg_15, asg_16, asg_17, asg_18, asg_19, asg_20, asg_21, asg_22, asg_23, asg_24, asg_25, asg_26, asg_27, asg_28, asg_29, dset_0, dset_1, dset_2, dset_3, dset_4, dset_5, dset_6, dset_7, dset_8, dset_9, dset_10, dset_11, dset_12, dset_13, dset_14, dset_15, dset_16, dset_17, dset_18, dset_19, dset_20, dset_21, dset_22, dset_23, dset_24, dset_25, dset_26, dset_27, dset_28, dset_29, at_0, at_1, at_2, at_3, at_4, at_5, at_6, at_7, at_8, at_9, at_10, at_11, at_12, at_13, at_14, at_15, List.length_cons, List.length_nil, Option.bind_some, Option.bind_none, Option.map_some, Option.map_none, decide_true, decide_false, Bool.not_true, Bool.not_false, Bool.and_true, Bool.true_and, Bool.and_false, Bool.false_and, Bool.or_true, Bool.true_or, Bool.or_false, Bool.false_or, List.isEmpty_nil, List.isEmpty_cons, Option.isSome_some, Option.isNone_some, Option.isSome_none, Option.isNone_none, List.nil_append, List.cons_append, beq_self_eq_true, and_true, true_and, m_setH, List.map_cons, List.map_nil, eq_self, lim_eq, List.length_range, dep_eq, List.getElem?_set_self, List.getElem?_set_ne, List.set_set, List.length_set, ne_eq, not_false_eq_true, List.length_map, Int.reduceLT, Int.reduceLE, Int.reduceEq, Int.reduceNe, Int.reduceAdd, Int.reduceSub, Int.reduceMul, Int.reduceNeg, Int.reducePow, Int.reduceToNat, Nat.reduceAdd, Nat.reduceSub, Nat.reduceMul, Nat.reduceLT, Nat.reduceLeDiff, Nat.reduceEqDiff, String.reduceEq, String.reduceBEq, String.reduceBNe, ↓reduceIte, Int.reduceBEq, Int.reduceBNe, Nat.reduceBEq, Int.cast_ofNat_Int, Int.toNat_natCast, $t:term, *])

theorem optT_mono {α : Type} {o : Option α} {f f' : α → Prop} (h : OptT o f ()) (k : ∀ a, f a → f' a) : OptT o f' () := by
  cases o with
  | none => exact h
  | some a => exact k a h
namespace K01
structure Parts (st : Nat) (G : Gp) (u : U) : Prop where
  ex : ∃ name kind e o to gone, u = .tup [name, kind, .bl e, .bl o, to, gone] ∧ Th st G name ∧ Th st G kind ∧ Th st G to ∧ Th st G gone
theorem Parts.kp {st : Nat} {G G1 : Gp} {u : U} (h : Parts st G u) (k : Kp st G G1) : Parts st G1 u := by
  obtain ⟨name, kind, e, o, to, gone, rfl, a, b, c, d⟩ := h.ex
  exact ⟨name, kind, e, o, to, gone, rfl, a.kp k, b.kp k, c.kp k, d.kp k⟩
section
variable {n st : Nat} {L : List Nat} {G : Gp}
theorem th_word {G : Gp} {w : Str} (h : IsW w) : Th st G (.str w) := .str w (by have := h.hi; omega)
theorem parts_ok (h : DS st G) : Sat (run MP (n + 4) false L "" "_law_parts" [.ref st] G) (fun u G1 => Parts st G1 u ∧ DS st G1 ∧ Kp st G G1) noE := by
  rw [sat_run d_law_parts rfl rfl]
  refine fsatT ?_
  generalize hK : (FK.mk _ _ _ _ _) = K
  have fin : ∀ name kind e o to gone G1, Th st G1 name → Th st G1 kind → Th st G1 to → Th st G1 gone → DS st G1 → Kp st G G1 → K.rt (.tup [name, kind, .bl e, .bl o, to, gone]) G1 := fun name kind e o to gone G1 a b c d e' f => by
    subst hK
    exact ⟨⟨_, _, _, _, _, _, rfl, a, b, c, d⟩, e', f⟩
  clear hK
  simp only [m_law_parts, start, List.map_cons, List.map_nil, List.replicate, List.nil_append, List.cons_append]
  o_readsAll
  refine SatT.use (words_ok (m := 3) hFill hTake hWords h (by omega)) ?_
  rintro _ G1 ⟨r, ws, rfl, hr, v⟩
  obtain ⟨v1, v2, v3, v4, v5, v6⟩ := v
  match ws, v2, v1, v3 with
  | [w0, w1, w2], _, v1, v3 =>
    have hlt := h.lt
    have t0 : IsW w0 := v3 _ (by simp)
    have t1 : IsW w1 := v3 _ (by simp)
    clear v3 v4
    simp only [List.map_cons, List.map_nil] at v1
    o_readsAll
    refine take_abs hFill hTake v5 (by omega) (by omega) fun x1 G2 a0 a1 d2 k2 _ => ?_
    obtain ⟨ks, hks, hkm⟩ := at_in (us := [U.str (Str.ofString "whole"), .str (Str.ofString "text"), .str (Str.ofString "truth"), .str (Str.ofString "link"), .str (Str.ofString "link")]) a0 (by simpa using a1)
    obtain ⟨kd, rfl, tk⟩ : ∃ kd, ks = .str kd ∧ kd.length ≤ 100 := by
      simp only [List.mem_cons, List.not_mem_nil, or_false] at hkm
      rcases hkm with rfl | rfl | rfl | rfl | rfl <;> exact ⟨_, rfl, by decide +kernel⟩
    clear hkm
    o_readsAll
    refine take_abs hFill hTake d2 (by omega) (by omega) fun x2 G3 _ _ d3 k3 _ => ?_
    o_readsAll
    generalize decide (x2 = 0) = bare
    refine take_abs hFill hTake d3 (by omega) (by omega) fun x3 G4 _ _ d4 k4 _ => ?_
    o_readsAll
    generalize decide (x3 = 0) = lone
    have kk : Kp st G G4 := ((v6.trans k2).trans k3).trans k4
    have v1' := ((k2.trans k3).trans k4) _ _ (by omega) v1
    have part : ∀ (x4 : Int) (G5 : Gp), 0 ≤ x4 → x4 < 3 → DS st G5 → Kp st G4 G5 → OptT (L2.atI [U.str (Str.ofString "bar"), .str (Str.ofString "along"), .str (Str.ofString "empty")] x4) (fun u => FSatT (exB ⟨false, run D.mp (n + 3), D.mp.flds, D.mp.sub⟩ L (m_law_parts.body.drop 5) [.val (.ref st), .val (.ref r), .val (.str kd), .val (.bl bare), .val (.bl lone), .val u] G5) K ()) () := by
      intro x4 G5 b0 b1 d5 k5
      obtain ⟨gs, hgs, hgm⟩ := at_in (us := [U.str (Str.ofString "bar"), .str (Str.ofString "along"), .str (Str.ofString "empty")]) b0 (by simpa using b1)
      obtain ⟨gd, rfl, tg⟩ : ∃ gd, gs = .str gd ∧ gd.length ≤ 100 := by
        simp only [List.mem_cons, List.not_mem_nil, or_false] at hgm
        rcases hgm with rfl | rfl | rfl <;> exact ⟨_, rfl, by decide +kernel⟩
      clear hgm
      have v1'' := k5 _ _ (by omega) v1'
      rw [hgs, m_some]
      simp only [m_law_parts, List.drop_succ_cons, List.drop_zero]
      have f1 := fin (.str w0) (.str kd) bare lone .non (.str (Str.ofString "bar")) G5 (th_word t0) (.str _ tk) .non (.str _ (by decide +kernel)) d5 (kk.trans k5)
      have f2 := fin (.str w0) (.str kd) bare lone (.str w1) (.str gd) G5 (th_word t0) (.str _ tk) (th_word t1) (.str _ tg) d5 (kk.trans k5)
      cases hq : decide (kd = Str.ofString "link") with
      | true => o_readsAll
      | false => o_readsAll
    refine take_abs hFill hTake d4 (by split <;> omega) (by split <;> omega) fun x4 G5 b0 b1 d5 k5 _ => ?_
    rw [v_subT]
    refine optT_mono (part x4 G5 b0 (by revert b1; split <;> omega) d5 k5) fun u hu => ?_
    rw [asg_5, m_some]
    exact hu
theorem otherwise_ok (h : DS st G) {name kind to gone : U} {e o : Bool} (t1 : Th st G name) (t2 : Th st G kind) (t3 : Th st G to) (t4 : Th st G gone) : Sat (run MP (n + 4) false L "" "_law_otherwise" [.ref st, .tup [name, kind, .bl e, .bl o, to, gone]] G) (fun u G1 => Parts st G1 u ∧ DS st G1 ∧ Kp st G G1) noE := by
  rw [sat_run d_law_otherwise rfl rfl]
  refine fsatT ?_
  generalize hK : (FK.mk _ _ _ _ _) = K
  have fin : ∀ name kind e o to gone G1, Th st G1 name → Th st G1 kind → Th st G1 to → Th st G1 gone → DS st G1 → Kp st G G1 → K.rt (.tup [name, kind, .bl e, .bl o, to, gone]) G1 := fun name kind e o to gone G1 a b c d e' f => by
    subst hK
    exact ⟨⟨_, _, _, _, _, _, rfl, a, b, c, d⟩, e', f⟩
  clear hK
  rw [show m_law_otherwise.body = m_law_otherwise.body.take 3 ++ m_law_otherwise.body.drop 3 from rfl]
  have part : ∀ (u : U) (G1 : Gp) (x1 : Int), x1 ∈ ([0, 1, 4, 5] : List Int) → Th st G1 u → DS st G1 → Kp st G G1 → FSatT (exB ⟨false, run D.mp (n + 3), D.mp.flds, D.mp.sub⟩ L (m_law_otherwise.body.drop 3) [.val (.ref st), .val (.tup [name, kind, .bl e, .bl o, to, gone]), .val (.int x1), .val u] G1) K () := by
    intro u G1 x1 hx tu d1 k1
    simp only [m_law_otherwise, List.drop_succ_cons, List.drop_zero]
    simp only [List.mem_cons, List.not_mem_nil, or_false] at hx
    rcases hx with rfl | rfl | rfl | rfl
    · have c1 : cut [name, kind, .bl e, .bl o, to, gone] none (some 0) = [] := rfl
      have c2 : cut [name, kind, .bl e, .bl o, to, gone] (some 1) none = [kind, .bl e, .bl o, to, gone] := rfl
      have f := fin u kind e o to gone G1 tu (t2.kp k1) (t3.kp k1) (t4.kp k1) d1 k1
      o_readsAll
    · have c1 : cut [name, kind, .bl e, .bl o, to, gone] none (some 1) = [name] := rfl
      have c2 : cut [name, kind, .bl e, .bl o, to, gone] (some 2) none = [.bl e, .bl o, to, gone] := rfl
      have f := fin name u e o to gone G1 (t1.kp k1) tu (t3.kp k1) (t4.kp k1) d1 k1
      o_readsAll
    · have c1 : cut [name, kind, .bl e, .bl o, to, gone] none (some 4) = [name, kind, .bl e, .bl o] := rfl
      have c2 : cut [name, kind, .bl e, .bl o, to, gone] (some 5) none = [gone] := rfl
      have f := fin name kind e o u gone G1 (t1.kp k1) (t2.kp k1) tu (t4.kp k1) d1 k1
      o_readsAll
    · have c1 : cut [name, kind, .bl e, .bl o, to, gone] none (some 5) = [name, kind, .bl e, .bl o, to] := rfl
      have c2 : cut [name, kind, .bl e, .bl o, to, gone] (some 6) none = [] := rfl
      have f := fin name kind e o to u G1 (t1.kp k1) (t2.kp k1) (t3.kp k1) tu d1 k1
      o_readsAll
  generalize m_law_otherwise.body.drop 3 = rest at part ⊢
  simp only [m_law_otherwise, start, List.map_cons, List.map_nil, List.replicate, List.nil_append, List.cons_append, List.take_succ_cons, List.take_zero]
  clear fin
  o_readsAll
  refine take_abs hFill hTake h (by omega) (by omega) fun x1 G1 a0 a1 d1 k1 _ => ?_
  obtain ⟨ku, hku, hkm⟩ := at_in (us := [U.int 0, .int 1, .int 4, .int 5]) a0 (by simpa using a1)
  obtain ⟨kx, rfl, hkx⟩ : ∃ kx : Int, ku = .int kx ∧ kx ∈ ([0, 1, 4, 5] : List Int) := by
    simp only [List.mem_cons, List.not_mem_nil, or_false] at hkm
    rcases hkm with rfl | rfl | rfl | rfl <;> exact ⟨_, rfl, by decide⟩
  clear hkm
  have pt := fun u G1 => part u G1 kx hkx
  clear part hkx
  o_readsAll
  refine SatT.use (odd_ok d1) ?_
  rintro thing G2 ⟨tt, d2, k2⟩
  o_readsAll
  refine take_abs hFill hTake d2 (by omega) (by omega) fun x2 G3 b0 b1 d3 k3 _ => ?_
  have p3 := pt thing G3 (tt.kp k3) d3 ((k1.trans k2).trans k3)
  o_readsAll
  refine br_cases (fun hz => ?_) (fun hz => ?_)
  · o_readsAll
    refine take_abs hFill hTake d3 (by omega) (by omega) fun x4 G4 c0 c1 d4 k4 _ => ?_
    obtain ⟨ks, hks, hkm⟩ := at_in (us := [U.str (Str.ofString "whole"), .str (Str.ofString "link"), .str (Str.ofString "empty"), .str (Str.ofString "along")]) c0 (by simpa using c1)
    obtain ⟨kd, rfl, tk⟩ : ∃ kd, ks = .str kd ∧ kd.length ≤ 100 := by
      simp only [List.mem_cons, List.not_mem_nil, or_false] at hkm
      rcases hkm with rfl | rfl | rfl | rfl <;> exact ⟨_, rfl, by decide +kernel⟩
    clear hkm p3
    have p4 := pt (.str kd) G4 (.str _ tk) d4 (((k1.trans k2).trans k3).trans k4)
    clear pt
    o_readsAll
  · clear pt
    o_readsAll
end
end K01
end PV
set_option Elab.async false
set_option linter.all false
set_option maxRecDepth 100000
set_option maxHeartbeats 4000000
namespace PV
open PySem
local macro_rules | `(tactic| o_shape) => `(tactic| simp -dsimp only [↓m_br1, m_br1, ↓m_br0, m_br0, ↓m_brn, m_brn, ↓m_ok, m_ok, ↓m_exn, ↓m_bad, m_bad, ↓m_bind, ↓m_ofO, m_ofO, ↓m_site, m_site, ↓m_some, m_some, ↓m_none, m_none, ↓m_map, m_map, ↓m_obind, m_obind, ↓m_oite, m_oite, ↓m_someP, m_someP, ↓m_noneP, m_noneP, ↓m_bindP, m_bindP, ↓m_someW, m_someW, ↓m_noneW, m_noneW, ↓m_bindW, m_bindW, ↓m_iteW, m_iteW, ↓m_nm, ↓m_cI, ↓m_cS, ↓m_cB, ↓m_cN, ↓m_gl, ↓m_bin, ↓m_neg, ↓m_cmp, ↓m_cmp2, ↓m_and1, ↓m_or1, ↓m_and2, ↓m_or2, ↓m_not, ↓m_ite, m_ite, ↓m_ife, ↓m_call, ↓m_mk, ↓m_meth, ↓m_bif, ↓m_isi, ↓m_bm, ↓m_attr, ↓m_xat, ↓m_xis, ↓m_sub, ↓m_slc, ↓m_tup, ↓m_lst, ↓m_dct0, ↓m_dct, ↓m_ep0, ↓m_ep1, ↓m_lc, ↓l_body, ↓f_body, ↓m_es0, ↓m_es1, ↓m_eo0, ↓m_eo1, ↓m_te, ↓m_tnot, ↓m_tand1, ↓m_tor1, ↓m_tand2, ↓m_tor2, ↓m_ts0, ↓m_ts1, ↓m_b0, ↓m_app1, ↓m_app0, ↓m_iff, ↓m_set, ↓m_setI, ↓m_setF, ↓m_aug, ↓m_exp, ↓m_ret, ↓m_retN, ↓m_pass, ↓m_brk, ↓m_cont, ↓m_whl, ↓m_for, ↓m_raise, ↓m_try, v_len, ↓v_len, v_all, ↓v_all, v_any, ↓v_any, v_intb, ↓v_intb, v_inti, ↓v_inti, v_lenT, ↓v_lenT, v_lenS, ↓v_lenS, v_lenR, ↓v_lenR, v_lenCl, ↓v_lenCl, v_lenCd, ↓v_lenCd, v_lat, ↓v_lat, v_lstC, ↓v_lstC, v_seqT, ↓v_seqT, v_seqR, ↓v_seqR, v_asI, ↓v_asI, v_asB, ↓v_asB, v_asR, ↓v_asR, v_trB, ↓v_trB, v_trN, ↓v_trN, v_trI, ↓v_trI, v_trT, ↓v_trT, v_trR, ↓v_trR, v_truCl, ↓v_truCl, v_truCd, ↓v_truCd, v_subT, ↓v_subT, v_subS, ↓v_subS, v_subRI, ↓v_subRI, v_subRS, ↓v_subRS, v_subCIl, ↓v_subCIl, v_subCId, ↓v_subCId, v_subCSd, ↓v_subCSd, v_setRI, ↓v_setRI, v_setRS, ↓v_setRS, v_setCIl, ↓v_setCIl, v_setCId, ↓v_setCId, v_setCSd, ↓v_setCSd, v_attr, ↓v_attr, v_atC, ↓v_atC, v_insC, ↓v_insC, v_emD, ↓v_emD, v_keyI, ↓v_keyI, v_keyS, ↓v_keyS, v_isi_bool, ↓v_isi_bool, v_isi_int, ↓v_isi_int, v_isi_str, ↓v_isi_str, v_isi_list, ↓v_isi_list, v_isi_tuple, ↓v_isi_tuple, v_isi_dict, ↓v_isi_dict, v_memS, ↓v_memS, v_new, ↓v_new, v_isN, ↓v_isN, v_isB, ↓v_isB, v_isI, ↓v_isI, v_isS, ↓v_isS, v_isT, ↓v_isT, v_isR, ↓v_isR, v_isCl, ↓v_isCl, v_isCd, ↓v_isCd, v_app, ↓v_app, v_appC, ↓v_appC, v_join, ↓v_join, v_upper, ↓v_upper, v_bmA, ↓v_bmA, v_bmJ, ↓v_bmJ, v_bmU, ↓v_bmU, v_slcT, ↓v_slcT, v_slcS, ↓v_slcS, v_slcR, ↓v_slcR, v_addI, ↓v_addI, v_subI, ↓v_subI, v_mulI, ↓v_mulI, v_mulS, ↓v_mulS, v_divI, ↓v_divI, v_modI, ↓v_modI, v_powI, ↓v_powI, v_addS, ↓v_addS, v_addT, ↓v_addT, v_addL, ↓v_addL, v_augA, ↓v_augA, v_augS, ↓v_augS, v_eq, ↓v_eq, v_ne, ↓v_ne, v_is, ↓v_is, v_isnt, ↓v_isnt, v_in, ↓v_in, v_notin, ↓v_notin, v_lt, ↓v_lt, v_le, ↓v_le, v_gt, ↓v_gt, v_ge, ↓v_ge, v_isNonN, ↓v_isNonN, v_isNonB, ↓v_isNonB, v_isNonI, ↓v_isNonI, v_isNonS, ↓v_isNonS, v_isNonT, ↓v_isNonT, v_isNonR, ↓v_isNonR, v_memT, ↓v_memT, v_memR, ↓v_memR, v_memCl, ↓v_memCl, v_memCd, ↓v_memCd, v_walkT, ↓v_walkT, v_walkR, ↓v_walkR, v_walkR2, ↓v_walkR2, v_walkS, ↓v_walkS, v_walkET, ↓v_walkET, v_walkL, ↓v_walkL, v_walkE, ↓v_walkE, v_walkCl, ↓v_walkCl, v_walkCEl, ↓v_walkCEl, v_ix, ↓v_ix, v_wipe0, ↓v_wipe0, v_wipe1, ↓v_wipe1, v_eqNN, ↓v_eqNN, v_eqNB, ↓v_eqNB, v_eqNI, ↓v_eqNI, v_eqNS, ↓v_eqNS, v_eqNT, ↓v_eqNT, v_eqBN, ↓v_eqBN, v_eqBB, ↓v_eqBB, v_eqBI, ↓v_eqBI, v_eqBS, ↓v_eqBS, v_eqBT, ↓v_eqBT, v_eqIN, ↓v_eqIN, v_eqIB, ↓v_eqIB, v_eqII, ↓v_eqII, v_eqIS, ↓v_eqIS, v_eqIT, ↓v_eqIT, v_eqSN, ↓v_eqSN, v_eqSB, ↓v_eqSB, v_eqSI, ↓v_eqSI, v_eqSS, ↓v_eqSS, v_eqST, ↓v_eqST, v_eqTN, ↓v_eqTN, v_eqTB, ↓v_eqTB, v_eqTI, ↓v_eqTI, v_eqTS, ↓v_eqTS, v_eqTT, ↓v_eqTT, ↓m_eqL0, m_eqL0, ↓m_eqL1, m_eqL1, ↓m_eqL2, m_eqL2, ↓m_eqL3, m_eqL3, v_neU, ↓v_neU, v_neSS, ↓v_neSS, v_neII, ↓v_neII, v_neTT, ↓v_neTT, v_pf0, ↓v_pf0, v_pf1, ↓v_pf1, v_pf2, ↓v_pf2, v_lk1, ↓v_lk1, v_lk2, ↓v_lk2, v_lk0, ↓v_lk0, v_scr, ↓v_scr, v_scrV, ↓v_scrV, v_scrN, ↓v_scrN, v_scrE, ↓v_scrE, v_six0, ↓v_six0, v_six1, ↓v_six1, v_setNew, ↓v_setNew, v_putK1, ↓v_putK1, v_osq, ↓v_osq, v_dctN, ↓v_dctN, v_dctB, ↓v_dctB, v_dctI, ↓v_dctI, v_dctS, ↓v_dctS, v_dctT, ↓v_dctT, v_asgT, ↓v_asgT, v_asgs0, ↓v_asgs0, v_asgs1, ↓v_asgs1, v_bindP0, ↓v_bindP0, v_bindP1, ↓v_bindP1, v_bindP2, ↓v_bindP2, slot_0, slot_1, slot_2, slot_3, slot_4, slot_5, slot_6, slot_7, slot_8, slot_9, slot_10, slot_11, slot_12, slot_13, slot_14, slot_15, slot_16, slot_17, slot_18, slot_19, slot_20, slot_21, slot_22, slot_23, slot_24, slot_25, slot_26, slot_27, slot_28, slot_29, exn_0, exn_1, exn_2, exn_3, exn_4, exn_5, exn_6, exn_7, exn_8, exn_9, exn_10, exn_11, exn_12, exn_13, exn_14, exn_15, exn_16, exn_17, exn_18, exn_19, exn_20, exn_21, exn_22, exn_23, exn_24, exn_25, exn_26, exn_27, exn_28, exn_29, asg_0, asg_1, asg_2, asg_3, asg_4, asg_5, asg_6, asg_7, asg_8, asg_9, asg_10, asg_11, asg_12, asg_13, asg_14, asg_15, asg_16, asg_17, asg_18, asg_19, asg_20, asg_21, asg_22, asg_23, asg_24, asg_25, asg_26, asg_27, asg_28, asg_29, dset_0, dset_1, dset_2, dset_3, dset_4, dset_5, dset_6, dset_7, dset_8, dset_9, dset_10, dset_11, dset_12, dset_13, dset_14, dset_15, dset_16, dset_17, dset_18, dset_19, dset_20, dset_21, dset_22, dset_23, dset_24, dset_25, dset_26, dset_27, dset_28, dset_29, at_0, at_1, at_2, at_3, at_4, at_5, at_6, at_7, at_8, at_9, at_10, at_11, at_12, at_13, at_14, at_15, List.length_cons, List.length_nil, Option.bind_some, Option.bind_none, Option.map_some, Option.map_none, decide_true, decide_false, Bool.not_true, Bool.not_false, Bool.and_true, Bool.true_and, Bool.and_false, Bool.false_and, Bool.or_true, Bool.true_or, Bool.or_false, Bool.false_or, List.isEmpty_nil, List.isEmpty_cons, Option.isSome_some, Option.isNone_some, Option.isSome_none, Option.isNone_none, List.nil_append, List.cons_append, beq_self_eq_true, and_true, true_and, m_setH, List.map_cons, List.map_nil, eq_self, lim_eq, List.length_range, dep_eq, List.getElem?_set_self, List.getElem?_set_ne, List.set_set, List.length_set, ne_eq, not_false_eq_true, List.length_map, Int.reduceLT, Int.reduceLE, Int.reduceEq, Int.reduceNe, Int.reduceAdd, Int.reduceSub, Int.reduceMul, Int.reduceNeg, Int.reducePow, Int.reduceToNat, Nat.reduceAdd, Nat.reduceSub, Nat.reduceMul, Nat.reduceLT, Nat.reduceLeDiff, Nat.reduceEqDiff, String.reduceEq, String.reduceBEq, String.reduceBNe, ↓reduceIte, Int.reduceBEq, Int.reduceBNe, Nat.reduceBEq, Int.cast_ofNat_Int, Int.toNat_natCast, *])
local macro_rules | `(tactic| o_readsAll) => `(tactic| repeat (first | o_shape | refine br_mul (by omega) ?_ | refine br_div (by omega) ?_ | refine br_pow (by omega) ?_ | refine br_dec (by omega) ?_ | refine br_decn (by omega) ?_))
local macro_rules | `(tactic| o_reads) => `(tactic| repeat' (first | o_shape | refine br_mul (by omega) ?_ | refine br_div (by omega) ?_ | refine br_pow (by omega) ?_ | refine br_dec (by omega) ?_ | refine br_decn (by omega) ?_ | refine br_of (fun _ => ?_) (fun _ => ?_)))
local macro_rules | `(tactic| wide_line with $t:term) => `(tactic| simp -dsimp only [↓m_br1, m_br1, ↓m_br0, m_br0, ↓m_brn, m_brn, ↓m_ok, m_ok, ↓m_exn, ↓m_bad, m_bad, ↓m_bind, ↓m_ofO, m_ofO, ↓m_site, m_site, ↓m_some, m_some, ↓m_none, m_none, ↓m_map, m_map, ↓m_obind, m_obind, ↓m_oite, m_oite, ↓m_someP, m_someP, ↓m_noneP, m_noneP, ↓m_bindP, m_bindP, ↓m_someW, m_someW, ↓m_noneW, m_noneW, ↓m_bindW, m_bindW, ↓m_iteW, m_iteW, ↓m_nm, ↓m_cI, ↓m_cS, ↓m_cB, ↓m_cN, ↓m_gl, ↓m_bin, ↓m_neg, ↓m_cmp, ↓m_cmp2, ↓m_and1, ↓m_or1, ↓m_and2, ↓m_or2, ↓m_not, ↓m_ite, m_ite, ↓m_ife, ↓m_call, ↓m_mk, ↓m_meth, ↓m_bif, ↓m_isi, ↓m_bm, ↓m_attr, ↓m_xat, ↓m_xis, ↓m_sub, ↓m_slc, ↓m_tup, ↓m_lst, ↓m_dct0, ↓m_dct, ↓m_ep0, ↓m_ep1, ↓m_lc, ↓l_body, ↓f_body, ↓m_es0, ↓m_es1, ↓m_eo0, ↓m_eo1, ↓m_te, ↓m_tnot, ↓m_tand1, ↓m_tor1, ↓m_tand2, ↓m_tor2, ↓m_ts0, ↓m_ts1, ↓m_b0, ↓m_app1, ↓m_app0, ↓m_iff, ↓m_set, ↓m_setI, ↓m_setF, ↓m_aug, ↓m_exp, ↓m_ret, ↓m_retN, ↓m_pass, ↓m_brk, ↓m_cont, ↓m_whl, ↓m_for, ↓m_raise, ↓m_try, v_len, ↓v_len, v_all, ↓v_all, v_any, ↓v_any, v_intb, ↓v_intb, v_inti, ↓v_inti, v_lenT, ↓v_lenT, v_lenS, ↓v_lenS, v_lenR, ↓v_lenR, v_lenCl, ↓v_lenCl, v_lenCd, ↓v_lenCd, v_lat, ↓v_lat, v_lstC, ↓v_lstC, v_seqT, ↓v_seqT, v_seqR, ↓v_seqR, v_asI, ↓v_asI, v_asB, ↓v_asB, v_asR, ↓v_asR, v_trB, ↓v_trB, v_trN, ↓v_trN, v_trI, ↓v_trI, v_trT, ↓v_trT, v_trR, ↓v_trR, v_truCl, ↓v_truCl, v_truCd, ↓v_truCd, v_subT, ↓v_subT, v_subS, ↓v_subS, v_subRI, ↓v_subRI, v_subRS, ↓v_subRS, v_subCIl, ↓v_subCIl, v_subCId, ↓v_subCId, v_subCSd, ↓v_subCSd, v_setRI, ↓v_setRI, v_setRS, ↓v_setRS, v_setCIl, ↓v_setCIl, v_setCId, ↓v_setCId, v_setCSd, ↓v_setCSd, v_attr, ↓v_attr, v_atC, ↓v_atC, v_insC, ↓v_insC, v_emD, ↓v_emD, v_keyI, ↓v_keyI, v_keyS, ↓v_keyS, v_isi_bool, ↓v_isi_bool, v_isi_int, ↓v_isi_int, v_isi_str, ↓v_isi_str, v_isi_list, ↓v_isi_list, v_isi_tuple, ↓v_isi_tuple, v_isi_dict, ↓v_isi_dict, v_memS, ↓v_memS, v_new, ↓v_new, v_isN, ↓v_isN, v_isB, ↓v_isB, v_isI, ↓v_isI, v_isS, ↓v_isS, v_isT, ↓v_isT, v_isR, ↓v_isR, v_isCl, ↓v_isCl, v_isCd, ↓v_isCd, v_app, ↓v_app, v_appC, ↓v_appC, v_join, ↓v_join, v_upper, ↓v_upper, v_bmA, ↓v_bmA, v_bmJ, ↓v_bmJ, v_bmU, ↓v_bmU, v_slcT, ↓v_slcT, v_slcS, ↓v_slcS, v_slcR, ↓v_slcR, v_addI, ↓v_addI, v_subI, ↓v_subI, v_mulI, ↓v_mulI, v_mulS, ↓v_mulS, v_divI, ↓v_divI, v_modI, ↓v_modI, v_powI, ↓v_powI, v_addS, ↓v_addS, v_addT, ↓v_addT, v_addL, ↓v_addL, v_augA, ↓v_augA, v_augS, ↓v_augS, v_eq, ↓v_eq, v_ne, ↓v_ne, v_is, ↓v_is, v_isnt, ↓v_isnt, v_in, ↓v_in, v_notin, ↓v_notin, v_lt, ↓v_lt, v_le, ↓v_le, v_gt, ↓v_gt, v_ge, ↓v_ge, v_isNonN, ↓v_isNonN, v_isNonB, ↓v_isNonB, v_isNonI, ↓v_isNonI, v_isNonS, ↓v_isNonS, v_isNonT, ↓v_isNonT, v_isNonR, ↓v_isNonR, v_memT, ↓v_memT, v_memR, ↓v_memR, v_memCl, ↓v_memCl, v_memCd, ↓v_memCd, v_walkT, ↓v_walkT, v_walkR, ↓v_walkR, v_walkR2, ↓v_walkR2, v_walkS, ↓v_walkS, v_walkET, ↓v_walkET, v_walkL, ↓v_walkL, v_walkE, ↓v_walkE, v_walkCl, ↓v_walkCl, v_walkCEl, ↓v_walkCEl, v_ix, ↓v_ix, v_wipe0, ↓v_wipe0, v_wipe1, ↓v_wipe1, v_eqNN, ↓v_eqNN, v_eqNB, ↓v_eqNB, v_eqNI, ↓v_eqNI, v_eqNS, ↓v_eqNS, v_eqNT, ↓v_eqNT, v_eqBN, ↓v_eqBN, v_eqBB, ↓v_eqBB, v_eqBI, ↓v_eqBI, v_eqBS, ↓v_eqBS, v_eqBT, ↓v_eqBT, v_eqIN, ↓v_eqIN, v_eqIB, ↓v_eqIB, v_eqII, ↓v_eqII, v_eqIS, ↓v_eqIS, v_eqIT, ↓v_eqIT, v_eqSN, ↓v_eqSN, v_eqSB, ↓v_eqSB, v_eqSI, ↓v_eqSI, v_eqSS, ↓v_eqSS, v_eqST, ↓v_eqST, v_eqTN, ↓v_eqTN, v_eqTB, ↓v_eqTB, v_eqTI, ↓v_eqTI, v_eqTS, ↓v_eqTS, v_eqTT, ↓v_eqTT, ↓m_eqL0, m_eqL0, ↓m_eqL1, m_eqL1, ↓m_eqL2, m_eqL2, ↓m_eqL3, m_eqL3, v_neU, ↓v_neU, v_neSS, ↓v_neSS, v_neII, ↓v_neII, v_neTT, ↓v_neTT, v_pf0, ↓v_pf0, v_pf1, ↓v_pf1, v_pf2, ↓v_pf2, v_lk1, ↓v_lk1, v_lk2, ↓v_lk2, v_lk0, ↓v_lk0, v_scr, ↓v_scr, v_scrV, ↓v_scrV, v_scrN, ↓v_scrN, v_scrE, ↓v_scrE, v_six0, ↓v_six0, v_six1, ↓v_six1, v_setNew, ↓v_setNew, v_putK1, ↓v_putK1, v_osq, ↓v_osq, v_dctN, ↓v_dctN, v_dctB, ↓v_dctB, v_dctI, ↓v_dctI, v_dctS, ↓v_dctS, v_dctT, ↓v_dctT, v_asgT, ↓v_asgT, v_asgs0, ↓v_asgs0, v_asgs1, ↓v_asgs1, v_bindP0, ↓v_bindP0, v_bindP1, ↓v_bindP1, v_bindP2, ↓v_bindP2, slot_0, slot_1, slot_2, slot_3, slot_4, slot_5, slot_6, slot_7, slot_8, slot_9, slot_10, slot_11, slot_12, slot_13, slot_14, slot_15, slot_16, slot_17, slot_18, slot_19, slot_20, slot_21, slot_22, slot_23, slot_24, slot_25, slot_26, slot_27, slot_28, slot_29, exn_0, exn_1, exn_2, exn_3, exn_4, exn_5, exn_6, exn_7, exn_8, exn_9, exn_10, exn_11, exn_12, exn_13, exn_14, exn_15, exn_16, exn_17, exn_18, exn_19, exn_20, exn_21, exn_22, exn_23, exn_24, exn_25, exn_26, exn_27, exn_28, exn_29, asg_0, asg_1, asg_2, asg_3, asg_4, asg_5, asg_6, asg_7, asg_8, asg_9, asg_10, asg_11, asg_12, asg_13, asg_14, asg_15, asg_16, asg_17, asg_18, asg_19, asg_20, asg_21, asg_22, asg_23, asg_24, asg_25, asg_26, asg_27, asg_28, asg_29, dset_0, dset_1, dset_2, dset_3, dset_4, dset_5, dset_6, dset_7, dset_8, dset_9, dset_10, dset_11, dset_12, dset_13, dset_14, dset_15, dset_16, dset_17, dset_18, dset_19, dset_20, dset_21, dset_22, dset_23, dset_24, dset_25, dset_26, dset_27, dset_28, dset_29, at_0, at_1, at_2, at_3, at_4, at_5, at_6, at_7, at_8, at_9, at_10, at_11, at_12, at_13, at_14, at_15, List.length_cons, List.length_nil, Option.bind_some, Option.bind_none, Option.map_some, Option.map_none, decide_true, decide_false, Bool.not_true, Bool.not_false, Bool.and_true, Bool.true_and, Bool.and_false, Bool.false_and, Bool.or_true, Bool.true_or, Bool.or_false, Bool.false_or, List.isEmpty_nil, List.isEmpty_cons, Option.isSome_some, Option.isNone_some, Option.isSome_none, Option.isNone_none, List.nil_append, List.cons_append, beq_self_eq_true, and_true, true_and, m_setH, List.map_cons, List.map_nil, eq_self, lim_eq, List.length_range, dep_eq, List.getElem?_set_self, List.getElem?_set_ne, List.set_set, List.length_set, ne_eq, not_false_eq_true, List.length_map, Int.reduceLT, Int.reduceLE, Int.reduceEq, Int.reduceNe, Int.reduceAdd, Int.reduceSub, Int.reduceMul, Int.reduceNeg, Int.reducePow, Int.reduceToNat, Nat.reduceAdd, Nat.reduceSub, Nat.reduceMul, Nat.reduceLT, Nat.reduceLeDiff, Nat.reduceEqDiff, String.reduceEq, String.reduceBEq, String.reduceBNe, ↓reduceIte, Int.reduceBEq, Int.reduceBNe, Nat.reduceBEq, Int.cast_ofNat_Int, Int.toNat_natCast, $t:term, *])

namespace K01
section
variable {n st : Nat} {L : List Nat} {G : Gp}
def wayBody : List Stm := match m_law.body.drop 2 with
  | .for _ _ _ b :: _ => (match b.drop 4 with
    | .for _ _ _ b :: _ => b
    | _ => [])
  | _ => []
theorem way_ok {name kind to gone : U} {e o : Bool} {i : Nat} {a0 a2 a4 a7 a8 : SV} {K : FK} (hi : i < 3) (h : DS 1 G) (hn : Th 1 G name) (hk : Th 1 G kind) (ht : Th 1 G to) (hg : Th 1 G gone)
    (hnx : ∀ a7 a8 G1, Kq G G1 → K.nx [a0, .val (.ref 1), a2, .val (.tup [name, kind, .bl e, .bl o, to, gone]), a4, .val (due name kind e o to gone), .val (.int i), a7, a8] G1) :
    FSatT (exB ⟨false, run D.mp (n + 5), D.mp.flds, D.mp.sub⟩ L wayBody [a0, .val (.ref 1), a2, .val (.tup [name, kind, .bl e, .bl o, to, gone]), a4, .val (due name kind e o to gone), .val (.int i), a7, a8] G) K () := by
  simp only [wayBody, m_law, List.drop_succ_cons, List.drop_zero]
  have fin := hnx
  by_cases ha : amiss name kind e to gone = ""
  · have hd : due name kind e o to gone = .tup [.str (Str.ofString "made"), name, kind, .bl e, .bl o, to, gone] := by unfold due; rw [if_pos ha]
    o_readsAll
    refine SatT.use (made_ok (by omega) hn hk ht hg) ?_
    rintro _ G1 ⟨rfl, kq⟩
    have hnx2 := fun a7 a8 => fin a7 a8 G1 kq
    rw [hd] at hnx2 ⊢
    have e1 := (hn.kp kq.kp).self (n := 8)
    have e2 := (hk.kp kq.kp).self (n := 8)
    have e3 := (ht.kp kq.kp).self (n := 8)
    have e4 := (hg.kp kq.kp).self (n := 8)
    have hnx3 := fun a7 a8 => fin a7 a8 (G1 ++ [.lst [.bl true, .bl true]]) (kq.trans Ke.app.kq)
    rw [hd] at hnx3
    have c1 : cut [.str (Str.ofString "made"), name, kind, .bl e, .bl o, to, gone] (some 3) (some 5) = [.bl e, .bl o] := rfl
    clear fin hnx
    o_readsAll
    refine lcm_T rfl (g := fun _ => some (.bl true)) ?_ ?_
    · intro u hu
      simp only [List.mem_cons, List.not_mem_nil, or_false] at hu
      rcases hu with rfl | rfl
      · o_readsAll
      · o_readsAll
    · rw [show List.filterMap (fun (_ : U) => some (U.bl true)) [.bl e, .bl o] = [.bl true, .bl true] from rfl]
      have hb : allBl [U.bl true, U.bl true] = some [true, true] := rfl
      have hb2 : [true, true].all id = true := rfl
      o_readsAll
  · have hd : due name kind e o to gone = .tup [.str (Str.ofString "BadColumn"), .str (Str.ofString (amiss name kind e to gone)), .bl true, .bl true] := by unfold due; rw [if_neg ha]
    o_readsAll
    refine SatT.use (made_ok (by omega) hn hk ht hg) ?_
    rintro _ G1 ⟨rfl, kq⟩
    have hnx2 := fun a7 a8 => fin a7 a8 G1 kq
    rw [hd] at hnx2 ⊢
    clear fin hnx
    o_readsAll
/-- from the due one on -/
theorem ways_ok {name kind to gone : U} {e o : Bool} {a0 a2 a4 a6 a7 a8 : SV} {K : FK} (h : DS 1 G) (hn : Th 1 G name) (hk : Th 1 G kind) (ht : Th 1 G to) (hg : Th 1 G gone)
    (hnx : ∀ a6 a7 a8 G1, Kq G G1 → K.nx [a0, .val (.ref 1), a2, .val (.tup [name, kind, .bl e, .bl o, to, gone]), a4, .val (due name kind e o to gone), a6, a7, a8] G1) :
    FSatT (exB ⟨false, run D.mp (n + 5), D.mp.flds, D.mp.sub⟩ L [.for .range [.cI 3] (.nm 6) wayBody] [a0, .val (.ref 1), a2, .val (.tup [name, kind, .bl e, .bl o, to, gone]), a4, .val (due name kind e o to gone), a6, a7, a8] G) K () := by
  o_readsAll
  refine for_T (by simp) (fun i d G1 => ∃ a6 a7 a8, d = [a0, .val (.ref 1), a2, .val (.tup [name, kind, .bl e, .bl o, to, gone]), a4, .val (due name kind e o to gone), a6, a7, a8] ∧ Kq G G1) ⟨_, _, _, rfl, fun _ _ h => h⟩ ?_ ?_
  · rintro i hi d G1 ⟨a6, a7, a8, rfl, kq⟩
    have him : i < 3 := by simpa using hi
    rw [f_body, List.getElem_map, List.getElem_range, asg_6, m_some]
    have hd : DS 1 G1 := by
      obtain ⟨c, k, x, b, is, d1, d2, d3, d4⟩ := h
      exact ⟨c, k, x, b, is, kq _ _ d1, kq _ _ d2, d3, d4⟩
    exact way_ok him hd (hn.kp kq.kp) (hk.kp kq.kp) (ht.kp kq.kp) (hg.kp kq.kp) fun a7 a8 G2 k2 => ⟨_, _, _, rfl, kq.trans k2⟩
  · rintro d G1 ⟨a6, a7, a8, rfl, kq⟩
    have := hnx a6 a7 a8 G1 kq
    o_readsAll
end
end K01
end PV
set_option Elab.async false
set_option linter.all false
set_option maxRecDepth 100000
set_option maxHeartbeats 4000000
namespace PV
open PySem
local macro_rules | `(tactic| o_shape) => `(tactic| simp -dsimp only [↓m_br1, m_br1, ↓m_br0, m_br0, ↓m_brn, m_brn, ↓m_ok, m_ok, ↓m_exn, ↓m_bad, m_bad, ↓m_bind, ↓m_ofO, m_ofO, ↓m_site, m_site, ↓m_some, m_some, ↓m_none, m_none, ↓m_map, m_map, ↓m_obind, m_obind, ↓m_oite, m_oite, ↓m_someP, m_someP, ↓m_noneP, m_noneP, ↓m_bindP, m_bindP, ↓m_someW, m_someW, ↓m_noneW, m_noneW, ↓m_bindW, m_bindW, ↓m_iteW, m_iteW, ↓m_nm, ↓m_cI, ↓m_cS, ↓m_cB, ↓m_cN, ↓m_gl, ↓m_bin, ↓m_neg, ↓m_cmp, ↓m_cmp2, ↓m_and1, ↓m_or1, ↓m_and2, ↓m_or2, ↓m_not, ↓m_ite, m_ite, ↓m_ife, ↓m_call, ↓m_mk, ↓m_meth, ↓m_bif, ↓m_isi, ↓m_bm, ↓m_attr, ↓m_xat, ↓m_xis, ↓m_sub, ↓m_slc, ↓m_tup, ↓m_lst, ↓m_dct0, ↓m_dct, ↓m_ep0, ↓m_ep1, ↓m_lc, ↓l_body, ↓f_body, ↓m_es0, ↓m_es1, ↓m_eo0, ↓m_eo1, ↓m_te, ↓m_tnot, ↓m_tand1, ↓m_tor1, ↓m_tand2, ↓m_tor2, ↓m_ts0, ↓m_ts1, ↓m_b0, ↓m_app1, ↓m_app0, ↓m_iff, ↓m_set, ↓m_setI, ↓m_setF, ↓m_aug, ↓m_exp, ↓m_ret, ↓m_retN, ↓m_pass, ↓m_brk, ↓m_cont, ↓m_whl, ↓m_for, ↓m_raise, ↓m_try, v_len, ↓v_len, v_all, ↓v_all, v_any, ↓v_any, v_intb, ↓v_intb, v_inti, ↓v_inti, v_lenT, ↓v_lenT, v_lenS, ↓v_lenS, v_lenR, ↓v_lenR, v_lenCl, ↓v_lenCl, v_lenCd, ↓v_lenCd, v_lat, ↓v_lat, v_lstC, ↓v_lstC, v_seqT, ↓v_seqT, v_seqR, ↓v_seqR, v_asI, ↓v_asI, v_asB, ↓v_asB, v_asR, ↓v_asR, v_trB, ↓v_trB, v_trN, ↓v_trN, v_trI, ↓v_trI, v_trT, ↓v_trT, v_trR, ↓v_trR, v_truCl, ↓v_truCl, v_truCd, ↓v_truCd, v_subT, ↓v_subT, v_subS, ↓v_subS, v_subRI, ↓v_subRI, v_subRS, ↓v_subRS, v_subCIl, ↓v_subCIl, v_subCId, ↓v_subCId, v_subCSd, ↓v_subCSd, v_setRI, ↓v_setRI, v_setRS, ↓v_setRS, v_setCIl, ↓v_setCIl, v_setCId, ↓v_setCId, v_setCSd, ↓v_setCSd, v_attr, ↓v_attr, v_atC, ↓v_atC, v_insC, ↓v_insC, v_emD, ↓v_emD, v_keyI, ↓v_keyI, v_keyS, ↓v_keyS, v_isi_bool, ↓v_isi_bool, v_isi_int, ↓v_isi_int, v_isi_str, ↓v_isi_str, v_isi_list, ↓v_isi_list, v_isi_tuple, ↓v_isi_tuple, v_isi_dict, ↓v_isi_dict, v_memS, ↓v_memS, v_new, ↓v_new, v_isN, ↓v_isN, v_isB, ↓v_isB, v_isI, ↓v_isI, v_isS, ↓v_isS, v_isT, ↓v_isT, v_isR, ↓v_isR, v_isCl, ↓v_isCl, v_isCd, ↓v_isCd, v_app, ↓v_app, v_appC, ↓v_appC, v_join, ↓v_join, v_upper, ↓v_upper, v_bmA, ↓v_bmA, v_bmJ, ↓v_bmJ, v_bmU, ↓v_bmU, v_slcT, ↓v_slcT, v_slcS, ↓v_slcS, v_slcR, ↓v_slcR, v_addI, ↓v_addI, v_subI, ↓v_subI, v_mulI, ↓v_mulI, v_mulS, ↓v_mulS, v_divI, ↓v_divI, v_modI, ↓v_modI, v_powI, ↓v_powI, v_addS, ↓v_addS, v_addT, ↓v_addT, v_addL, ↓v_addL, v_augA, ↓v_augA, v_augS, ↓v_augS, v_eq, ↓v_eq, v_ne, ↓v_ne, v_is, ↓v_is, v_isnt, ↓v_isnt, v_in, ↓v_in, v_notin, ↓v_notin, v_lt, ↓v_lt, v_le, ↓v_le, v_gt, ↓v_gt, v_ge, ↓v_ge, v_isNonN, ↓v_isNonN, v_isNonB, ↓v_isNonB, v_isNonI, ↓v_isNonI, v_isNonS, ↓v_isNonS, v_isNonT, ↓v_isNonT, v_isNonR, ↓v_isNonR, v_memT, ↓v_memT, v_memR, ↓v_memR, v_memCl, ↓v_memCl, v_memCd, ↓v_memCd, v_walkT, ↓v_walkT, v_walkR, ↓v_walkR, v_walkR2, ↓v_walkR2, v_walkS, ↓v_walkS, v_walkET, ↓v_walkET, v_walkL, ↓v_walkL, v_walkE, ↓v_walkE, v_walkCl, ↓v_walkCl, v_walkCEl, ↓v_walkCEl, v_ix, ↓v_ix, v_wipe0, ↓v_wipe0, v_wipe1, ↓v_wipe1, v_eqNN, ↓v_eqNN, v_eqNB, ↓v_eqNB, v_eqNI, ↓v_eqNI, v_eqNS, ↓v_eqNS, v_eqNT, ↓v_eqNT, v_eqBN, ↓v_eqBN, v_eqBB, ↓v_eqBB, v_eqBI, ↓v_eqBI, v_eqBS, ↓v_eqBS, v_eqBT, ↓v_eqBT, v_eqIN, ↓v_eqIN, v_eqIB, ↓v_eqIB, v_eqII, ↓v_eqII, v_eqIS, ↓v_eqIS, v_eqIT, ↓v_eqIT, v_eqSN, ↓v_eqSN, v_eqSB, ↓v_eqSB, v_eqSI, ↓v_eqSI, v_eqSS, ↓v_eqSS, v_eqST, ↓v_eqST, v_eqTN, ↓v_eqTN, v_eqTB, ↓v_eqTB, v_eqTI, ↓v_eqTI, v_eqTS, ↓v_eqTS, v_eqTT, ↓v_eqTT, ↓m_eqL0, m_eqL0, ↓m_eqL1, m_eqL1, ↓m_eqL2, m_eqL2, ↓m_eqL3, m_eqL3, v_neU, ↓v_neU, v_neSS, ↓v_neSS, v_neII, ↓v_neII, v_neTT, ↓v_neTT, v_pf0, ↓v_pf0, v_pf1, ↓v_pf1, v_pf2, ↓v_pf2, v_lk1, ↓v_lk1, v_lk2, ↓v_lk2, v_lk0, ↓v_lk0, v_scr, ↓v_scr, v_scrV, ↓v_scrV, v_scrN, ↓v_scrN, v_scrE, ↓v_scrE, v_six0, ↓v_six0, v_six1, ↓v_six1, v_setNew, ↓v_setNew, v_putK1, ↓v_putK1, v_osq, ↓v_osq, v_dctN, ↓v_dctN, v_dctB, ↓v_dctB, v_dctI, ↓v_dctI, v_dctS, ↓v_dctS, v_dctT, ↓v_dctT, v_asgT, ↓v_asgT, v_asgs0, ↓v_asgs0, v_asgs1, ↓v_asgs1, v_bindP0, ↓v_bindP0, v_bindP1, ↓v_bindP1, v_bindP2, ↓v_bindP2, slot_0, slot_1, slot_2, slot_3, slot_4, slot_5, slot_6, slot_7, slot_8, slot_9, slot_10, slot_11, slot_12, slot_13, slot_14, slot_15, slot_16, slot_17, slot_18, slot_19, slot_20, slot_21, slot_22, slot_23, slot_24, slot_25, slot_26, slot_27, slot_28, slot_29, exn_0, exn_1, exn_2, exn_3, exn_4, exn_5, exn_6, exn_7, exn_8, exn_9, exn_10, exn_11, exn_12, exn_13, exn_14, exn_15, exn_16, exn_17, exn_18, exn_19, exn_20, exn_21, exn_22, exn_23, exn_24, exn_25, exn_26, exn_27, exn_28, exn_29, asg_0, asg_1, asg_2, asg_3, asg_4, asg_5, asg_6, asg_7, asg_8, asg_9, asg_10, asg_11, asg_12, asg_13, asg_14, asg_15, asg_16, asg_17, asg_18, asg_19, asg_20, asg_21, asg_22, asg_23, asg_24, asg_25, asg_26, asg_27, asg_28, asg_29, dset_0, dset_1, dset_2, dset_3, dset_4, dset_5, dset_6, dset_7, dset_8, dset_9, dset_10, dset_11, dset_12, dset_13, dset_14, dset_15, dset_16, dset_17, dset_18, dset_19, dset_20, dset_21, dset_22, dset_23, dset_24, dset_25, dset_26, dset_27, dset_28, dset_29, at_0, at_1, at_2, at_3, at_4, at_5, at_6, at_7, at_8, at_9, at_10, at_11, at_12, at_13, at_14, at_15, List.length_cons, List.length_nil, Option.bind_some, Option.bind_none, Option.map_some, Option.map_none, decide_true, decide_false, Bool.not_true, Bool.not_false, Bool.and_true, Bool.true_and, Bool.and_false, Bool.false_and, Bool.or_true, Bool.true_or, Bool.or_false, Bool.false_or, List.isEmpty_nil, List.isEmpty_cons, Option.isSome_some, Option.isNone_some, Option.isSome_none, Option.isNone_none, List.nil_append, List.cons_append, beq_self_eq_true, and_true, true_and, m_setH, List.map_cons, List.map_nil, eq_self, lim_eq, List.length_range, dep_eq, List.getElem?_set_self, List.getElem?_set_ne, List.set_set, List.length_set, ne_eq, not_false_eq_true, List.length_map, Int.reduceLT, Int.reduceLE, Int.reduceEq, Int.reduceNe, Int.reduceAdd, Int.reduceSub, Int.reduceMul, Int.reduceNeg, Int.reducePow, Int.reduceToNat, Nat.reduceAdd, Nat.reduceSub, Nat.reduceMul, Nat.reduceLT, Nat.reduceLeDiff, Nat.reduceEqDiff, String.reduceEq, String.reduceBEq, String.reduceBNe, ↓reduceIte, Int.reduceBEq, Int.reduceBNe, Nat.reduceBEq, Int.cast_ofNat_Int, Int.toNat_natCast, *])
local macro_rules | `(tactic| o_readsAll) => `(tactic| repeat (first | o_shape | refine br_mul (by omega) ?_ | refine br_div (by omega) ?_ | refine br_pow (by omega) ?_ | refine br_dec (by omega) ?_ | refine br_decn (by omega) ?_))
local macro_rules | `(tactic| o_reads) => `(tactic| repeat' (first | o_shape | refine br_mul (by omega) ?_ | refine br_div (by omega) ?_ | refine br_pow (by omega) ?_ | refine br_dec (by omega) ?_ | refine br_decn (by omega) ?_ | refine br_of (fun _ => ?_) (fun _ => ?_)))
local macro_rules | `(tactic| wide_line with $t:term) => `(tactic| simp -dsimp only [↓m_br1, m_br1, ↓m_br0, m_br0, ↓m_brn, m_brn, ↓m_ok, m_ok, ↓m_exn, ↓m_bad, m_bad, ↓m_bind, ↓m_ofO, m_ofO, ↓m_site, m_site, ↓m_some, m_some, ↓m_none, m_none, ↓m_map, m_map, ↓m_obind, m_obind, ↓m_oite, m_oite, ↓m_someP, m_someP, ↓m_noneP, m_noneP, ↓m_bindP, m_bindP, ↓m_someW, m_someW, ↓m_noneW, m_noneW, ↓m_bindW, m_bindW, ↓m_iteW, m_iteW, ↓m_nm, ↓m_cI, ↓m_cS, ↓m_cB, ↓m_cN, ↓m_gl, ↓m_bin, ↓m_neg, ↓m_cmp, ↓m_cmp2, ↓m_and1, ↓m_or1, ↓m_and2, ↓m_or2, ↓m_not, ↓m_ite, m_ite, ↓m_ife, ↓m_call, ↓m_mk, ↓m_meth, ↓m_bif, ↓m_isi, ↓m_bm, ↓m_attr, ↓m_xat, ↓m_xis, ↓m_sub, ↓m_slc, ↓m_tup, ↓m_lst, ↓m_dct0, ↓m_dct, ↓m_ep0, ↓m_ep1, ↓m_lc, ↓l_body, ↓f_body, ↓m_es0, ↓m_es1, ↓m_eo0, ↓m_eo1, ↓m_te, ↓m_tnot, ↓m_tand1, ↓m_tor1, ↓m_tand2, ↓m_tor2, ↓m_ts0, ↓m_ts1, ↓m_b0, ↓m_app1, ↓m_app0, ↓m_iff, ↓m_set, ↓m_setI, ↓m_setF, ↓m_aug, ↓m_exp, ↓m_ret, ↓m_retN, ↓m_pass, ↓m_brk, ↓m_cont, ↓m_whl, ↓m_for, ↓m_raise, ↓m_try, v_len, ↓v_len, v_all, ↓v_all, v_any, ↓v_any, v_intb, ↓v_intb, v_inti, ↓v_inti, v_lenT, ↓v_lenT, v_lenS, ↓v_lenS, v_lenR, ↓v_lenR, v_lenCl, ↓v_lenCl, v_lenCd, ↓v_lenCd, v_lat, ↓v_lat, v_lstC, ↓v_lstC, v_seqT, ↓v_seqT, v_seqR, ↓v_seqR, v_asI, ↓v_asI, v_asB, ↓v_asB, v_asR, ↓v_asR, v_trB, ↓v_trB, v_trN, ↓v_trN, v_trI, ↓v_trI, v_trT, ↓v_trT, v_trR, ↓v_trR, v_truCl, ↓v_truCl, v_truCd, ↓v_truCd, v_subT, ↓v_subT, v_subS, ↓v_subS, v_subRI, ↓v_subRI, v_subRS, ↓v_subRS, v_subCIl, ↓v_subCIl, v_subCId, ↓v_subCId, v_subCSd, ↓v_subCSd, v_setRI, ↓v_setRI, v_setRS, ↓v_setRS, v_setCIl, ↓v_setCIl, v_setCId, ↓v_setCId, v_setCSd, ↓v_setCSd, v_attr, ↓v_attr, v_atC, ↓v_atC, v_insC, ↓v_insC, v_emD, ↓v_emD, v_keyI, ↓v_keyI, v_keyS, ↓v_keyS, v_isi_bool, ↓v_isi_bool, v_isi_int, ↓v_isi_int, v_isi_str, ↓v_isi_str, v_isi_list, ↓v_isi_list, v_isi_tuple, ↓v_isi_tuple, v_isi_dict, ↓v_isi_dict, v_memS, ↓v_memS, v_new, ↓v_new, v_isN, ↓v_isN, v_isB, ↓v_isB, v_isI, ↓v_isI, v_isS, ↓v_isS, v_isT, ↓v_isT, v_isR, ↓v_isR, v_isCl, ↓v_isCl, v_isCd, ↓v_isCd, v_app, ↓v_app, v_appC, ↓v_appC, v_join, ↓v_join, v_upper, ↓v_upper, v_bmA, ↓v_bmA, v_bmJ, ↓v_bmJ, v_bmU, ↓v_bmU, v_slcT, ↓v_slcT, v_slcS, ↓v_slcS, v_slcR, ↓v_slcR, v_addI, ↓v_addI, v_subI, ↓v_subI, v_mulI, ↓v_mulI, v_mulS, ↓v_mulS, v_divI, ↓v_divI, v_modI, ↓v_modI, v_powI, ↓v_powI, v_addS, ↓v_addS, v_addT, ↓v_addT, v_addL, ↓v_addL, v_augA, ↓v_augA, v_augS, ↓v_augS, v_eq, ↓v_eq, v_ne, ↓v_ne, v_is, ↓v_is, v_isnt, ↓v_isnt, v_in, ↓v_in, v_notin, ↓v_notin, v_lt, ↓v_lt, v_le, ↓v_le, v_gt, ↓v_gt, v_ge, ↓v_ge, v_isNonN, ↓v_isNonN, v_isNonB, ↓v_isNonB, v_isNonI, ↓v_isNonI, v_isNonS, ↓v_isNonS, v_isNonT, ↓v_isNonT, v_isNonR, ↓v_isNonR, v_memT, ↓v_memT, v_memR, ↓v_memR, v_memCl, ↓v_memCl, v_memCd, ↓v_memCd, v_walkT, ↓v_walkT, v_walkR, ↓v_walkR, v_walkR2, ↓v_walkR2, v_walkS, ↓v_walkS, v_walkET, ↓v_walkET, v_walkL, ↓v_walkL, v_walkE, ↓v_walkE, v_walkCl, ↓v_walkCl, v_walkCEl, ↓v_walkCEl, v_ix, ↓v_ix, v_wipe0, ↓v_wipe0, v_wipe1, ↓v_wipe1, v_eqNN, ↓v_eqNN, v_eqNB, ↓v_eqNB, v_eqNI, ↓v_eqNI, v_eqNS, ↓v_eqNS, v_eqNT, ↓v_eqNT, v_eqBN, ↓v_eqBN, v_eqBB, ↓v_eqBB, v_eqBI, ↓v_eqBI, v_eqBS, ↓v_eqBS, v_eqBT, ↓v_eqBT, v_eqIN, ↓v_eqIN, v_eqIB, ↓v_eqIB, v_eqII, ↓v_eqII, v_eqIS, ↓v_eqIS, v_eqIT, ↓v_eqIT, v_eqSN, ↓v_eqSN, v_eqSB, ↓v_eqSB, v_eqSI, ↓v_eqSI, v_eqSS, ↓v_eqSS, v_eqST, ↓v_eqST, v_eqTN, ↓v_eqTN, v_eqTB, ↓v_eqTB, v_eqTI, ↓v_eqTI, v_eqTS, ↓v_eqTS, v_eqTT, ↓v_eqTT, ↓m_eqL0, m_eqL0, ↓m_eqL1, m_eqL1, ↓m_eqL2, m_eqL2, ↓m_eqL3, m_eqL3, v_neU, ↓v_neU, v_neSS, ↓v_neSS, v_neII, ↓v_neII, v_neTT, ↓v_neTT, v_pf0, ↓v_pf0, v_pf1, ↓v_pf1, v_pf2, ↓v_pf2, v_lk1, ↓v_lk1, v_lk2, ↓v_lk2, v_lk0, ↓v_lk0, v_scr, ↓v_scr, v_scrV, ↓v_scrV, v_scrN, ↓v_scrN, v_scrE, ↓v_scrE, v_six0, ↓v_six0, v_six1, ↓v_six1, v_setNew, ↓v_setNew, v_putK1, ↓v_putK1, v_osq, ↓v_osq, v_dctN, ↓v_dctN, v_dctB, ↓v_dctB, v_dctI, ↓v_dctI, v_dctS, ↓v_dctS, v_dctT, ↓v_dctT, v_asgT, ↓v_asgT, v_asgs0, ↓v_asgs0, v_asgs1, ↓v_asgs1, v_bindP0, ↓v_bindP0, v_bindP1, ↓v_bindP1, v_bindP2, ↓v_bindP2, slot_0, slot_1, slot_2, slot_3, slot_4, slot_5, slot_6, slot_7, slot_8, slot_9, slot_10, slot_11, slot_12, slot_13, slot_14, slot_15, slot_16, slot_17, slot_18, slot_19, slot_20, slot_21, slot_22, slot_23, slot_24, slot_25, slot_26, slot_27, slot_28, slot_29, exn_0, exn_1, exn_2, exn_3, exn_4, exn_5, exn_6, exn_7, exn_8, exn_9, exn_10, exn_11, exn_12, exn_13, exn_14, exn_15, exn_16, exn_17, exn_18, exn_19, exn_20, exn_21, exn_22, exn_23, exn_24, exn_25, exn_26, exn_27, exn_28, exn_29, asg_0, asg_1, asg_2, asg_3, asg_4, asg_5, asg_6, asg_7, asg_8, asg_9, asg_10, asg_11, asg_12, asg_13, asg_14, asg_15, asg_16, asg_17, asg_18, asg_19, asg_20, asg_21, asg_22, asg_23, asg_24, asg_25, asg_26, asg_27, asg_28, asg_29, dset_0, dset_1, dset_2, dset_3, dset_4, dset_5, dset_6, dset_7, dset_8, dset_9, dset_10, dset_11, dset_12, dset_13, dset_14, dset_15, dset_16, dset_17, dset_18, dset_19, dset_20, dset_21, dset_22, dset_23, dset_24, dset_25, dset_26, dset_27, dset_28, dset_29, at_0, at_1, at_2, at_3, at_4, at_5, at_6, at_7, at_8, at_9, at_10, at_11, at_12, at_13, at_14, at_15, List.length_cons, List.length_nil, Option.bind_some, Option.bind_none, Option.map_some, Option.map_none, decide_true, decide_false, Bool.not_true, Bool.not_false, Bool.and_true, Bool.true_and, Bool.and_false, Bool.false_and, Bool.or_true, Bool.true_or, Bool.or_false, Bool.false_or, List.isEmpty_nil, List.isEmpty_cons, Option.isSome_some, Option.isNone_some, Option.isSome_none, Option.isNone_none, List.nil_append, List.cons_append, beq_self_eq_true, and_true, true_and, m_setH, List.map_cons, List.map_nil, eq_self, lim_eq, List.length_range, dep_eq, List.getElem?_set_self, List.getElem?_set_ne, List.set_set, List.length_set, ne_eq, not_false_eq_true, List.length_map, Int.reduceLT, Int.reduceLE, Int.reduceEq, Int.reduceNe, Int.reduceAdd, Int.reduceSub, Int.reduceMul, Int.reduceNeg, Int.reducePow, Int.reduceToNat, Nat.reduceAdd, Nat.reduceSub, Nat.reduceMul, Nat.reduceLT, Nat.reduceLeDiff, Nat.reduceEqDiff, String.reduceEq, String.reduceBEq, String.reduceBNe, ↓reduceIte, Int.reduceBEq, Int.reduceBNe, Nat.reduceBEq, Int.cast_ofNat_Int, Int.toNat_natCast, $t:term, *])

theorem DS.kq {st : Nat} {G G1 : Gp} (h : DS st G) (k : Kq G G1) : DS st G1 := by
  obtain ⟨c, n, x, b, is, h1, h2, h3, h4⟩ := h
  exact ⟨c, n, x, b, is, k _ _ h1, k _ _ h2, h3, h4⟩
namespace K01
section
variable {n : Nat} {L : List Nat} {G : Gp}
def turnBody : List Stm := match m_law.body.drop 2 with
  | .for _ _ _ b :: _ => b
  | _ => []
/-- from the parts on -/
theorem judge_ok {name kind to gone : U} {e o : Bool} {a0 a2 a4 a5 a6 a7 a8 : SV} {K : FK} (h : DS 1 G) (hn : Th 1 G name) (hk : Th 1 G kind) (ht : Th 1 G to) (hg : Th 1 G gone)
    (hnx : ∀ a2 a3 a4 a5 a6 a7 a8 G1, DS 1 G1 → K.nx [a0, .val (.ref 1), a2, a3, a4, a5, a6, a7, a8] G1) :
    FSatT (exB ⟨false, run D.mp (n + 5), D.mp.flds, D.mp.sub⟩ L (turnBody.drop 2) [a0, .val (.ref 1), a2, .val (.tup [name, kind, .bl e, .bl o, to, gone]), a4, a5, a6, a7, a8] G) K () := by
  rw [show turnBody.drop 2 = (turnBody.drop 2).take 2 ++ [.for .range [.cI 3] (.nm 6) wayBody] from rfl]
  have ways : ∀ G1, Kq G G1 → FSatT (exB ⟨false, run D.mp (n + 5), D.mp.flds, D.mp.sub⟩ L [.for .range [.cI 3] (.nm 6) wayBody] [a0, .val (.ref 1), a2, .val (.tup [name, kind, .bl e, .bl o, to, gone]), a4, .val (due name kind e o to gone), a6, a7, a8] G1) K () := fun G1 kq =>
    ways_ok (h.kq kq) (hn.kp kq.kp) (hk.kp kq.kp) (ht.kp kq.kp) (hg.kp kq.kp) fun a6 a7 a8 G2 k2 => hnx _ _ _ _ _ _ _ _ (h.kq (kq.trans k2))
  generalize [Stm.for .range [.cI 3] (.nm 6) wayBody] = rest at ways ⊢
  clear hnx
  simp only [turnBody, m_law, List.drop_succ_cons, List.drop_zero, List.take_succ_cons, List.take_zero]
  o_readsAll
  refine SatT.use (what_ok (n := n + 2) hn hk ht hg) ?_
  rintro _ G1 ⟨rfl, ke⟩
  by_cases ha : amiss name kind e to gone = ""
  · have w := ways G1 ke.kq
    have hd : due name kind e o to gone = .tup [.str (Str.ofString "made"), name, kind, .bl e, .bl o, to, gone] := by unfold due; rw [if_pos ha]
    rw [hd] at w
    clear ways
    o_readsAll
  · have hd : due name kind e o to gone = .tup [.str (Str.ofString "BadColumn"), .str (Str.ofString (amiss name kind e to gone)), .bl true, .bl true] := by unfold due; rw [if_neg ha]
    rw [hd] at ways
    have hne : decide (amiss name kind e to gone = "") = false := decide_eq_false ha
    clear hd
    o_readsAll
    refine SatT.use (what_ok (n := n + 2) (hn.kp ke.kp) (hk.kp ke.kp) (ht.kp ke.kp) (hg.kp ke.kp)) ?_
    rintro _ G2 ⟨rfl, ke2⟩
    have w := ways G2 (ke.trans ke2).kq
    clear ways
    o_readsAll
theorem turn_ok {a0 a2 a3 a4 a5 a6 a7 a8 : SV} {K : FK} (h : DS 1 G)
    (hnx : ∀ a2 a3 a4 a5 a6 a7 a8 G1, DS 1 G1 → K.nx [a0, .val (.ref 1), a2, a3, a4, a5, a6, a7, a8] G1) :
    FSatT (exB ⟨false, run D.mp (n + 5), D.mp.flds, D.mp.sub⟩ L turnBody [a0, .val (.ref 1), a2, a3, a4, a5, a6, a7, a8] G) K () := by
  rw [show turnBody = [.set (.nm 3) (.call "_law_parts" [.nm 1]), .for .range [.call "_law_take" [.nm 1, .cI 3]] (.nm 4) [.set (.nm 3) (.call "_law_otherwise" [.nm 1, .nm 3])]] ++ turnBody.drop 2 from rfl]
  have judge : ∀ (G1 : Gp) (u : U) (a4 : SV), DS 1 G1 → Parts 1 G1 u → FSatT (exB ⟨false, run D.mp (n + 5), D.mp.flds, D.mp.sub⟩ L (turnBody.drop 2) [a0, .val (.ref 1), a2, .val u, a4, a5, a6, a7, a8] G1) K () := by
    rintro G1 u a4 hd ⟨name, kind, e, o, to, gone, rfl, t1, t2, t3, t4⟩
    exact judge_ok hd t1 t2 t3 t4 hnx
  generalize turnBody.drop 2 = rest at judge ⊢
  clear hnx
  o_readsAll
  refine SatT.use (parts_ok (n := n + 1) h) ?_
  rintro u G1 ⟨hp, hd, _⟩
  o_readsAll
  refine take_abs hFill hTake hd (by omega) (by omega) fun v G2 h0 h1 hd2 hk2 _ => ?_
  have hp2 := hp.kp hk2
  o_readsAll
  refine for_T (by simp) (fun i d G3 => ∃ u a4, d = [a0, .val (.ref 1), a2, .val u, a4, a5, a6, a7, a8] ∧ DS 1 G3 ∧ Parts 1 G3 u) ⟨_, _, rfl, hd2, hp2⟩ ?_ ?_
  · rintro i hi d G3 ⟨u, a4, rfl, hd3, hp3⟩
    obtain ⟨name, kind, e, o, to, gone, rfl, t1, t2, t3, t4⟩ := hp3.ex
    rw [f_body, List.getElem_map, List.getElem_range, asg_4, m_some]
    clear judge
    o_readsAll
    refine SatT.use (otherwise_ok (n := n + 1) hd3 t1 t2 t3 t4) ?_
    rintro u G4 ⟨hp4, hd4, _⟩
    rw [asg_3, m_some, m_b0]
    exact ⟨u, _, rfl, hd4, hp4⟩
  · rintro d G3 ⟨u, a4, rfl, hd3, hp3⟩
    exact judge G3 u a4 hd3 hp3
theorem law_runs : LawRuns D (n + 5) 9 m_law.body.tail := by
  intro is his
  have key : FSat (exB ⟨false, run D.mp (n + 5), D.mp.flds, D.mp.sub⟩ [] m_law.body.tail ((List.replicate 9 SV.no).set 1 (.val (.ref 1))) [.lst (is.map U.int), .lst [.ref 0, .int 0, .int 0, .bl false]]) ⟨fun _ _ => False, fun u _ => u = .bl true, fun _ _ => False, fun _ _ => False, fun _ _ _ _ => False⟩ := by
    refine fsatT ?_
    generalize hK : (FK.mk _ _ _ _ _) = K
    have fin : ∀ G1, K.rt (.bl true) G1 := fun G1 => by
      subst hK
      rfl
    clear hK
    have hd : DS 1 [.lst (is.map U.int), .lst [.ref 0, .int 0, .int 0, .bl false]] := ⟨0, 0, 0, false, is, rfl, rfl, by decide, his⟩
    generalize [Cell.lst (is.map U.int), .lst [.ref 0, .int 0, .int 0, .bl false]] = G0 at hd ⊢
    rw [show m_law.body.tail = (m_law.body.drop 1).take 1 ++ [.for .range [.cI 4] (.nm 2) turnBody, .ret (.cB true)] from rfl]
    simp only [m_law, List.drop_succ_cons, List.drop_zero, List.take_succ_cons, List.take_zero, List.replicate]
    o_readsAll
    refine for_T (by simp) (fun i d G1 => ∃ a2 a3 a4 a5 a6 a7 a8, d = [.no, .val (.ref 1), a2, a3, a4, a5, a6, a7, a8] ∧ DS 1 G1) ⟨_, _, _, _, _, _, _, rfl, hd⟩ ?_ ?_
    · rintro i hi d G1 ⟨a2, a3, a4, a5, a6, a7, a8, rfl, hd1⟩
      rw [f_body, List.getElem_map, List.getElem_range, asg_2, m_some]
      exact turn_ok hd1 fun a2 a3 a4 a5 a6 a7 a8 G2 hd2 => ⟨_, _, _, _, _, _, _, rfl, hd2⟩
    · rintro d G1 ⟨a2, a3, a4, a5, a6, a7, a8, rfl, hd1⟩
      o_readsAll
  show ∃ G, exB ⟨false, run D.mp (n + 5), D.mp.flds, D.mp.sub⟩ [] _ _ _ = _
  cases h : exB ⟨false, run D.mp (n + 5), D.mp.flds, D.mp.sub⟩ [] m_law.body.tail ((List.replicate 9 SV.no).set 1 (.val (.ref 1))) [.lst (is.map U.int), .lst [.ref 0, .int 0, .int 0, .bl false]] with
  | rt u G =>
    rw [h] at key
    have e : u = .bl true := key
    exact ⟨G, by rw [e]⟩
  | nx _ _ => rw [h] at key; exact key.elim
  | bk _ _ => rw [h] at key; exact key.elim
  | ct _ _ => rw [h] at key; exact key.elim
  | ex _ _ _ _ => rw [h] at key; exact key.elim
  | bad => rw [h] at key; exact key.elim
end
end K01
end PV
set_option Elab.async false
set_option linter.all false
set_option maxRecDepth 100000
set_option maxHeartbeats 0
namespace PV
namespace K01
open PySem PySem.W PySem.Calls PyProof.Rows
abbrev R : OpenRow := OpenLaw.row PySem.Challenge.rw_rowhold_k01_columns_made
abbrev qv : Program := view R.prog [25]
def names0 : List PySem.Str := ["HoldError", "BadColumn", "KINDS", "BAR", "EMPTY", "ALONG", "LETTERS", "is_written", "is_word", "column_amiss", "Column", "column_words", "_law_fresh", "_law_fill", "_law_take", "_law_words", "_law_odd", "_law_is_word", "_law_parts", "_law_what", "_law_made", "_law_otherwise"]
def names : List PySem.Str := names0
theorem run (w : World) : HandSHeadRun.RunEq R qv (hookP 5 D (hkDefs D)) (obP 5 D (hkDefs D)) 40000 names w := by
  intro os
  kernel_rfl
end K01
end PV
set_option Elab.async false
set_option linter.all false
set_option maxRecDepth 100000
set_option maxHeartbeats 0
namespace PV
namespace K01
theorem rows : lawRows p_law p_law_fresh "_law_script" = true := by decide +kernel
end K01
end PV
open PySem PySem.W PySem.Calls PyProof.Rows
theorem PySem.Challenge.cw_rowhold_k01_columns_made_holds : PySem.Challenge.rw_rowhold_k01_columns_made.Holds := by
  w_on; o_law
  refine HandSHeadRun.head_any (r := OpenLaw.row PySem.Challenge.rw_rowhold_k01_columns_made) (q := PV.K01.qv) (H := PV.hookP 5 PV.K01.D (PV.hkDefs PV.K01.D)) (ob := PV.obP 5 PV.K01.D (PV.hkDefs PV.K01.D)) (M := 40000) (loose := PV.K01.names) (d := HandSHeadRun.topDef PV.K01.R.prog 25) (kwd := []) (fun s => PV.obP_eq s)
    (by kernel_rfl) (fun s => by kernel_rfl) PV.K01.run (by kernel_rfl) (by kernel_rfl) (by kernel_rfl) (by rfl) (by first | assumption | decide +kernel) (by decide +kernel) ⟨rfl, rfl, rfl, rfl, rfl, by decide +kernel⟩ ?hw ?hc
  case hw => w_witness2
  case hc => exact PV.law_end (m := 5) (n := 5) (D := PV.K01.D) (pl := PV.K01.p_law) (pf := PV.K01.p_law_fresh) (x := "_law_script") rfl (by kernel_rfl) ⟨rfl, by decide, by decide⟩ (by kernel_rfl) PV.K01.D_ok PV.K01.D_mks (by simp [PV.K01.D]) (by simp [PV.K01.D]) PV.K01.rows rfl PV.K01.law_runs
