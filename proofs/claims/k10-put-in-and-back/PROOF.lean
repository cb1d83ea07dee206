import PyProof.Rows.All
import Wide.All
import OpenK.AllK
import Wide.FinOn
import HandS.ForMost
import HandS.Exc
import HandS.TryOnly
import HandS.StrMore
import HandS.TryMany
import HandS.ExcOwn
import HandS.WordsExc
import HandS.CallSlots
import HandS.IsInst
import HandS.ExcIs
import HandS.Style
import HandS.Deep
import HandS.TupAny
import HandS.Conv
import HandS.More
import KE.SortData
import KE.DataCmp
import KE.DataEq
import KE.Datum
import PySem.Challenge.RW_glasslayers_k10_put_in_and_back
set_option Elab.async false
set_option linter.all false
set_option maxRecDepth 100000
/-! GlA: own trees, the small syntax, the pure evaluator. -/
namespace Gl
open PySem

abbrev Ky := Sum Int Str

/-- what a node is -/
inductive Kind where
  | tup | lst | dK (ks : List Ky) | dT (ks : List (List Ky)) | obj (c : Str) (fs : List Str)

/-- a value as it is owned: plain data, a dict that no one changes, a node of one's own, a caught refusal -/
inductive T where
  | imm (d : PyData)
  | fK (kvs : List (Ky × PyData))
  | fT (kvs : List (List Ky × PyData))
  | node (k : Kind) (ts : List T)
  /-- the refusal that an except suite holds: its address, its class -/
  | exc (a : Nat) (c : Str)
  | scr (ns : List Int)
  /-- a node of one's own at a known address: what a def was handed to be changed -/
  | pin (a : Nat) (k : Kind) (ts : List T)
  /-- what such a def answers: its value, and what it was handed as it is then -/
  | io (t p : T)

abbrev Env := List (Option T)

inductive Rs (α : Type) where
  | ok (a : α) | ex (c : Str) | no
@[simp] def Rs.bind {α β : Type} : Rs α → (α → Rs β) → Rs β
  | .ok a, f => f a
  | .ex c, _ => .ex c
  | .no, _ => .no
@[simp] def Rs.of {α : Type} : Option α → Rs α
  | some a => .ok a
  | none => .no

mutual
def T.dat : T → Option PyData
  | .imm d => some d
  | .scr ns => some (.list (ns.map .int))
  | .node .tup ts => match datL ts with | some ds => some (.tuple ds) | none => none
  | .node .lst ts => match datL ts with | some ds => some (.list ds) | none => none
  | _ => none
def datL : List T → Option (List PyData)
  | [] => some []
  | t :: ts => match t.dat, datL ts with | some d, some ds => some (d :: ds) | _, _ => none
end
mutual
def T.fdat : T → Option PyData
  | .imm d => some d
  | .node .tup ts => match fdatL ts with | some ds => some (.tuple ds) | none => none
  | .node .lst ts => match fdatL ts with | some ds => some (.list ds) | none => none
  | _ => none
def fdatL : List T → Option (List PyData)
  | [] => some []
  | t :: ts => match t.fdat, fdatL ts with | some d, some ds => some (d :: ds) | _, _ => none
end
def imms : List T → Option (List PyData)
  | [] => some []
  | .imm d :: ts => match imms ts with | some ds => some (d :: ds) | none => none
  | _ :: _ => none
/-- a list or tuple whose items are plain: is it a list, and the items -/
def T.kids : T → Option (Bool × List PyData)
  | .imm (.list ds) => some (true, ds)
  | .imm (.tuple ds) => some (false, ds)
  | .scr ns => some (true, ns.map .int)
  | .node .lst ts => match imms ts with | some ds => some (true, ds) | none => none
  | _ => none
/-- a dict, its values plain: by ints and texts, by tuples of them -/
def T.dkv : T → Option (List (Ky × PyData))
  | .fK kvs => some kvs
  | .node (.dK ks) ts => match imms ts with | some ds => some (ks.zip ds) | none => none
  | _ => none
def T.dtv : T → Option (List (List Ky × PyData))
  | .fT kvs => some kvs
  | .node (.dT ks) ts => match imms ts with | some ds => some (ks.zip ds) | none => none
  | _ => none
/-- as plain, unchanging -/
def T.fr : T → Option T
  | .imm d => some (.imm d)
  | .fK kvs => some (.fK kvs)
  | .fT kvs => some (.fT kvs)
  | .scr ns => some (.scr ns)
  | .exc a c => some (.exc a c)
  | .node (.dK ks) ts => match imms ts with | some ds => some (.fK (ks.zip ds)) | none => none
  | .node (.dT ks) ts => match imms ts with | some ds => some (.fT (ks.zip ds)) | none => none
  | .node .tup ts => match fdatL ts with | some ds => some (.imm (.tuple ds)) | none => none
  | .node .lst ts => match fdatL ts with | some ds => some (.imm (.list ds)) | none => none
  | _ => none
def T.plain : T → Bool
  | .imm _ => true
  | .fK _ => true
  | .fT _ => true
  | .exc .. => true
  | .scr _ => true
  | .node .. => false
  | .pin .. => false
  | .io .. => false
def T.isScr : T → Bool
  | .scr _ => true
  | _ => false
/-- down the tree -/
def T.sub : T → List Nat → Option T
  | t, [] => some t
  | .node _ ts, j :: p => match ts[j]? with | some t => t.sub p | none => none
  | _, _ :: _ => none
/-- a list of one's own of plain items -/
def T.L (ds : List PyData) : T := .node .lst (ds.map .imm)

/-! ### keys -/
def toKey : PyData → Option Ky
  | .int i => some (.inl i)
  | .str s => some (.inr s)
  | _ => none
def toKeys : List PyData → Option (List Ky)
  | [] => some []
  | d :: ds => match toKey d, toKeys ds with | some k, some ks => some (k :: ks) | _, _ => none
def ofKey : Ky → PyData
  | .inl i => .int i
  | .inr s => .str s
def look {κ α : Type} [DecidableEq κ] (kvs : List (κ × α)) (k : κ) : Option α := (kvs.find? fun kv => decide (kv.1 = k)).map (·.2)
/-- what a dict holds at a key -/
def dget (t : T) (k : PyData) : Option (Option PyData) :=
  match t.dkv with
  | some kvs => match toKey k with | some a => some (look kvs a) | none => none
  | none => match t.dtv, k with
    | some kvs, .tuple ds => match toKeys ds with | some a => some (look kvs a) | none => none
    | _, _ => none

/-! ### operations -/
def intOp : Operator → Int → Int → Option Int
  | .Add, i, j => some (i + j)
  | .Sub, i, j => some (i - j)
  | .Mult, i, j => if i.natAbs < 18446744073709551616 ∨ j.natAbs < 18446744073709551616 then some (i * j) else none
  | .FloorDiv, i, j => if 0 < j ∧ j.natAbs < 1073741824 then some (i / j) else none
  | .Mod, i, j => if 0 < j then some (i % j) else none
  | .Pow, i, j => if 0 ≤ j ∧ j.natAbs ≤ 1000000 ∧ i.natAbs < 18446744073709551616 then some (i ^ j.toNat) else none
  | _, _, _ => none
def seqAdd (a b : T) : Option T :=
  if a.isScr || b.isScr then none else
  match a.kids, b.kids with
  | some (true, xs), some (true, ys) => if xs.length ≤ sizeLine ∧ ys.length ≤ sizeLine ∧ xs.length + ys.length ≤ sizeLine then some (.L (xs ++ ys)) else none
  | some (false, xs), some (false, ys) => if xs.length ≤ sizeLine ∧ ys.length ≤ sizeLine ∧ xs.length + ys.length ≤ sizeLine then some (.imm (.tuple (xs ++ ys))) else none
  | _, _ => none
def seqMul (a b : T) : Option T :=
  match a, b with
  | .imm (.str x), .imm (.int k) => if k.natAbs ≤ 1000000 ∧ x.length * k.toNat ≤ 10000000 then some (.imm (.str ⟨(List.replicate k.toNat x.cps.toList).flatten.toArray⟩)) else none
  | .node .lst ts, .imm (.int k) => match imms ts with
    | some ds => if k.natAbs ≤ 1000000 ∧ ds.length * k.toNat ≤ 10000000 then some (.L (List.replicate k.toNat ds).flatten) else none
    | none => none
  | _, _ => none
def binT (op : Operator) (a b : T) : Option T :=
  match a, b with
  | .imm (.int i), .imm (.int j) => match intOp op i j with | some k => some (.imm (.int k)) | none => none
  | .imm (.str x), .imm (.str y) => match op with
    | .Add => if x.length + y.length ≤ sizeLine then some (.imm (.str (x ++ y))) else none
    | _ => none
  | a, b => match op with
    | .Add => seqAdd a b
    | .Mult => seqMul a b
    | _ => none
def isScal : PyData → Bool
  | .none => true | .bool _ => true | .int _ => true | .str _ => true
  | _ => false
def cmpEq (a b : T) : Option Bool :=
  match a.dat, b.dat with
  | some d, some e => if d.depth ≤ 64 ∨ e.depth ≤ 64 then some (PyData.eqv d e) else none
  | _, _ => none
def cmpInS (a : T) (ds : List PyData) : Option Bool :=
  match a.dat with
  | some d => if d.depth ≤ 64 then some (ds.any fun z => PyData.eqv z d) else none
  | none => none
def cmpIn (a b : T) : Option Bool :=
  match b with
  | .imm (.str z) => match a with
    | .imm (.str c) => if c.cps.size = 1 then some (decide (c.cps.getD 0 0 ∈ z.cps.toList)) else none
    | _ => none
  | b => match b.kids with
    | some (_, ds) => cmpInS a ds
    | none => match a with
      | .imm d => (match dget b d with | some o => some o.isSome | none => none)
      | _ => none
def cmpLt (a b : T) : Option Bool :=
  match a, b with
  | .imm (.int i), .imm (.int j) => some (decide (i < j))
  | .imm (.str x), .imm (.str y) => some (decide (x.cps.toList < y.cps.toList))
  | .imm (.tuple xs), .imm (.tuple ys) => if W.alike (.tuple xs) (.tuple ys) = true ∧ (PyData.tuple xs).depth ≤ 64 then some (W.dataLt (.tuple xs) (.tuple ys)) else none
  | _, _ => none
def cmpLe (a b : T) : Option Bool :=
  match a, b with
  | .imm (.int i), .imm (.int j) => some (decide (i ≤ j))
  | _, _ => none
def cmpIs (a b : T) : Option Bool :=
  match b with
  | .imm .none => match a with
    | .imm .none => some true
    | _ => some false
  | .imm (.bool c) => match a with
    | .imm (.bool d) => some (decide (d = c))
    | _ => none
  | _ => none
def onot : Option Bool → Option Bool
  | some b => some (!b)
  | none => none
def cmpT (op : CmpOp) (a b : T) : Option Bool :=
  match op with
  | .Eq => cmpEq a b
  | .NotEq => onot (cmpEq a b)
  | .Lt => cmpLt a b
  | .Gt => cmpLt b a
  | .LtE => cmpLe a b
  | .GtE => cmpLe b a
  | .Is => cmpIs a b
  | .IsNot => onot (cmpIs a b)
  | .In => cmpIn a b
  | .NotIn => onot (cmpIn a b)
/-- an index into n items -/
def ixD (n : Nat) (i : Int) : Option Nat := if 0 ≤ i then (if i < n then some i.toNat else none) else (if 0 ≤ n + i then some (n + i).toNat else none)
def idxT (a : T) (i : PyData) : Option T :=
  match a with
  | .imm (.str x) => match i with
    | .int i => if x.length ≤ sizeLine then (match ixD x.length i with | some j => (match x.cps.toList[j]? with | some c => some (.imm (.str ⟨#[c]⟩)) | none => none) | none => none) else none
    | _ => none
  | .node .tup ts => match i with
    | .int i => (match ixD ts.length i with | some j => (match ts[j]? with | some (.imm d) => some (.imm d) | _ => none) | none => none)
    | _ => none
  | a => match dget a i with
    | some (some d) => some (.imm d)
    | some none => none
    | none => match a.kids, i with
      | some (_, ds), .int i => (match ixD ds.length i with | some j => (match ds[j]? with | some d => some (.imm d) | none => none) | none => none)
      | _, _ => none
/-- a slice's bounds -/
def cutB (n : Nat) (lo hi : Option Int) : Nat × Nat := (HT.sIx n 0 lo, HT.sIx n n hi)
def cutL {α : Type} (xs : List α) (lo hi : Option Int) : List α := (xs.drop (cutB xs.length lo hi).1).take ((cutB xs.length lo hi).2 - (cutB xs.length lo hi).1)
def slcT (a : T) (lo hi : Option Int) : Option T :=
  match a with
  | .imm (.str x) => if x.length ≤ sizeLine then some (.imm (.str ⟨(cutL x.cps.toList lo hi).toArray⟩)) else none
  | a => match a.kids with
    | some (true, ds) => some (.L (cutL ds lo hi))
    | some (false, ds) => some (.imm (.tuple (cutL ds lo hi)))
    | none => none
/-- the items of a list, each k-th one -/
def pickL {α : Type} (xs : List α) (lo hi : Option Int) (k : Nat) : List α := (sliceRange (sliceBounds lo hi (some (k : Int)) xs.length).1 (sliceBounds lo hi (some (k : Int)) xs.length).2.1 (sliceBounds lo hi (some (k : Int)) xs.length).2.2).filterMap (xs[·]?)
def slsT (a : T) (lo hi : Option Int) (k : Nat) : Option T :=
  match a.kids with
  | some (true, ds) => some (.L (pickL ds lo hi k))
  | _ => none
/-- the signs of a text -/
def signs (x : Str) : List PyData := x.cps.toList.map fun c => .str ⟨#[c]⟩
/-- what a for walks -/
def srcT (t : T) : Option (List PyData) :=
  match t with
  | .imm (.str x) => some (signs x)
  | t => match t.kids with
    | some (_, ds) => some ds
    | none => none
def rngD (lo hi : Int) : Option (List PyData) :=
  if lo.natAbs < 4611686018427387904 ∧ hi.natAbs < 4611686018427387904 then some ((List.range (hi - lo).toNat).map fun (k : Nat) => PyData.int (lo + (k : Int))) else none
def texts : List PyData → Option (List Str)
  | [] => some []
  | .str x :: ds => match texts ds with | some r => some (x :: r) | none => none
  | _ :: _ => none
/-- the built-ins that are called by name -/
inductive Bi where
  | len | list | tuple | str | max2 | min2 | sorted
/-- what may be sorted -/
def alikeB (ds : List PyData) : Bool := ds.all fun d => ds.all fun e => W.alike d e
def tupB : PyData → Bool
  | .tuple _ => true
  | _ => false
def flatB : PyData → Bool
  | .tuple _ => false | .none => false
  | _ => true
def sortB (ds : List PyData) : Bool := alikeB ds && (ds.all tupB || ds.all flatB) && ds.all (fun d => decide (d.depth ≤ 64)) && decide (ds.length ≤ sizeLine)
def sortD (ds : List PyData) : List PyData := ds.mergeSort (W.dataLe false id)
/-- what a dict's keys are as data -/
def keysT (t : T) : Option (List PyData) :=
  match t.dkv with
  | some kvs => some (kvs.map fun kv => ofKey kv.1)
  | none => match t.dtv with
    | some kvs => some (kvs.map fun kv => .tuple (kv.1.map ofKey))
    | none => none
/-- keys that are all texts -/
def keyS : List Ky → Option (List Str)
  | [] => some []
  | .inr x :: ks => match keyS ks with | some r => some (x :: r) | none => none
  | .inl _ :: _ => none
def sortK (t : T) : Option T :=
  match t.dkv with
  | some kvs => match keyS (kvs.map (·.1)) with | some ks => some (.L (sortD (ks.map .str))) | none => none
  | none => none
def lenT (t : T) : Option Nat :=
  match t with
  | .imm (.str x) => if x.length ≤ sizeLine then some x.length else none
  | .node .lst ts => some ts.length
  | .node .tup ts => some ts.length
  | .node (.dK ks) ts => if ks.length = ts.length then some ks.length else none
  | .fK kvs => some kvs.length
  | t => match t.kids with
    | some (_, ds) => some ds.length
    | none => none
def biT : Bi → List T → Option T
  | .len, [t] => match lenT t with | some n => some (.imm (.int n)) | none => none
  | .list, [t] => match t.kids with
    | some (_, ds) => some (.L ds)
    | none => match keysT t with | some ds => some (.L ds) | none => none
  | .sorted, [t] => match t.kids with
    | some (true, ds) => if sortB ds then some (.L (sortD ds)) else none
    | some (false, _) => none
    | none => sortK t
  | .tuple, [t] => match t.kids with | some (_, ds) => some (.imm (.tuple ds)) | none => none
  | .str, [.imm (.int i)] => if i.natAbs.log2 < 1920 then some (.imm (.str (toString i))) else none
  | .max2, [.imm (.int i), .imm (.int j)] => some (.imm (.int (if j > i then j else i)))
  | .min2, [.imm (.int i), .imm (.int j)] => some (.imm (.int (if j < i then j else i)))
  | _, _ => none
/-- isinstance of a written built-in class -/
inductive Cl where
  | str | int | bool | list | tuple
def isiT (c : Cl) (t : T) : Option Bool :=
  match t with
  | .imm .none => some false
  | .imm (.bool _) => some (match c with | .bool => true | .int => true | _ => false)
  | .imm (.int _) => some (match c with | .int => true | _ => false)
  | .imm (.str _) => some (match c with | .str => true | _ => false)
  | .imm (.list _) => some (match c with | .list => true | _ => false)
  | .imm (.tuple _) => some (match c with | .tuple => true | _ => false)
  | .node .lst _ => some (match c with | .list => true | _ => false)
  | .node .tup _ => some (match c with | .tuple => true | _ => false)
  | _ => none
/-- the methods of texts and dicts that change nothing -/
inductive Mt where
  | join | starts | split | get | part | strip | count
def mtT : Mt → T → List T → Option T
  | .join, .imm (.str sep), [t] => match t.kids with
    | some (_, ds) => match texts ds with
      | some xs => if (xs.map (·.length)).sum + xs.length * sep.length ≤ 16777216 then some (.imm (.str (Str.join sep xs))) else none
      | none => none
    | none => none
  | .starts, .imm (.str x), [.imm (.str y)] => some (.imm (.bool (Txt.startswith x y)))
  | .split, .imm (.str x), [.imm (.str y)] => if (y.length == 0) = false ∧ x.length + 2 ≤ sizeLine then some (.L ((Txt.split x y).map .str)) else none
  | .part, .imm (.str x), [.imm (.str y)] => if (y.length == 0) = false ∧ x.length ≤ sizeLine then some (.imm (.tuple ([(Txt.partition x y).1, (Txt.partition x y).2.1, (Txt.partition x y).2.2].map .str))) else none
  | .strip, .imm (.str x), [.imm (.str y)] => if x.length ≤ sizeLine then some (.imm (.str (Txt.stripChars x y))) else none
  | .count, .imm (.str x), [.imm (.str y)] => some (.imm (.int (Txt.count x y)))
  | .get, t, [.imm d] => match dget t d with
    | some (some r) => some (.imm r)
    | some none => some (.imm .none)
    | none => none
  | _, _, _ => none
/-- whose method it is -/
def mtR : Mt → T → Bool
  | .get, t => t.dkv.isSome || t.dtv.isSome
  | _, .imm (.str _) => true
  | _, _ => false
def truT : T → Option Bool
  | .imm (.bool b) => some b
  | _ => none

/-! ### the small syntax -/
inductive E where
  | var (i : Nat)
  | cst (d : PyData)
  | glb (x : Str) (d : PyData)
  | tup (es : List E)
  | lst (es : List E)
  | dnK | dnT
  | bin (op : Operator) (a b : E)
  | neg (a : E)
  | not (a : E)
  | bop (c : Bool) (es : List E)
  | cmp (op : CmpOp) (a b : E)
  | chn (op op' : CmpOp) (a b c : E)
  | idx (a i : E)
  | slc (a : E) (lo hi : Option E)
  | sls (a : E) (lo hi : Option E) (k : Nat)
  | call (f : Nat) (es : List E)
  | bi (b : Bi) (es : List E)
  | isi (a : E) (c : Cl)
  /-- isinstance of a held refusal: the answer by its class -/
  | eis (i : Nat) (tbl : List (Str × Bool))
  | mth (a : E) (m : Mt) (es : List E)
  | lcR (i : Nat) (lo : Option E) (hi elt : E) (c : Option E)
  | lc (i : Nat) (src elt : E) (c : Option E)

/-- one turn after another of a comprehension -/
def lcGo (f : PyData → Rs (Option PyData)) : List PyData → Rs (List PyData)
  | [] => .ok []
  | d :: ds => match f d with
    | .ok o => match lcGo f ds with
      | .ok r => .ok (o.toList ++ r)
      | _ => .no
    | _ => .no
def immOf (t : T) : Rs (Option PyData) :=
  match t.fr with
  | some (.imm d) => .ok (some d)
  | _ => .no

def mkTup (ts : List T) : T := match imms ts with | some ds => .imm (.tuple ds) | none => .node .tup ts
/-- what a call may hand back where one of its arguments is the caller's own: no reference -/
def noRef : T → Bool
  | .imm d => isScal d
  | _ => false
def frL : List T → Option (List T)
  | [] => some []
  | t :: ts => match t.fr, frL ts with | some x, some r => some (x :: r) | _, _ => none
def getT (o : Option T) (t : T) : T := match o with | some x => x | none => t
/-- frozen, where it can be -/
def frzE (t : T) : T := getT t.fr t
def isVar : E → Bool
  | .var _ => true
  | _ => false
mutual
/-- data in which no list lies -/
def noLs : PyData → Bool
  | .list _ => false
  | .dict _ => false
  | .tuple ds => noLsA ds
  | _ => true
def noLsA : List PyData → Bool
  | [] => true
  | d :: ds => noLs d && noLsA ds
end
/-- what a call may hand back where its arguments of one's own are lists of plain items -/
def noLsT : T → Bool
  | .imm d => noLs d
  | .node .lst ts => match imms ts with | some ds => noLsA ds | none => false
  | _ => false
def T.isPL : T → Bool
  | .node .lst ts => (imms ts).isSome
  | t => t.plain
/-- a value, not what an own def hands back -/
def T.isV : T → Bool
  | .io .. => false
  | _ => true
def callT (call : Nat → List T → Rs T) (f : Nat) (ts : List T) : Rs T :=
  match frL ts with
  | some as => match call f as with
    | .ok r => if (ts.all T.plain && r.isV) || noRef r || (ts.all T.isPL && noLsT r) then .ok r else .no
    | .ex c => .ex c
    | .no => .no
  | none => .no

/-- asked of the world of calls: is this refusal the one that is held -/
def HX : Nat := 1000000
mutual
/-- pk: a name of one's own may be looked at -/
def evX (call : Nat → List T → Rs T) (pk : Bool) : E → Env → Rs T
  | .var i, ρ => match ρ[i]? with
    | some (some (.pin _ k ts)) => if pk then .ok (.node k ts) else .no
    | some (some t) => if pk || t.plain then .ok t else .no
    | _ => .no
  | .cst d, _ => if isScal d then .ok (.imm d) else .no
  | .glb _ d, _ => if isScal d then .ok (.imm d) else .no
  | .tup es, ρ => (evXs call false es ρ).bind fun ts => .ok (mkTup ts)
  | .lst es, ρ => (evXs call false es ρ).bind fun ts => .ok (.node .lst (ts.map frzE))
  | .dnK, _ => .ok (.node (.dK []) [])
  | .dnT, _ => .ok (.node (.dT []) [])
  | .bin op a b, ρ => (evX call true a ρ).bind fun x => (evX call true b ρ).bind fun y => .of (binT op x y)
  | .neg a, ρ => (evX call true a ρ).bind fun x => match x with | .imm (.int i) => .ok (.imm (.int (-i))) | _ => .no
  | .not a, ρ => (evX call true a ρ).bind fun x => match truT x with | some b => .ok (.imm (.bool (!b))) | none => .no
  | .bop c es, ρ => evB call c es ρ
  | .cmp op a b, ρ => (evX call true a ρ).bind fun x => (evX call true b ρ).bind fun y => match cmpT op x y with | some r => .ok (.imm (.bool r)) | none => .no
  | .chn op op' a b c, ρ => (evX call true a ρ).bind fun x => (evX call true b ρ).bind fun y => match cmpT op x y with
    | some true => (evX call true c ρ).bind fun z => match cmpT op' y z with | some r => .ok (.imm (.bool r)) | none => .no
    | some false => .ok (.imm (.bool false))
    | none => .no
  | .idx a i, ρ => (evX call true a ρ).bind fun x => (evX call true i ρ).bind fun y => match y with | .imm d => .of (idxT x d) | _ => .no
  | .slc a lo hi, ρ => (evX call true a ρ).bind fun x => (evO call lo ρ).bind fun l => (evO call hi ρ).bind fun h => .of (slcT x l h)
  | .sls a lo hi k, ρ => (evX call true a ρ).bind fun x => (evO call lo ρ).bind fun l => (evO call hi ρ).bind fun h => .of (slsT x l h k)
  | .call f es, ρ => (evAs call es ρ).bind fun ts => callT call f ts
  | .bi b es, ρ => (evXs call true es ρ).bind fun ts => .of (biT b ts)
  | .isi a c, ρ => (evX call true a ρ).bind fun x => match isiT c x with | some r => .ok (.imm (.bool r)) | none => .no
  | .eis i tbl, ρ => match ρ[i]? with
    | some (some (.exc a c)) => match call HX [.exc a c] with
      | .ok _ => match look tbl c with | some b => .ok (.imm (.bool b)) | none => .no
      | _ => .no
    | _ => .no
  | .mth a m es, ρ => (evX call true a ρ).bind fun x => if mtR m x then (evXs call true es ρ).bind fun ts => .of (mtT m x ts) else .no
  | .lcR i lo hi elt c, ρ => if ρ.length ≤ i then .no else (evO call lo ρ).bind fun l => (evX call true hi ρ).bind fun h => match h with
    | .imm (.int n) => match rngD (l.getD 0) n with
      | some ds => (lcGo (fun d => (evC call c (ρ.set i (some (.imm d)))).bind fun b => if b then (evX call false elt (ρ.set i (some (.imm d)))).bind immOf else .ok none) ds).bind fun r => if r.length ≤ sizeLine then .ok (.L r) else .no
      | none => .no
    | _ => .no
  | .lc i src elt c, ρ => if ρ.length ≤ i then .no else (evX call false src ρ).bind fun t => match srcT t with
    | some ds => (lcGo (fun d => (evC call c (ρ.set i (some (.imm d)))).bind fun b => if b then (evX call false elt (ρ.set i (some (.imm d)))).bind immOf else .ok none) ds).bind fun r => if r.length ≤ sizeLine then .ok (.L r) else .no
    | none => .no
def evXs (call : Nat → List T → Rs T) (pk : Bool) : List E → Env → Rs (List T)
  | [], _ => .ok []
  | e :: es, ρ => (evX call pk e ρ).bind fun t => (evXs call pk es ρ).bind fun ts => .ok (t :: ts)
/-- arguments: a name is looked at, anything else is new and frozen -/
def evAs (call : Nat → List T → Rs T) : List E → Env → Rs (List T)
  | [], _ => .ok []
  | e :: es, ρ => (if isVar e then evX call true e ρ else (evX call false e ρ).bind fun t => .of t.fr).bind fun t => (evAs call es ρ).bind fun ts => .ok (t :: ts)
def evO (call : Nat → List T → Rs T) : Option E → Env → Rs (Option Int)
  | none, _ => .ok none
  | some e, ρ => (evX call true e ρ).bind fun t => match t with | .imm (.int i) => .ok (some i) | _ => .no
/-- and (c true), or: all but the last are truths -/
def evB (call : Nat → List T → Rs T) (c : Bool) : List E → Env → Rs T
  | [], _ => .no
  | [e], ρ => evX call false e ρ
  | e :: es, ρ => (evX call true e ρ).bind fun t => match truT t with
    | some b => if b = c then evB call c es ρ else .ok (.imm (.bool b))
    | none => .no
def evC (call : Nat → List T → Rs T) : Option E → Env → Rs Bool
  | none, _ => .ok true
  | some c, ρ => (evX call true c ρ).bind fun t => .of (truT t)
end
end Gl

set_option Elab.async false
set_option linter.all false
set_option maxRecDepth 100000
/-! GlB: how own trees lie in the heap; the state relation. -/
namespace Gl
open PySem L2

/-! ### plain data in the part of the heap that no one changes -/
mutual
inductive Rp (K : PySem.W.Frag) (G : Hp) : PyData → V → Prop
  | non : Rp K G .none .non
  | bl (b : Bool) : Rp K G (.bool b) (.bl b)
  | int (i : Int) : Rp K G (.int i) (.int i)
  | str (x : Str) : Rp K G (.str x) (.str x)
  | lst {a : Addr} {xs : List V} {ds : List PyData} : G a = some (.lst xs) → RpL K G ds xs → Rp K G (.list ds) (.ref a)
  | tup {a : Addr} {xs : List V} {ds : List PyData} : G a = some (.tup xs) → RpL K G ds xs → Rp K G (.tuple ds) (.ref a)
inductive RpL (K : PySem.W.Frag) (G : Hp) : List PyData → List V → Prop
  | nil : RpL K G [] []
  | cons {d : PyData} {v : V} {ds : List PyData} {vs : List V} : Rp K G d v → RpL K G ds vs → RpL K G (d :: ds) (v :: vs)
end
section
variable {K : PySem.W.Frag} {G G' : Hp}
mutual
theorem Rp.mono (s : Same G G') : ∀ {d : PyData} {v : V}, Rp K G d v → Rp K G' d v
  | _, _, .non => .non
  | _, _, .bl b => .bl b
  | _, _, .int i => .int i
  | _, _, .str x => .str x
  | _, _, .lst h r => .lst (s _ _ h) (RpL.mono s r)
  | _, _, .tup h r => .tup (s _ _ h) (RpL.mono s r)
theorem RpL.mono (s : Same G G') : ∀ {ds : List PyData} {vs : List V}, RpL K G ds vs → RpL K G' ds vs
  | _, _, .nil => .nil
  | _, _, .cons h r => .cons (Rp.mono s h) (RpL.mono s r)
end
mutual
theorem Rp.dp : ∀ {d : PyData} {v : V}, Rp K G d v → Dp K G v d
  | _, _, .non => .non
  | _, _, .bl b => .bl b
  | _, _, .int i => .int i
  | _, _, .str x => .str x
  | _, _, .lst h r => .lst (SqL.of h) (RpL.dp r)
  | _, _, .tup h r => .tup (SqT.of h) (RpL.dp r)
theorem RpL.dp : ∀ {ds : List PyData} {vs : List V}, RpL K G ds vs → DpAll K G vs ds
  | _, _, .nil => .nil
  | _, _, .cons h r => .cons (Rp.dp h) (RpL.dp r)
end
theorem RpL.length : ∀ {ds : List PyData} {vs : List V}, RpL K G ds vs → ds.length = vs.length
  | _, _, .nil => rfl
  | _, _, .cons _ r => congrArg (· + 1) r.length
theorem RpL.append : ∀ {ds es : List PyData} {vs us : List V}, RpL K G ds vs → RpL K G es us → RpL K G (ds ++ es) (vs ++ us)
  | _, _, _, _, .nil, r => r
  | _, _, _, _, .cons h t, r => .cons h (t.append r)
theorem RpL.take : ∀ {ds : List PyData} {vs : List V} (n : Nat), RpL K G ds vs → RpL K G (ds.take n) (vs.take n)
  | _, _, 0, _ => .nil
  | _, _, _ + 1, .nil => .nil
  | _, _, n + 1, .cons h r => .cons h (r.take n)
theorem RpL.drop : ∀ {ds : List PyData} {vs : List V} (n : Nat), RpL K G ds vs → RpL K G (ds.drop n) (vs.drop n)
  | _, _, 0, r => r
  | _, _, _ + 1, .nil => .nil
  | _, _, n + 1, .cons _ r => r.drop n
theorem RpL.get : ∀ {ds : List PyData} {vs : List V} {i : Nat} {d : PyData}, RpL K G ds vs → ds[i]? = some d → ∃ v, vs[i]? = some v ∧ Rp K G d v
  | _, _, _, _, .nil, e => by simp at e
  | _, _, 0, _, .cons h _, e => by simp at e; subst e; exact ⟨_, rfl, h⟩
  | _, _, i + 1, _, .cons _ r, e => by simp only [List.getElem?_cons_succ] at e ⊢; exact r.get e
theorem RpL.getV : ∀ {ds : List PyData} {vs : List V} {i : Nat} {v : V}, RpL K G ds vs → vs[i]? = some v → ∃ d, ds[i]? = some d ∧ Rp K G d v
  | _, _, _, _, .nil, e => by simp at e
  | _, _, 0, _, .cons h _, e => by simp at e; subst e; exact ⟨_, rfl, h⟩
  | _, _, i + 1, _, .cons _ r, e => by simp only [List.getElem?_cons_succ] at e ⊢; exact r.getV e
end

/-! ### dicts in it -/
def RpD {κ : Type} (K : PySem.W.Frag) (G : Hp) (kvs : List (κ × PyData)) (ks : List (κ × V)) : Prop := Paired (fun p q => p.1 = q.1 ∧ Rp K G p.2 q.2) kvs ks
section
variable {K : PySem.W.Frag} {G G' : Hp} {κ : Type}
theorem Paired.mapI {α β : Type} {F F' : α → β → Prop} (f : ∀ a b, F a b → F' a b) : ∀ {l₁ : List α} {l₂ : List β}, Paired F l₁ l₂ → Paired F' l₁ l₂
  | _, _, .nil => .nil
  | _, _, .cons r t => .cons (f _ _ r) (Paired.mapI f t)
theorem RpD.mono (s : Same G G') {kvs : List (κ × PyData)} {ks : List (κ × V)} (h : RpD K G kvs ks) : RpD K G' kvs ks := Paired.mapI (fun _ _ x => ⟨x.1, x.2.mono s⟩) h
theorem RpD.look [DecidableEq κ] : ∀ {kvs : List (κ × PyData)} {ks : List (κ × V)} (k : κ), RpD K G kvs ks →
    (look kvs k = none ∧ valV ks k = none) ∨ ∃ d v, look kvs k = some d ∧ valV ks k = some v ∧ Rp K G d v
  | _, _, k, .nil => .inl ⟨rfl, rfl⟩
  | p :: l₁, q :: l₂, k, .cons r t => by
    by_cases e : p.1 = k
    · refine .inr ⟨p.2, q.2, ?_, ?_, r.2⟩
      · simp [Gl.look, List.find?_cons, e]
      · exact valV_pos (r.1 ▸ e)
    · have e' : ¬ q.1 = k := fun z => e (r.1.trans z)
      have h1 : Gl.look (p :: l₁) k = Gl.look l₁ k := by simp [Gl.look, List.find?_cons, e]
      rw [h1, valV_neg e']
      exact RpD.look k t
theorem RpD.keys : ∀ {kvs : List (κ × PyData)} {ks : List (κ × V)}, RpD K G kvs ks → kvs.map (·.1) = ks.map (·.1)
  | _, _, .nil => rfl
  | _, _, .cons r t => by rw [List.map_cons, List.map_cons, r.1, RpD.keys t]
theorem RpD.length {kvs : List (κ × PyData)} {ks : List (κ × V)} (h : RpD K G kvs ks) : kvs.length = ks.length := by
  have := congrArg List.length h.keys
  simpa using this
theorem RpD.of_zip : ∀ {ks : List (κ × V)} {ds : List PyData}, RpL K G ds (ks.map (·.2)) → RpD K G ((ks.map (·.1)).zip ds) ks
  | [], [], _ => .nil
  | [], _ :: _, h => nomatch h
  | _ :: _, [], h => nomatch h
  | k :: ks, d :: ds, h => by
    cases h with
    | cons h r => exact .cons ⟨rfl, h⟩ (RpD.of_zip r)
end

/-! ### own trees -/
def Sh (mg : Str → Option Value) (H : Hp) : Kind → Addr → List V → List Addr → Prop
  | .tup, a, vs, ex => H a = some (.tup vs) ∧ ex = []
  | .lst, a, vs, ex => H a = some (.lst vs) ∧ ex = []
  | .dK ks, a, vs, ex => (∃ kvs, H a = some (.dK kvs) ∧ kvs.map (·.1) = ks ∧ kvs.map (·.2) = vs) ∧ ex = []
  | .dT ks, a, vs, ex => (∃ kvs, H a = some (.dT kvs) ∧ kvs.map (·.1) = ks ∧ kvs.map (·.2) = vs) ∧ ex = []
  | .obj c fs, a, vs, ex => ∃ C dx, H a = some (.ins C dx (fs.zip vs)) ∧ fs.length = vs.length ∧ H dx = some (.own a) ∧ ex = [dx] ∧ mg c = some (.ref C)
/-- a tuple without references -/
def ScT (o : Option HO) : Prop := ∃ vs, o = some (.tup vs) ∧ ∀ v ∈ vs, ∀ a, v ≠ V.ref a
mutual
inductive Own (K : PySem.W.Frag) (mg : Str → Option Value) (G H : Hp) : T → V → List Addr → Prop
  | imm {d : PyData} {v : V} : Rp K G d v → Own K mg G H (.imm d) v []
  | fK {a : Addr} {kvs : List (Ky × PyData)} {ks : List (Ky × V)} : G a = some (.dK ks) → RpD K G kvs ks → Own K mg G H (.fK kvs) (.ref a) []
  | fT {a : Addr} {kvs : List (List Ky × PyData)} {ks : List (List Ky × V)} : G a = some (.dT ks) → RpD K G kvs ks → Own K mg G H (.fT kvs) (.ref a) []
  | scr {a : Addr} {ns : List Int} : SqL K G a (ns.map V.int) → Own K mg G H (.scr ns) (.ref a) []
  | exc {a : Addr} {c : Str} : Own K mg G H (.exc a c) (.ref a) []
  | node {k : Kind} {a : Addr} {ts : List T} {vs : List V} {ex f : List Addr} : Sh mg H k a vs ex → OwnL K mg G H ts vs f → (k = .tup → imms ts = none) → Own K mg G H (.node k ts) (.ref a) (a :: (ex ++ f))
  | pin {k : Kind} {a : Addr} {ts : List T} {f : List Addr} : Own K mg G H (.node k ts) (.ref a) f → Own K mg G H (.pin a k ts) (.ref a) f
inductive OwnL (K : PySem.W.Frag) (mg : Str → Option Value) (G H : Hp) : List T → List V → List Addr → Prop
  | nil : OwnL K mg G H [] [] []
  | cons {t : T} {v : V} {f : List Addr} {ts : List T} {vs : List V} {g : List Addr} : Own K mg G H t v f → OwnL K mg G H ts vs g → OwnL K mg G H (t :: ts) (v :: vs) (f ++ g)
end
section
variable {K : PySem.W.Frag} {mg : Str → Option Value} {G G' H H' : Hp}
theorem Sh.keep {k : Kind} {a : Addr} {vs : List V} {ex : List Addr} (x : Sh mg H k a vs ex) (h : ∀ b, b = a ∨ b ∈ ex → ∀ o, H b = some o → H' b = some o) : Sh mg H' k a vs ex := by
  cases k with
  | tup => exact ⟨h _ (.inl rfl) _ x.1, x.2⟩
  | lst => exact ⟨h _ (.inl rfl) _ x.1, x.2⟩
  | dK ks => obtain ⟨⟨kvs, e, r⟩, q⟩ := x; exact ⟨⟨kvs, h _ (.inl rfl) _ e, r⟩, q⟩
  | dT ks => obtain ⟨⟨kvs, e, r⟩, q⟩ := x; exact ⟨⟨kvs, h _ (.inl rfl) _ e, r⟩, q⟩
  | obj c fs =>
    obtain ⟨C, dx, e1, e2, e3, e4, e5⟩ := x
    exact ⟨C, dx, h _ (.inl rfl) _ e1, e2, h _ (.inr (by rw [e4]; exact List.mem_singleton.mpr rfl)) _ e3, e4, e5⟩
theorem Sh.dom {k : Kind} {a : Addr} {vs : List V} {ex : List Addr} (x : Sh mg H k a vs ex) : (∃ o, H a = some o) ∧ ∀ b ∈ ex, ∃ o, H b = some o := by
  cases k with
  | tup => exact ⟨⟨_, x.1⟩, by rw [x.2]; intro b hb; cases hb⟩
  | lst => exact ⟨⟨_, x.1⟩, by rw [x.2]; intro b hb; cases hb⟩
  | dK ks => obtain ⟨⟨kvs, e, r⟩, q⟩ := x; exact ⟨⟨_, e⟩, by rw [q]; intro b hb; cases hb⟩
  | dT ks => obtain ⟨⟨kvs, e, r⟩, q⟩ := x; exact ⟨⟨_, e⟩, by rw [q]; intro b hb; cases hb⟩
  | obj c fs =>
    obtain ⟨C, dx, e1, e2, e3, e4, e5⟩ := x
    refine ⟨⟨_, e1⟩, fun b hb => ?_⟩
    rw [e4] at hb
    exact ⟨_, by rw [List.mem_singleton.mp hb]; exact e3⟩
mutual
theorem Own.keep (s : Same G G') : ∀ {t : T} {v : V} {f : List Addr}, Own K mg G H t v f → (∀ b ∈ f, ∀ o, H b = some o → H' b = some o) → Own K mg G' H' t v f
  | _, _, _, .imm r, _ => .imm (r.mono s)
  | _, _, _, .fK e r, _ => .fK (s _ _ e) (r.mono s)
  | _, _, _, .fT e r, _ => .fT (s _ _ e) (r.mono s)
  | _, _, _, .scr h, _ => .scr (s.seq h)
  | _, _, _, .exc, _ => .exc
  | _, _, _, .pin o, h => .pin (Own.keep s o h)
  | _, _, _, .node x r it, h => .node (x.keep fun b hb => h b (by
      rcases hb with e | hb
      · rw [e]; exact List.mem_cons_self
      · exact List.mem_cons_of_mem _ (List.mem_append_left _ hb))) (OwnL.keep s r fun b hb => h b (List.mem_cons_of_mem _ (List.mem_append_right _ hb))) it
theorem OwnL.keep (s : Same G G') : ∀ {ts : List T} {vs : List V} {f : List Addr}, OwnL K mg G H ts vs f → (∀ b ∈ f, ∀ o, H b = some o → H' b = some o) → OwnL K mg G' H' ts vs f
  | _, _, _, .nil, _ => .nil
  | _, _, _, .cons r t, h => .cons (Own.keep s r fun b hb => h b (List.mem_append_left _ hb)) (OwnL.keep s t fun b hb => h b (List.mem_append_right _ hb))
end
mutual
theorem Own.dom : ∀ {t : T} {v : V} {f : List Addr}, Own K mg G H t v f → ∀ b ∈ f, ∃ o, H b = some o
  | _, _, _, .imm _, b, hb => nomatch hb
  | _, _, _, .fK _ _, b, hb => nomatch hb
  | _, _, _, .fT _ _, b, hb => nomatch hb
  | _, _, _, .scr _, b, hb => nomatch hb
  | _, _, _, .exc, b, hb => nomatch hb
  | _, _, _, .pin o, b, hb => Own.dom o b hb
  | _, _, _, .node x r _, b, hb => by
    rcases List.mem_cons.mp hb with e | hb
    · rw [e]; exact x.dom.1
    · rcases List.mem_append.mp hb with hb | hb
      · exact x.dom.2 b hb
      · exact OwnL.dom r b hb
theorem OwnL.dom : ∀ {ts : List T} {vs : List V} {f : List Addr}, OwnL K mg G H ts vs f → ∀ b ∈ f, ∃ o, H b = some o
  | _, _, _, .nil, b, hb => nomatch hb
  | _, _, _, .cons r t, b, hb => (List.mem_append.mp hb).elim (Own.dom r b) (OwnL.dom t b)
end
theorem Own.ref : ∀ {t : T} {v : V} {f : List Addr}, Own K mg G H t v f → (∀ d, t ≠ .imm d) → ∃ a, v = .ref a
  | _, _, _, .imm (d := d) _, h => absurd rfl (h d)
  | _, _, _, .fK _ _, _ => ⟨_, rfl⟩
  | _, _, _, .fT _ _, _ => ⟨_, rfl⟩
  | _, _, _, .scr _, _ => ⟨_, rfl⟩
  | _, _, _, .exc, _ => ⟨_, rfl⟩
  | _, _, _, .pin _, _ => ⟨_, rfl⟩
  | _, _, _, .node _ _ _, _ => ⟨_, rfl⟩
theorem OwnL.ref : ∀ {ts : List T} {vs : List V} {f : List Addr}, OwnL K mg G H ts vs f → imms ts = none → ∃ v ∈ vs, ∃ a, v = .ref a
  | _, _, _, .nil, e => by simp [imms] at e
  | _, _, _, .cons (t := t) (v := v) (ts := ts) r q, e => by
    by_cases ht : ∃ d, t = .imm d
    · obtain ⟨d, rfl⟩ := ht
      simp only [imms] at e
      cases h : imms ts with
      | some ds => rw [h] at e; cases e
      | none =>
        obtain ⟨w, hw, a, ha⟩ := OwnL.ref q h
        exact ⟨w, List.mem_cons_of_mem _ hw, a, ha⟩
    · obtain ⟨a, ha⟩ := r.ref fun d z => ht ⟨d, z⟩
      exact ⟨v, List.mem_cons_self, a, ha⟩
mutual
theorem Own.noSc : ∀ {t : T} {v : V} {f : List Addr}, Own K mg G H t v f → ∀ b ∈ f, ¬ ScT (H b)
  | _, _, _, .imm _, b, hb => nomatch hb
  | _, _, _, .fK _ _, b, hb => nomatch hb
  | _, _, _, .fT _ _, b, hb => nomatch hb
  | _, _, _, .scr _, b, hb => nomatch hb
  | _, _, _, .exc, b, hb => nomatch hb
  | _, _, _, .pin o, b, hb => Own.noSc o b hb
  | _, _, _, .node (k := k) x r it, b, hb => by
    rintro ⟨us, e, hs⟩
    rcases List.mem_cons.mp hb with z | hb
    · subst z
      cases k with
      | tup =>
        rw [x.1] at e
        cases e
        obtain ⟨w, hw, a, ha⟩ := r.ref (it rfl)
        exact hs w hw a ha
      | lst => rw [x.1] at e; cases e
      | dK ks => obtain ⟨⟨kvs, e1, _⟩, _⟩ := x; rw [e1] at e; cases e
      | dT ks => obtain ⟨⟨kvs, e1, _⟩, _⟩ := x; rw [e1] at e; cases e
      | obj c fs => obtain ⟨C, dx, e1, _⟩ := x; rw [e1] at e; cases e
    · rcases List.mem_append.mp hb with hb | hb
      · cases k with
        | obj c fs =>
          obtain ⟨C, dx, e1, e2, e3, e4, e5⟩ := x
          rw [e4] at hb
          rw [List.mem_singleton.mp hb, e3] at e
          cases e
        | tup => rw [x.2] at hb; cases hb
        | lst => rw [x.2] at hb; cases hb
        | dK ks => rw [x.2] at hb; cases hb
        | dT ks => rw [x.2] at hb; cases hb
      · exact OwnL.noSc r b hb ⟨us, e, hs⟩
theorem OwnL.noSc : ∀ {ts : List T} {vs : List V} {f : List Addr}, OwnL K mg G H ts vs f → ∀ b ∈ f, ¬ ScT (H b)
  | _, _, _, .nil, b, hb => nomatch hb
  | _, _, _, .cons r t, b, hb => (List.mem_append.mp hb).elim (Own.noSc r b) (OwnL.noSc t b)
end
theorem OwnL.length : ∀ {ts : List T} {vs : List V} {f : List Addr}, OwnL K mg G H ts vs f → ts.length = vs.length
  | _, _, _, .nil => rfl
  | _, _, _, .cons _ t => congrArg (· + 1) t.length
theorem OwnL.get : ∀ {ts : List T} {vs : List V} {f : List Addr} {i : Nat} {t : T}, OwnL K mg G H ts vs f → ts[i]? = some t → ∃ v g, vs[i]? = some v ∧ Own K mg G H t v g ∧ ∀ b ∈ g, b ∈ f
  | _, _, _, _, _, .nil, e => by simp at e
  | _, _, _, 0, _, .cons r _, e => by simp at e; subst e; exact ⟨_, _, rfl, r, fun b hb => List.mem_append_left _ hb⟩
  | _, _, _, i + 1, _, .cons _ t, e => by
    simp only [List.getElem?_cons_succ] at e ⊢
    obtain ⟨v, g, h1, h2, h3⟩ := t.get e
    exact ⟨v, g, h1, h2, fun b hb => List.mem_append_right _ (h3 b hb)⟩
theorem RpL.ints : ∀ ns : List Int, RpL K G (ns.map .int) (ns.map V.int)
  | [] => .nil
  | n :: ns => .cons (.int n) (RpL.ints ns)
theorem RpL.rp_ints : ∀ {ns : List Int} {vs : List V}, RpL K G (ns.map .int) vs → vs = ns.map V.int
  | [], _, .nil => rfl
  | n :: ns, _, .cons h r => by cases h; rw [RpL.rp_ints r]; rfl
/-- all items plain -/
theorem OwnL.imms : ∀ {ts : List T} {vs : List V} {f : List Addr} {ds : List PyData}, OwnL K mg G H ts vs f → imms ts = some ds → RpL K G ds vs ∧ f = []
  | _, _, _, _, .nil, e => by simp [Gl.imms] at e; subst e; exact ⟨.nil, rfl⟩
  | _, _, _, _, .cons (t := t) (ts := ts) r q, e => by
    cases t with
    | imm d =>
      simp only [Gl.imms] at e
      cases h : Gl.imms ts with
      | none => rw [h] at e; cases e
      | some es =>
        rw [h] at e
        cases e
        obtain ⟨q1, q2⟩ := q.imms h
        cases r with
        | imm r => exact ⟨.cons r q1, by rw [q2] <;> rfl⟩
    | _ => simp [Gl.imms] at e
theorem OwnL.ofImms : ∀ {ds : List PyData} {vs : List V}, RpL K G ds vs → OwnL K mg G H (ds.map .imm) vs []
  | _, _, .nil => .nil
  | _, _, .cons h r => .cons (f := []) (.imm h) (OwnL.ofImms r)
theorem imms_map : ∀ ds : List PyData, imms (ds.map .imm) = some ds
  | [] => rfl
  | d :: ds => by simp [imms, imms_map ds]
mutual
theorem Own.dat (s : Same G H) : ∀ {t : T} {v : V} {f : List Addr} {d : PyData}, Own K mg G H t v f → t.dat = some d → Dp K H v d
  | _, _, _, _, .imm r, e => by simp [T.dat] at e; subst e; exact (r.mono s).dp
  | _, _, _, _, .fK _ _, e => by simp [T.dat] at e
  | _, _, _, _, .fT _ _, e => by simp [T.dat] at e
  | _, _, _, _, .exc, e => by simp [T.dat] at e
  | _, _, _, _, .pin _, e => by simp [T.dat] at e
  | _, _, _, _, .scr (ns := ns) h, e => by simp only [T.dat, Option.some.injEq] at e; subst e; exact .lst (s.seq h) (RpL.ints ns).dp
  | _, _, _, _, .node (k := k) (ts := ts) x r _, e => by
    cases k with
    | tup =>
      simp only [T.dat] at e
      cases h : datL ts with
      | none => rw [h] at e; cases e
      | some ds => rw [h] at e; cases e; exact .tup (SqT.of x.1) (OwnL.dat s r h)
    | lst =>
      simp only [T.dat] at e
      cases h : datL ts with
      | none => rw [h] at e; cases e
      | some ds => rw [h] at e; cases e; exact .lst (SqL.of x.1) (OwnL.dat s r h)
    | _ => simp [T.dat] at e
theorem OwnL.dat (s : Same G H) : ∀ {ts : List T} {vs : List V} {f : List Addr} {ds : List PyData}, OwnL K mg G H ts vs f → datL ts = some ds → DpAll K H vs ds
  | _, _, _, _, .nil, e => by simp [datL] at e; subst e; exact .nil
  | _, _, _, _, .cons (t := t) (ts := ts) r q, e => by
    simp only [datL] at e
    cases h1 : t.dat with
    | none => rw [h1] at e; cases e
    | some d =>
      cases h2 : datL ts with
      | none => rw [h1, h2] at e; cases e
      | some es => rw [h1, h2] at e; cases e; exact .cons (Own.dat s r h1) (OwnL.dat s q h2)
end
theorem Own.kids (s : Same G H) {t : T} {v : V} {f : List Addr} {b : Bool} {ds : List PyData} (o : Own K mg G H t v f) (e : t.kids = some (b, ds)) :
    ∃ a xs, v = .ref a ∧ (if b = true then SqL K H a xs else H a = some (.tup xs)) ∧ RpL K G ds xs := by
  cases o with
  | imm r =>
    cases r with
    | lst h r => simp [T.kids] at e; obtain ⟨rfl, rfl⟩ := e; exact ⟨_, _, rfl, SqL.of (s _ _ h), r⟩
    | tup h r => simp [T.kids] at e; obtain ⟨rfl, rfl⟩ := e; exact ⟨_, _, rfl, s _ _ h, r⟩
    | _ => simp [T.kids] at e
  | fK _ _ => simp [T.kids] at e
  | fT _ _ => simp [T.kids] at e
  | exc => simp [T.kids] at e
  | pin _ => simp [T.kids] at e
  | scr h => simp only [T.kids, Option.some.injEq, Prod.mk.injEq] at e; obtain ⟨rfl, rfl⟩ := e; exact ⟨_, _, rfl, s.seq h, RpL.ints _⟩
  | node x r it =>
    rename_i k a ts vs ex f
    cases k with
    | lst =>
      simp only [T.kids] at e
      cases h : imms ts with
      | none => rw [h] at e; cases e
      | some es => rw [h] at e; cases e; exact ⟨_, _, rfl, SqL.of x.1, (r.imms h).1⟩
    | _ => simp [T.kids] at e
/-- .. a list of ours -/
theorem Own.kidsS (s : Same G H) {t : T} {v : V} {f : List Addr} {b : Bool} {ds : List PyData} (o : Own K mg G H t v f) (e : t.kids = some (b, ds)) (n : t.isScr = false) :
    ∃ a xs, v = .ref a ∧ (if b = true then H a = some (.lst xs) else H a = some (.tup xs)) ∧ RpL K G ds xs := by
  cases o with
  | imm r =>
    cases r with
    | lst h r => simp [T.kids] at e; obtain ⟨rfl, rfl⟩ := e; exact ⟨_, _, rfl, s _ _ h, r⟩
    | tup h r => simp [T.kids] at e; obtain ⟨rfl, rfl⟩ := e; exact ⟨_, _, rfl, s _ _ h, r⟩
    | _ => simp [T.kids] at e
  | fK _ _ => simp [T.kids] at e
  | fT _ _ => simp [T.kids] at e
  | exc => simp [T.kids] at e
  | pin _ => simp [T.kids] at e
  | scr h => exact absurd n Bool.noConfusion
  | node x r it =>
    rename_i k a ts vs ex f
    cases k with
    | lst =>
      simp only [T.kids] at e
      cases h : imms ts with
      | none => rw [h] at e; cases e
      | some es => rw [h] at e; cases e; exact ⟨_, _, rfl, x.1, (r.imms h).1⟩
    | _ => simp [T.kids] at e
theorem Own.dkv (s : Same G H) {t : T} {v : V} {f : List Addr} {kvs : List (Ky × PyData)} (o : Own K mg G H t v f) (e : t.dkv = some kvs) :
    ∃ a ks, v = .ref a ∧ H a = some (.dK ks) ∧ RpD K G kvs ks := by
  cases o with
  | imm r => simp [T.dkv] at e
  | fK h r => simp [T.dkv] at e; subst e; exact ⟨_, _, rfl, s _ _ h, r⟩
  | fT h r => simp [T.dkv] at e
  | scr h => simp [T.dkv] at e
  | exc => simp [T.dkv] at e
  | pin _ => simp [T.dkv] at e
  | node x r it =>
    rename_i k a ts vs ex f
    cases k with
    | dK ks =>
      simp only [T.dkv] at e
      cases h : imms ts with
      | none => rw [h] at e; cases e
      | some es =>
        rw [h] at e; cases e
        obtain ⟨⟨kv, e1, e2, e3⟩, _⟩ := x
        refine ⟨_, kv, rfl, e1, ?_⟩
        rw [← e2]
        exact RpD.of_zip (e3 ▸ (r.imms h).1)
    | _ => simp [T.dkv] at e
theorem Own.dtv (s : Same G H) {t : T} {v : V} {f : List Addr} {kvs : List (List Ky × PyData)} (o : Own K mg G H t v f) (e : t.dtv = some kvs) :
    ∃ a ks, v = .ref a ∧ H a = some (.dT ks) ∧ RpD K G kvs ks := by
  cases o with
  | imm r => simp [T.dtv] at e
  | fK h r => simp [T.dtv] at e
  | fT h r => simp [T.dtv] at e; subst e; exact ⟨_, _, rfl, s _ _ h, r⟩
  | scr h => simp [T.dtv] at e
  | exc => simp [T.dtv] at e
  | pin _ => simp [T.dtv] at e
  | node x r it =>
    rename_i k a ts vs ex f
    cases k with
    | dT ks =>
      simp only [T.dtv] at e
      cases h : imms ts with
      | none => rw [h] at e; cases e
      | some es =>
        rw [h] at e; cases e
        obtain ⟨⟨kv, e1, e2, e3⟩, _⟩ := x
        refine ⟨_, kv, rfl, e1, ?_⟩
        rw [← e2]
        exact RpD.of_zip (e3 ▸ (r.imms h).1)
    | _ => simp [T.dtv] at e
end

/-! ### freezing -/
/-- what is frozen: G, and H at f -/
def frz (G H : Hp) (f : List Addr) : Hp := fun b => if b ∈ f then H b else G b
section
variable {K : PySem.W.Frag} {mg : Str → Option Value} {G G' H H' : Hp}
theorem frz_same {f : List Addr} (h : ∀ b ∈ f, G b = none) : Same G (frz G H f) := fun b o e => by
  unfold frz
  by_cases hb : b ∈ f
  · rw [h b hb] at e; cases e
  · rw [if_neg hb]; exact e
theorem frz_le {f : List Addr} (s : Same G H) : Same (frz G H f) H := fun b o e => by
  unfold frz at e
  by_cases hb : b ∈ f
  · rw [if_pos hb] at e; exact e
  · rw [if_neg hb] at e; exact s b o e
theorem frz_at {f : List Addr} {b : Addr} (hb : b ∈ f) : frz G H f b = H b := by unfold frz; rw [if_pos hb]
theorem frz_out {f : List Addr} {b : Addr} (hb : b ∉ f) : frz G H f b = G b := by unfold frz; rw [if_neg hb]
mutual
theorem Own.frd (s : Same G G') : ∀ {t : T} {v : V} {f : List Addr} {d : PyData}, Own K mg G H t v f → (∀ b ∈ f, ∀ o, H b = some o → G' b = some o) → t.fdat = some d → Rp K G' d v
  | _, _, _, _, .imm r, _, e => by simp [T.fdat] at e; subst e; exact r.mono s
  | _, _, _, _, .fK _ _, _, e => by simp [T.fdat] at e
  | _, _, _, _, .fT _ _, _, e => by simp [T.fdat] at e
  | _, _, _, _, .scr _, _, e => by simp [T.fdat] at e
  | _, _, _, _, .exc, _, e => by simp [T.fdat] at e
  | _, _, _, _, .pin _, _, e => by simp [T.fdat] at e
  | _, _, _, _, .node (k := k) (ts := ts) x r _, h, e => by
    cases k with
    | tup =>
      simp only [T.fdat] at e
      cases q : fdatL ts with
      | none => rw [q] at e; cases e
      | some ds => rw [q] at e; cases e; exact .tup (h _ List.mem_cons_self _ x.1) (OwnL.frd s r (fun b hb => h b (List.mem_cons_of_mem _ (List.mem_append_right _ hb))) q)
    | lst =>
      simp only [T.fdat] at e
      cases q : fdatL ts with
      | none => rw [q] at e; cases e
      | some ds => rw [q] at e; cases e; exact .lst (h _ List.mem_cons_self _ x.1) (OwnL.frd s r (fun b hb => h b (List.mem_cons_of_mem _ (List.mem_append_right _ hb))) q)
    | _ => simp [T.fdat] at e
theorem OwnL.frd (s : Same G G') : ∀ {ts : List T} {vs : List V} {f : List Addr} {ds : List PyData}, OwnL K mg G H ts vs f → (∀ b ∈ f, ∀ o, H b = some o → G' b = some o) → fdatL ts = some ds → RpL K G' ds vs
  | _, _, _, _, .nil, _, e => by simp [fdatL] at e; subst e; exact .nil
  | _, _, _, _, .cons (t := t) (ts := ts) r q, h, e => by
    simp only [fdatL] at e
    cases h1 : t.fdat with
    | none => rw [h1] at e; cases e
    | some d =>
      cases h2 : fdatL ts with
      | none => rw [h1, h2] at e; cases e
      | some es => rw [h1, h2] at e; cases e; exact .cons (Own.frd s r (fun b hb => h b (List.mem_append_left _ hb)) h1) (OwnL.frd s q (fun b hb => h b (List.mem_append_right _ hb)) h2)
end
/-- as plain data, frozen -/
theorem Own.fr (s : Same G G') {t t' : T} {v : V} {f : List Addr} (o : Own K mg G H t v f) (h : ∀ b ∈ f, ∀ o, H b = some o → G' b = some o) (e : t.fr = some t') : Own K mg G' H' t' v [] := by
  cases o with
  | imm r => simp [T.fr] at e; subst e; exact .imm (r.mono s)
  | fK q r => simp [T.fr] at e; subst e; exact .fK (s _ _ q) (r.mono s)
  | fT q r => simp [T.fr] at e; subst e; exact .fT (s _ _ q) (r.mono s)
  | scr q => simp [T.fr] at e; subst e; exact .scr (s.seq q)
  | exc => simp [T.fr] at e; subst e; exact .exc
  | pin _ => simp [T.fr] at e
  | node x r it =>
    rename_i k a ts vs ex f
    cases k with
    | tup =>
      simp only [T.fr] at e
      cases q : fdatL ts with
      | none => rw [q] at e; cases e
      | some ds => rw [q] at e; cases e; exact .imm (.tup (h _ List.mem_cons_self _ x.1) (OwnL.frd s r (fun b hb => h b (List.mem_cons_of_mem _ (List.mem_append_right _ hb))) q))
    | lst =>
      simp only [T.fr] at e
      cases q : fdatL ts with
      | none => rw [q] at e; cases e
      | some ds => rw [q] at e; cases e; exact .imm (.lst (h _ List.mem_cons_self _ x.1) (OwnL.frd s r (fun b hb => h b (List.mem_cons_of_mem _ (List.mem_append_right _ hb))) q))
    | dK ks =>
      simp only [T.fr] at e
      cases q : imms ts with
      | none => rw [q] at e; cases e
      | some ds =>
        rw [q] at e; cases e
        obtain ⟨⟨kv, e1, e2, e3⟩, _⟩ := x
        refine .fK (h _ List.mem_cons_self _ e1) ?_
        rw [← e2]
        exact RpD.of_zip (e3 ▸ ((r.imms q).1.mono s))
    | dT ks =>
      simp only [T.fr] at e
      cases q : imms ts with
      | none => rw [q] at e; cases e
      | some ds =>
        rw [q] at e; cases e
        obtain ⟨⟨kv, e1, e2, e3⟩, _⟩ := x
        refine .fT (h _ List.mem_cons_self _ e1) ?_
        rw [← e2]
        exact RpD.of_zip (e3 ▸ ((r.imms q).1.mono s))
    | _ => simp [T.fr] at e
theorem Own.plain {t : T} {v : V} {f : List Addr} (o : Own K mg G H t v f) (e : t.plain = true) : f = [] ∧ t.fr = some t := by
  cases o with
  | imm r => exact ⟨rfl, rfl⟩
  | fK q r => exact ⟨rfl, rfl⟩
  | fT q r => exact ⟨rfl, rfl⟩
  | scr q => exact ⟨rfl, rfl⟩
  | exc => exact ⟨rfl, rfl⟩
  | pin _ => simp [T.plain] at e
  | node x r it => simp [T.plain] at e
end

/-! ### the state -/
/-- over the entry (G0, H0): the slots ρ lie at σ in H; G is the part that no one changes, F each slot's own objects -/
structure RelG (K : PySem.W.Frag) (mg : Str → Option Value) (G0 H0 : Hp) (G : Hp) (F : Nat → List Addr) (ρ : Env) (σ : St) (H : Hp) : Prop where
  own : ∀ i t, ρ[i]? = some (some t) → ∃ v, σ[i]? = some (some v) ∧ Own K mg G H t v (F i)
  nd : ∀ i t, ρ[i]? = some (some t) → (F i).Nodup
  free : ∀ i t, ρ[i]? = some (some t) → ∀ b ∈ F i, G b = none ∧ H0 b = none
  apart : ∀ i j t u, i ≠ j → ρ[i]? = some (some t) → ρ[j]? = some (some u) → ∀ b ∈ F i, b ∉ F j
  gh : Same G H
  g0 : Same G0 G
  gx : ∀ b, G0 b = none → H0 b ≠ none → G b = none ∨ ScT (H0 b)
  h0 : Same H0 H
def Rel (K : PySem.W.Frag) (mg : Str → Option Value) (G0 H0 : Hp) (ρ : Env) (σ : St) (H : Hp) : Prop := ∃ G F, RelG K mg G0 H0 G F ρ σ H
section
variable {K : PySem.W.Frag} {mg : Str → Option Value} {G0 H0 G G' H H' : Hp} {F : Nat → List Addr} {ρ : Env} {σ : St}
/-- fewer slots known -/
theorem RelG.weak {ρ' : Env} {σ' : St} (R : RelG K mg G0 H0 G F ρ σ H) (h : ∀ (i : Nat) (t : T), ρ'[i]? = some (some t) → ρ[i]? = some (some t) ∧ σ'[i]? = σ[i]?) : RelG K mg G0 H0 G F ρ' σ' H :=
  ⟨fun i t e => let ⟨e1, e2⟩ := h i t e; let ⟨v, q, o⟩ := R.own i t e1; ⟨v, e2.trans q, o⟩, fun i t e => R.nd i t (h i t e).1, fun i t e => R.free i t (h i t e).1,
    fun i j t u n e1 e2 => R.apart i j t u n (h i t e1).1 (h j u e2).1, R.gh, R.g0, R.gx, R.h0⟩
theorem Rel.weak {ρ' : Env} {σ' : St} (R : Rel K mg G0 H0 ρ σ H) (h : ∀ (i : Nat) (t : T), ρ'[i]? = some (some t) → ρ[i]? = some (some t) ∧ σ'[i]? = σ[i]?) : Rel K mg G0 H0 ρ' σ' H :=
  let ⟨G, F, r⟩ := R; ⟨G, F, r.weak h⟩
/-- the heap grows, the unchanging part too, by what is new -/
theorem RelG.grow (R : RelG K mg G0 H0 G F ρ σ H) (s : Same H H') (g : Same G G') (gh : Same G' H') (gx : ∀ b, G b = none → H b ≠ none → G' b = none ∨ ScT (H b)) : RelG K mg G0 H0 G' F ρ σ H' := by
  have fr : ∀ i t, ρ[i]? = some (some t) → ∀ b ∈ F i, G' b = none := fun i t e b hb => by
    obtain ⟨v, _, o⟩ := R.own i t e
    obtain ⟨ob, q⟩ := o.dom b hb
    exact (gx b (R.free i t e b hb).1 (by rw [q]; exact fun z => by cases z)).resolve_right (o.noSc b hb)
  refine ⟨fun i t e => ?_, R.nd, fun i t e b hb => ⟨fr i t e b hb, (R.free i t e b hb).2⟩, R.apart, gh, R.g0.trans g, fun b h1 h2 => ?_, R.h0.trans s⟩
  · obtain ⟨v, q, o⟩ := R.own i t e
    exact ⟨v, q, o.keep g fun b _ ob hb => s b ob hb⟩
  · cases q : H0 b with
    | none => exact absurd q h2
    | some o =>
      have qh := R.h0 b o q
      rcases R.gx b h1 h2 with h3 | h3
      · have := gx b h3 (by rw [qh]; exact fun z => by cases z)
        rwa [qh] at this
      · exact .inr (by rwa [q] at h3)
/-- a new value behind all others -/
theorem RelG.push {t : T} {v : V} {f : List Addr} (R : RelG K mg G0 H0 G F ρ σ H) (hl : ρ.length = σ.length) (s : Same H H') (g : Same G G') (gh : Same G' H') (gx : ∀ b, G b = none → H b ≠ none → G' b = none ∨ ScT (H b))
    (o : Own K mg G' H' t v f) (nd : f.Nodup) (fr : ∀ b ∈ f, G' b = none ∧ H b = none) : Rel K mg G0 H0 (ρ ++ [some t]) (σ ++ [some v]) H' := by
  have R' := R.grow s g gh gx
  have nf : ∀ i u, ρ[i]? = some (some u) → ∀ b ∈ F i, b ∉ f := fun i u e b hb z => by
    obtain ⟨w, _, ow⟩ := R.own i u e
    obtain ⟨ob, q⟩ := ow.dom b hb
    rw [(fr b z).2] at q; cases q
  have nH0 : ∀ b ∈ f, H0 b = none := fun b hb => by
    cases q : H0 b with
    | none => rfl
    | some ob => have := (fr b hb).2; rw [R.h0 b ob q] at this; cases this
  have old : ∀ {i : Nat} {u : T}, (ρ ++ [some t])[i]? = some (some u) → i ≠ ρ.length → ρ[i]? = some (some u) ∧ (σ ++ [some v])[i]? = σ[i]? := fun {i u} e n => by
    have hi : i < ρ.length := by
      have := (List.getElem?_eq_some_iff.mp e).1
      simp at this
      omega
    refine ⟨by rwa [List.getElem?_append_left hi] at e, by rw [List.getElem?_append_left (by omega)]⟩
  refine ⟨G', fun i => if i = ρ.length then f else F i, fun i u e => ?_, fun i u e => ?_, fun i u e b hb => ?_, fun i j u w n e1 e2 b hb => ?_, R'.gh, R'.g0, R'.gx, R'.h0⟩
  · by_cases hi : i = ρ.length
    · subst hi
      simp at e
      subst e
      refine ⟨v, by rw [hl]; simp, by simpa using o⟩
    · obtain ⟨e1, e2⟩ := old e hi
      obtain ⟨w, q, ow⟩ := R'.own i u e1
      exact ⟨w, e2.trans q, by simpa [hi] using ow⟩
  · by_cases hi : i = ρ.length
    · simpa [hi] using nd
    · simpa [hi] using R'.nd i u (old e hi).1
  · by_cases hi : i = ρ.length
    · simp only [hi, if_true] at hb
      exact ⟨(fr b hb).1, nH0 b hb⟩
    · simp only [hi, if_false] at hb
      exact R'.free i u (old e hi).1 b hb
  · by_cases hi : i = ρ.length
    · by_cases hj : j = ρ.length
      · exact absurd (hi.trans hj.symm) n
      · simp only [hi, if_true] at hb
        simp only [hj, if_false]
        exact fun z => nf j w (old e2 hj).1 b z hb
    · by_cases hj : j = ρ.length
      · simp only [hi, if_false] at hb
        simp only [hj, if_true]
        exact nf i u (old e1 hi).1 b hb
      · simp only [hi, if_false] at hb
        simp only [hj, if_false]
        exact R'.apart i j u w n (old e1 hi).1 (old e2 hj).1 b hb
/-- a scalar, a plain value: nothing is laid -/
theorem RelG.pushI {d : PyData} {v : V} (R : RelG K mg G0 H0 G F ρ σ H) (hl : ρ.length = σ.length) (o : Rp K G d v) : Rel K mg G0 H0 (ρ ++ [some (.imm d)]) (σ ++ [some v]) H :=
  R.push hl (Same.refl H) (Same.refl G) R.gh (fun b h _ => .inl h) (.imm o) List.nodup_nil (fun b hb => nomatch hb)
theorem same_upd {H : Hp} {p : Addr} {o : HO} (h : H p = none) : Same H (upd H p o) := fun b x e => by rw [upd_ne (ne_of_none e h)]; exact e
/-- a new node of one's own -/
theorem RelG.pushN {k : Kind} {p : Addr} {ob : HO} {ts : List T} {vs : List V} (R : RelG K mg G0 H0 G F ρ σ H) (hl : ρ.length = σ.length) (hp : H p = none) (x : Sh mg (upd H p ob) k p vs []) (r : OwnL K mg G H ts vs []) (it : k = .tup → imms ts = none := by intro z; cases z) :
    Rel K mg G0 H0 (ρ ++ [some (.node k ts)]) (σ ++ [some (.ref p)]) (upd H p ob) := by
  have gp : G p = none := by
    cases q : G p with
    | none => rfl
    | some o => rw [R.gh p o q] at hp; cases hp
  refine R.push (f := [p]) hl (same_upd hp) (Same.refl G) (R.gh.trans (same_upd hp)) (fun b h _ => .inl h) ?_ (by simp) fun b hb => ?_
  · exact .node (ex := []) (f := []) x (r.keep (Same.refl G) fun b hb => nomatch hb) it
  · rw [List.mem_singleton.mp hb]
    exact ⟨gp, hp⟩
/-- a new tuple of plain items -/
theorem RelG.pushT {p : Addr} {ds : List PyData} {vs : List V} (R : RelG K mg G0 H0 G F ρ σ H) (hl : ρ.length = σ.length) (hp : H p = none) (r : RpL K G ds vs) :
    Rel K mg G0 H0 (ρ ++ [some (.imm (.tuple ds))]) (σ ++ [some (.ref p)]) (upd H p (.tup vs)) := by
  have gp : G p = none := by
    cases q : G p with
    | none => rfl
    | some o => rw [R.gh p o q] at hp; cases hp
  refine R.push (f := []) (G' := upd G p (.tup vs)) hl (same_upd hp) (same_upd gp) (fun b o e => ?_) (fun b h1 h2 => ?_) (.imm (.tup upd_same (r.mono (same_upd gp)))) List.nodup_nil fun b hb => nomatch hb
  · by_cases hb : b = p
    · subst hb; rw [upd_same] at e ⊢; exact e
    · rw [upd_ne hb] at e ⊢; exact R.gh b o e
  · have hb : b ≠ p := fun z => h2 (z ▸ hp)
    rw [upd_ne hb]; exact .inl h1
theorem Rel.slot {i : Nat} {t : T} (R : Rel K mg G0 H0 ρ σ H) (e : ρ[i]? = some (some t)) : ∃ v, σ[i]? = some (some v) := let ⟨_, _, r⟩ := R; let ⟨v, q, _⟩ := r.own i t e; ⟨v, q⟩
end
end Gl

set_option Elab.async false
set_option linter.all false
set_option maxRecDepth 100000
set_option maxHeartbeats 1000000
/-! GlC: the operations, by values. -/
namespace Gl
open PySem L2

/-- what is wanted of a new value t behind all slots -/
def Nw (K : PySem.W.Frag) (mg : Str → Option Value) (G0 H0 : Hp) (ρ : Env) (σ : St) (H : Hp) (t : T) (Q : VK) : Prop :=
  ∀ v H', Rel K mg G0 H0 (ρ ++ [some t]) (σ ++ [some v]) H' → Same H H' → Q v H'

section
variable {K : PySem.W.Frag} {mg : Str → Option Value} {G0 H0 G H : Hp} {F : Nat → List Addr} {ρ : Env} {σ : St} {Q : VK} {t ta tb : T} {va vb : V} {fa fb : List Addr}

theorem RelG.newI (R : RelG K mg G0 H0 G F ρ σ H) (hl : ρ.length = σ.length) {d : PyData} {v : V} (o : Rp K G d v) (q : Nw K mg G0 H0 ρ σ H (.imm d) Q) : Q v H := q v H (R.pushI hl o) (Same.refl H)
theorem RelG.newL (R : RelG K mg G0 H0 G F ρ σ H) (hl : ρ.length = σ.length) {ds : List PyData} {vs : List V} (o : RpL K G ds vs) (q : Nw K mg G0 H0 ρ σ H (.L ds) Q) {p : Addr} (hp : H p = none) : Q (.ref p) (upd H p (.lst vs)) :=
  q _ _ (R.pushN (k := .lst) (ts := ds.map .imm) hl hp (show _ ∧ _ from ⟨upd_same, rfl⟩) (OwnL.ofImms o)) (same_upd hp)
theorem RelG.newT (R : RelG K mg G0 H0 G F ρ σ H) (hl : ρ.length = σ.length) {ds : List PyData} {vs : List V} (o : RpL K G ds vs) (q : Nw K mg G0 H0 ρ σ H (.imm (.tuple ds)) Q) {p : Addr} (hp : H p = none) : Q (.ref p) (upd H p (.tup vs)) :=
  q _ _ (R.pushT hl hp o) (same_upd hp)

/-! ### two-place operators -/
abbrev rAddS : R2 := fun x y H Q => ∃ i j, x = .str i ∧ y = .str j ∧ i.length + j.length ≤ sizeLine ∧ Q (.str (i ++ j)) H
/-- a text so many times -/
def rMulS : R2 := fun x y H Q => ∃ (z : Str) (k : Int), x = .str z ∧ y = .int k ∧ k.natAbs ≤ 1000000 ∧ z.length * k.toNat ≤ 10000000 ∧ Q (.str ⟨(List.replicate k.toNat z.cps.toList).flatten.toArray⟩) H
theorem foldl_app (x : Array Nat) : ∀ (m : Nat) (acc : Array Nat), (List.replicate m x).foldl (· ++ ·) acc = acc ++ (List.replicate m x.toList).flatten.toArray
  | 0, acc => by simp
  | m + 1, acc => by
    rw [List.replicate_succ, List.foldl_cons, foldl_app x m, List.replicate_succ, List.flatten_cons]
    apply Array.toList_inj.mp
    simp
theorem op_mulS {X : Cx} : OpR X (binaryOp .Mult) rMulS := by
  intro pins s σ H x y v u Q I rx ry h
  obtain ⟨z, k, rfl, rfl, h1, h2, q⟩ := h
  obtain ⟨t, rfl⟩ := rx
  obtain ⟨t2, rfl⟩ := ry
  have sl : ∀ n : Nat, n ≤ 10000000 → Builtin.Str.tooLong n = false := fun n hn => by
    unfold Builtin.Str.tooLong
    have : (sizeLine : Nat) = 16777216 := by decide
    simp
    omega
  have e : (⟨(List.replicate k.toNat z.cps).foldl (· ++ ·) #[]⟩ : Str) = ⟨(List.replicate k.toNat z.cps.toList).flatten.toArray⟩ := by
    rw [foldl_app]; simp
  have hlen : (⟨(List.replicate k.toNat z.cps.toList).flatten.toArray⟩ : Str).length = k.toNat * z.length := by
    show (List.replicate k.toNat z.cps.toList).flatten.toArray.size = _
    rw [List.size_toArray, PyProof.Rows.lm_len_rep_flat]
    simp [Str.length]
  refine PySem.P.mul_str ?_ (fun hn _ => ?_) (fun hn _ => ?_) ?_
  · have a1 : ¬ k < -(2 ^ 63 : Int) := by omega
    have a2 : ¬ k ≥ 2 ^ 63 := by omega
    rw [decide_eq_false a1, decide_eq_false a2]; rfl
  · have hk : 0 < k := by omega
    have : z.length ≤ 10000000 := by
      have := Nat.le_mul_of_pos_right z.length (show 0 < k.toNat by omega)
      omega
    have h3 : (10000000 : Int) ≤ (2 ^ 63 - 1) / k := by
      rw [Int.le_ediv_iff_mul_le hk]
      omega
    omega
  · exact sl _ h2
  · have fin : ∀ {w : Str} {tk : Tok} {t' : Nat}, w = ⟨(List.replicate k.toNat z.cps.toList).flatten.toArray⟩ → EP X pins σ Q (.str w tk) { s with toks := t' } := fun {w tk t'} e => by
      subst e
      exact ⟨V.str ⟨(List.replicate k.toNat z.cps.toList).flatten.toArray⟩, H, I.kept (t' := t') fun _ _ z => z, ⟨_, rfl⟩, q⟩
    split
    · next hk =>
      have e0 : k.toNat = 0 := by omega
      exact ⟨by decide, fin (by rw [e0]; rfl)⟩
    · next hk =>
      split
      · next h3 =>
        refine fin ?_
        rw [Bool.or_eq_true, beq_iff_eq, beq_iff_eq] at h3
        rcases h3 with h3 | h3
        · subst h3
          simp [List.replicate]
        · have : z.cps.toList = [] := by
            have h3 : z.cps.size = 0 := h3
            rw [← Array.length_toList] at h3
            exact List.eq_nil_of_length_eq_zero h3
          rw [this]
          obtain ⟨c⟩ := z
          have hc : c = #[] := Array.toList_inj.mp this
          subst hc
          simp
      · rw [e]
        refine ⟨?_, fin rfl⟩
        rw [hlen]
        have : (sizeLine : Nat) = 16777216 := by decide
        rw [Nat.mul_comm]; omega
def rBin (K : PySem.W.Frag) : Operator → R2
  | .Add => fun x y H Q => (rI0 (fun i j => .int (i + j)) x y H Q ∨ rAddS x y H Q) ∨ (rCat x y H Q ∨ rCatA K x y H Q)
  | .Sub => rI0 fun i j => .int (i - j)
  | .Mult => fun x y H Q => rI CMul (fun i j => .int (i * j)) x y H Q ∨ (rRep x y H Q ∨ rMulS x y H Q)
  | .FloorDiv => rI CDiv fun i j => .int (i / j)
  | .Mod => rI (fun _ j => 0 < j) fun i j => .int (i % j)
  | .Pow => rI CPow fun i j => .int (i ^ j.toNat)
  | _ => fun _ _ _ _ => False
theorem op_never {X : Cx} {f : Value → Value → Sem Value} : OpR X f (fun _ _ _ _ => False) := fun _ _ _ _ _ _ _ _ _ _ _ _ h => h.elim
theorem op_bin {X : Cx} : ∀ op, OpR X (binaryOp op) (rBin X.K op)
  | .Add => (op_add.or op_add_str).or (op_cat.or op_catA)
  | .Sub => op_sub
  | .Mult => op_mul.or (op_rep.or op_mulS)
  | .FloorDiv => op_fdiv
  | .Mod => op_mod
  | .Pow => op_pow
  | .MatMult => op_never
  | .Div => op_never
  | .LShift => op_never
  | .RShift => op_never
  | .BitOr => op_never
  | .BitXor => op_never
  | .BitAnd => op_never
theorem Own.int {i : Int} {v : V} {f : List Addr} (o : Own K mg G H (.imm (.int i)) v f) : v = .int i := by cases o with | imm r => cases r; rfl
theorem Own.str {x : Str} {v : V} {f : List Addr} (o : Own K mg G H (.imm (.str x)) v f) : v = .str x := by cases o with | imm r => cases r; rfl
theorem Own.bl {b : Bool} {v : V} {f : List Addr} (o : Own K mg G H (.imm (.bool b)) v f) : v = .bl b := by cases o with | imm r => cases r; rfl
theorem Own.non {v : V} {f : List Addr} (o : Own K mg G H (.imm .none) v f) : v = .non := by cases o with | imm r => cases r; rfl
theorem Own.rp {d : PyData} {v : V} {f : List Addr} (o : Own K mg G H (.imm d) v f) : Rp K G d v := by cases o with | imm r => exact r
theorem intOp_ok {op : Operator} {i j k : Int} (e : intOp op i j = some k) {H : Hp} (q : Q (.int k) H) : rBin K op (.int i) (.int j) H Q := by
  cases op <;> simp only [intOp] at e
  case Add => cases e; exact .inl (.inl ⟨i, j, rfl, rfl, q⟩)
  case Sub => cases e; exact ⟨i, j, rfl, rfl, q⟩
  case Mult =>
    split at e
    · next h => cases e; exact .inl ⟨i, j, rfl, rfl, (show CMul i j by unfold CMul; omega), q⟩
    · cases e
  case FloorDiv =>
    split at e
    · next h => cases e; exact ⟨i, j, rfl, rfl, (show CDiv i j by unfold CDiv; omega), q⟩
    · cases e
  case Mod =>
    split at e
    · next h => cases e; exact ⟨i, j, rfl, rfl, h, q⟩
    · cases e
  case Pow =>
    split at e
    · next h => cases e; exact ⟨i, j, rfl, rfl, (show CPow i j by unfold CPow; omega), q⟩
    · cases e
  all_goals cases e
theorem kids_tup_imm {k : Kind} {ts : List T} {xs : List PyData} (h : (T.node k ts).kids = some (false, xs)) : False := by
  cases k with
  | lst =>
    simp only [T.kids] at h
    cases q : imms ts with
    | none => rw [q] at h; cases h
    | some es => rw [q] at h; cases h
  | _ => simp [T.kids] at h
theorem seqAdd_ok (R : RelG K mg G0 H0 G F ρ σ H) (hl : ρ.length = σ.length) (oa : Own K mg G H ta va fa) (ob : Own K mg G H tb vb fb) (e : seqAdd ta tb = some t) (q : Nw K mg G0 H0 ρ σ H t Q) : rBin K .Add va vb H Q := by
  unfold seqAdd at e
  split at e
  · cases e
  next hs =>
  simp only [Bool.or_eq_true, not_or, Bool.not_eq_true] at hs
  split at e
  · next xs ys h1 h2 =>
    split at e
    · next hz =>
      cases e
      obtain ⟨a, us, rfl, e1, r1⟩ := oa.kidsS R.gh h1 hs.1
      obtain ⟨b, ws, rfl, e2, r2⟩ := ob.kidsS R.gh h2 hs.2
      exact .inr (.inl ⟨a, b, us, ws, rfl, rfl, e1, e2, by rw [← r1.length, ← r2.length]; exact hz.2.2, fun p hp => R.newL hl (r1.append r2) q hp⟩)
    · cases e
  · next xs ys h1 h2 =>
    split at e
    · next hz =>
      cases e
      obtain ⟨a, us, rfl, e1, r1⟩ := oa.kidsS R.gh h1 hs.1
      obtain ⟨b, ws, rfl, e2, r2⟩ := ob.kidsS R.gh h2 hs.2
      refine .inr (.inr ⟨a, b, us, ws, rfl, rfl, SqT.of e1, SqT.of e2, by rw [← r1.length, ← r2.length]; exact hz.2.2, fun hu => ?_, fun hu hw => ?_, fun _ _ p hp => R.newT hl (r1.append r2) q hp⟩)
      · subst hu
        cases r1
        refine q _ _ ?_ (Same.refl H)
        cases ob with
        | imm r =>
          cases r with
          | lst _ _ => simp [T.kids] at h2
          | tup h r => simp [T.kids] at h2; subst h2; exact R.pushI hl (.tup h r)
          | _ => simp [T.kids] at h2
        | node x r it => exact (kids_tup_imm h2).elim
        | scr _ => simp [T.kids] at h2
        | _ => simp [T.kids] at h2
      · subst hw
        cases r2
        rw [List.append_nil] at q
        refine q _ _ ?_ (Same.refl H)
        cases oa with
        | imm r =>
          cases r with
          | lst _ _ => simp [T.kids] at h1
          | tup h r => simp [T.kids] at h1; subst h1; exact R.pushI hl (.tup h r)
          | _ => simp [T.kids] at h1
        | node x r it => exact (kids_tup_imm h1).elim
        | scr _ => simp [T.kids] at h1
        | _ => simp [T.kids] at h1
    · cases e
  · cases e
theorem RpL.rep {ds : List PyData} {vs : List V} (r : RpL K G ds vs) : ∀ m : Nat, RpL K G (List.replicate m ds).flatten (List.replicate m vs).flatten
  | 0 => .nil
  | m + 1 => by
    rw [List.replicate_succ, List.replicate_succ, List.flatten_cons, List.flatten_cons]
    exact r.append (r.rep m)
theorem seqMul_ok (R : RelG K mg G0 H0 G F ρ σ H) (hl : ρ.length = σ.length) (oa : Own K mg G H ta va fa) (ob : Own K mg G H tb vb fb) (e : seqMul ta tb = some t) (q : Nw K mg G0 H0 ρ σ H t Q) : rBin K .Mult va vb H Q := by
  unfold seqMul at e
  split at e
  · next x k =>
    split at e
    · next h =>
      cases e
      rw [oa.str, ob.int]
      exact .inr (.inr ⟨x, k, rfl, rfl, h.1, h.2, R.newI hl (.str _) q⟩)
    · cases e
  · next ts k =>
    split at e
    · next ds hd =>
      split at e
      · next h =>
        cases e
        rw [ob.int]
        cases oa with
        | node x r it =>
          obtain ⟨r1, r2⟩ := r.imms hd
          have : (sizeLine : Nat) = 16777216 := by decide
          refine .inr (.inl ⟨_, k, _, rfl, rfl, x.1, by omega, by omega, by rw [← r1.length]; omega, fun p hp => R.newL hl (r1.rep k.toNat) q hp⟩)
      · cases e
    · cases e
  · cases e
theorem binT_ok (R : RelG K mg G0 H0 G F ρ σ H) (hl : ρ.length = σ.length) {op : Operator} (oa : Own K mg G H ta va fa) (ob : Own K mg G H tb vb fb) (e : binT op ta tb = some t) (q : Nw K mg G0 H0 ρ σ H t Q) : rBin K op va vb H Q := by
  unfold binT at e
  split at e
  · next i j =>
    cases h : intOp op i j with
    | none => rw [h] at e; cases e
    | some k =>
      rw [h] at e
      cases e
      rw [oa.int, ob.int]
      exact intOp_ok h (R.newI hl (.int k) q)
  · next x y =>
    split at e
    · split at e
      · next hz =>
        cases e
        rw [oa.str, ob.str]
        exact .inl (.inr ⟨x, y, rfl, rfl, hz, R.newI hl (.str _) q⟩)
      · cases e
    · cases e
  · split at e
    · exact seqAdd_ok R hl oa ob e q
    · exact seqMul_ok R hl oa ob e q
    · cases e

/-! ### comparisons -/
def rLtD (K : PySem.W.Frag) (A : Around) : R2 := fun x y H Q => ∃ d e, Dp K H x d ∧ Dp K H y e ∧ W.alike d e = true ∧ d ≠ .none ∧ d.depth ≤ 64 ∧ Q (.bl (W.dataLt d e)) H
def rGtD (K : PySem.W.Frag) (A : Around) : R2 := fun x y H Q => ∃ d e, Dp K H x d ∧ Dp K H y e ∧ W.alike d e = true ∧ d ≠ .none ∧ e.depth ≤ 64 ∧ Q (.bl (W.dataLt e d)) H
mutual
theorem dp_pln {K : PySem.W.Frag} {H : Hp} : ∀ {v : V} {d : PyData}, Dp K H v d → d.plain = true
  | _, _, .non => rfl
  | _, _, .bl _ => rfl
  | _, _, .int _ => rfl
  | _, _, .str _ => rfl
  | _, _, .lst _ r => by simp only [PyData.plain]; exact dpAll_pln r
  | _, _, .tup _ r => by simp only [PyData.plain]; exact dpAll_pln r
theorem dpAll_pln {K : PySem.W.Frag} {H : Hp} : ∀ {vs : List V} {ds : List PyData}, DpAll K H vs ds → PyData.plainAll ds = true
  | _, _, .nil => rfl
  | _, _, .cons h r => by simp only [PyData.plainAll, dp_pln h, dpAll_pln r]; rfl
end
def rEqP (K : PySem.W.Frag) (n : Bool) : R2 := fun x y H Q => ∃ d e, Dp K H x d ∧ Dp K H y e ∧ (d.depth ≤ 64 ∨ e.depth ≤ 64) ∧ Q (.bl (if n then !PyData.eqv d e else PyData.eqv d e)) H
theorem op_eqP {X : Cx} (hu : X.A.units + 65 < cLine) : OpR X (compareOp .Eq) (rEqP X.K false) := by
  intro pins s σ H x y v u Q I rx ry h
  obtain ⟨d, e, hd, he, hz, q⟩ := h
  obtain ⟨as, r1⟩ := Dp.reads I d x v hd rx
  obtain ⟨bs, r2⟩ := Dp.reads I e y u he ry
  exact SeqAt.eq_plain r1 r2 (dp_pln hd) (dp_pln he) (by have := Nat.min_le_left d.depth e.depth; have := Nat.min_le_right d.depth e.depth; omega) ⟨.bl _, H, I, rfl, q⟩
theorem op_neP {X : Cx} (hu : X.A.units + 65 < cLine) : OpR X (compareOp .NotEq) (rEqP X.K true) := by
  intro pins s σ H x y v u Q I rx ry h
  obtain ⟨d, e, hd, he, hz, q⟩ := h
  obtain ⟨as, r1⟩ := Dp.reads I d x v hd rx
  obtain ⟨bs, r2⟩ := Dp.reads I e y u he ry
  exact SeqAt.ne_plain r1 r2 (dp_pln hd) (dp_pln he) (by have := Nat.min_le_left d.depth e.depth; have := Nat.min_le_right d.depth e.depth; omega) ⟨.bl _, H, I, rfl, q⟩
def rInP (K : PySem.W.Frag) (t n : Bool) : R2 := fun x y H Q => ∃ d ds, Dp K H x d ∧ Dp K H y (if t then .tuple ds else .list ds) ∧ d.depth ≤ 64 ∧ Q (.bl (if n then !ds.any fun z => PyData.eqv z d else ds.any fun z => PyData.eqv z d)) H
theorem pln_of {ds : List PyData} {t : Bool} (h : (if t then PyData.tuple ds else .list ds).plain = true) : PyData.plainAll ds = true := by
  cases t <;> simpa [PyData.plain] using h
theorem op_inP {X : Cx} (hu : X.A.units + 65 < cLine) : ∀ t, OpR X (compareOp .In) (rInP X.K t false) := by
  intro t pins s σ H x y v u Q I rx ry h
  obtain ⟨d, ds, hd, he, hz, q⟩ := h
  obtain ⟨as, r1⟩ := Dp.reads I d x v hd rx
  obtain ⟨bs, r2⟩ := Dp.reads I _ y u he ry
  have hp := pln_of (dp_pln he)
  have hu2 : X.A.units + 1 + min (PyData.depthAll ds) d.depth < cLine := by have := Nat.min_le_right (PyData.depthAll ds) d.depth; omega
  cases t with
  | true => exact SeqAt.in_tuple_data r2 r1 hp (dp_pln hd) hu2 ⟨.bl _, H, I, rfl, q⟩
  | false => exact SeqAt.in_list_data r2 r1 hp (dp_pln hd) hu2 ⟨.bl _, H, I, rfl, q⟩
theorem op_notInP {X : Cx} (hu : X.A.units + 65 < cLine) : ∀ t, OpR X (compareOp .NotIn) (rInP X.K t true) := by
  intro t pins s σ H x y v u Q I rx ry h
  obtain ⟨d, ds, hd, he, hz, q⟩ := h
  obtain ⟨as, r1⟩ := Dp.reads I d x v hd rx
  obtain ⟨bs, r2⟩ := Dp.reads I _ y u he ry
  have hp := pln_of (dp_pln he)
  have hu2 : X.A.units + 1 + min (PyData.depthAll ds) d.depth < cLine := by have := Nat.min_le_right (PyData.depthAll ds) d.depth; omega
  cases t with
  | true => exact SeqAt.notIn_tuple_data r2 r1 hp (dp_pln hd) hu2 ⟨.bl _, H, I, rfl, q⟩
  | false => exact SeqAt.notIn_list_data r2 r1 hp (dp_pln hd) hu2 ⟨.bl _, H, I, rfl, q⟩
def rDIn (n : Bool) : R2 := fun x y H Q => ∃ a o, y = .ref a ∧ DGet H a x o ∧ Q (.bl (if n then !o.isSome else o.isSome)) H
theorem op_ltD {X : Cx} (hu : X.A.units + 64 < cLine) : OpR X (compareOp .Lt) (rLtD X.K X.A) := by
  intro pins s σ H x y v u Q I rx ry h
  obtain ⟨d, e, hd, he, ha, hn, hz, q⟩ := h
  obtain ⟨as, r1⟩ := Dp.reads I d x v hd rx
  obtain ⟨bs, r2⟩ := Dp.reads I e y u he ry
  exact W.lt_data r1 r2 ha hn (by have := Nat.min_le_left d.depth e.depth; omega) ⟨.bl _, H, I, rfl, q⟩
theorem op_gtD {X : Cx} (hu : X.A.units + 64 < cLine) : OpR X (compareOp .Gt) (rGtD X.K X.A) := by
  intro pins s σ H x y v u Q I rx ry h
  obtain ⟨d, e, hd, he, ha, hn, hz, q⟩ := h
  obtain ⟨as, r1⟩ := Dp.reads I d x v hd rx
  obtain ⟨bs, r2⟩ := Dp.reads I e y u he ry
  exact W.gt_data r1 r2 ha hn (by have := Nat.min_le_right d.depth e.depth; omega) ⟨.bl _, H, I, rfl, q⟩
theorem op_dIn {X : Cx} (hu : X.A.units + 1 < cLine) : OpR X (compareOp .In) (rDIn false) := by
  intro pins s σ H x y v u Q I rx ry h
  obtain ⟨a, o, rfl, g, q⟩ := h
  cases ry
  exact d_in hu I g rx fun s' I' => ⟨.bl _, H, I', rfl, q⟩
theorem op_dNotIn {X : Cx} (hu : X.A.units + 1 < cLine) : OpR X (compareOp .NotIn) (rDIn true) := by
  intro pins s σ H x y v u Q I rx ry h
  obtain ⟨a, o, rfl, g, q⟩ := h
  cases ry
  exact d_notIn hu I g rx fun s' I' => ⟨.bl _, H, I', rfl, q⟩
def rCmp (K : PySem.W.Frag) (A : Around) : CmpOp → R2
  | .Eq => rEqP K false
  | .NotEq => rEqP K true
  | .Lt => fun x y H Q => (rI0 (fun i j => .bl (decide (i < j))) x y H Q ∨ ∃ i j, x = .str i ∧ y = .str j ∧ Q (.bl (decide (i.cps.toList < j.cps.toList))) H) ∨ rLtD K A x y H Q
  | .Gt => fun x y H Q => (rI0 (fun i j => .bl (decide (j < i))) x y H Q ∨ ∃ i j, x = .str i ∧ y = .str j ∧ Q (.bl (decide (j.cps.toList < i.cps.toList))) H) ∨ rGtD K A x y H Q
  | .LtE => rI0 fun i j => .bl (decide (i ≤ j))
  | .GtE => rI0 fun i j => .bl (decide (j ≤ i))
  | .Is => fun x y H Q => (y = .non ∧ Q (.bl (decide (x = .non))) H) ∨ rIsB x y H Q
  | .IsNot => fun x y H Q => (y = .non ∧ Q (.bl (!decide (x = .non))) H) ∨ rNotB x y H Q
  | .In => fun x y H Q => ((∃ (c : Nat) (z : Str), x = .str ⟨#[c]⟩ ∧ y = .str z ∧ Q (.bl (decide (c ∈ z.cps.toList))) H) ∨ rDIn false x y H Q) ∨ (rInP K false false x y H Q ∨ rInP K true false x y H Q)
  | .NotIn => fun x y H Q => ((∃ (c : Nat) (z : Str), x = .str ⟨#[c]⟩ ∧ y = .str z ∧ Q (.bl (!decide (c ∈ z.cps.toList))) H) ∨ rDIn true x y H Q) ∨ (rInP K false true x y H Q ∨ rInP K true true x y H Q)
theorem op_cmp {X : Cx} (hu : X.A.units + 65 < cLine) : ∀ op, OpR X (compareOp op) (rCmp X.K X.A op)
  | .Eq => op_eqP hu
  | .NotEq => op_neP hu
  | .Lt => (op_lt.or op_lt_str).or (op_ltD (by omega))
  | .Gt => (op_gt.or op_gt_str).or (op_gtD (by omega))
  | .LtE => op_le
  | .GtE => op_ge
  | .Is => op_isN.or op_isBl
  | .IsNot => op_notN.or op_notBl
  | .In => (op_in_sign.or (op_dIn (by omega))).or ((op_inP hu false).or (op_inP hu true))
  | .NotIn => (op_notIn_sign.or (op_dNotIn (by omega))).or ((op_notInP hu false).or (op_notInP hu true))
theorem cmpEq_ok (s : Same G H) (oa : Own K mg G H ta va fa) (ob : Own K mg G H tb vb fb) {r : Bool} (e : cmpEq ta tb = some r) : ∃ d f, Dp K H va d ∧ Dp K H vb f ∧ (d.depth ≤ 64 ∨ f.depth ≤ 64) ∧ r = PyData.eqv d f := by
  unfold cmpEq at e
  split at e
  · next d f h1 h2 =>
    split at e
    · next h => cases e; exact ⟨d, f, oa.dat s h1, ob.dat s h2, h, rfl⟩
    · cases e
  · cases e
theorem toKeys_ok {K : PySem.W.Frag} {G : Hp} : ∀ {ds : List PyData} {vs : List V} {ks : List Ky}, RpL K G ds vs → toKeys ds = some ks → vs = ks.map kV
  | _, _, _, .nil, e => by simp [toKeys] at e; subst e; rfl
  | _, _, _, .cons (d := d) (ds := ds) h r, e => by
    simp only [toKeys] at e
    cases h1 : toKey d with
    | none => rw [h1] at e; cases e
    | some k =>
      cases h2 : toKeys ds with
      | none => rw [h1, h2] at e; cases e
      | some ks =>
        rw [h1, h2] at e
        cases e
        rw [toKeys_ok r h2]
        cases h <;> simp [toKey] at h1 <;> subst h1 <;> rfl
theorem toKey_ok {K : PySem.W.Frag} {G : Hp} {d : PyData} {v : V} {k : Ky} (h : Rp K G d v) (e : toKey d = some k) : v = kV k := by
  cases h <;> simp [toKey] at e <;> subst e <;> rfl
/-- a look into a dict -/
theorem dget_ok (s : Same G H) (oa : Own K mg G H ta va fa) {d : PyData} {vk : V} (hk : Rp K G d vk) {o : Option PyData} (e : dget ta d = some o) :
    ∃ a r, va = .ref a ∧ DGet H a vk r ∧ ((o = none ∧ r = none) ∨ ∃ x v, o = some x ∧ r = some v ∧ Rp K G x v) := by
  unfold dget at e
  split at e
  · next kvs h1 =>
    cases h2 : toKey d with
    | none => rw [h2] at e; cases e
    | some k =>
      rw [h2] at e
      cases e
      obtain ⟨a, ks, rfl, e1, r⟩ := oa.dkv s h1
      rw [toKey_ok hk h2]
      refine ⟨a, _, rfl, DGet.k e1, ?_⟩
      rcases RpD.look k r with ⟨h3, h4⟩ | ⟨x, v, h3, h4, h5⟩
      · exact .inl ⟨h3, h4⟩
      · exact .inr ⟨x, v, h3, h4, h5⟩
  · split at e
    · next ds kvs h1 =>
      cases h2 : toKeys kvs with
      | none => rw [h2] at e; cases e
      | some k =>
        rw [h2] at e
        cases e
        obtain ⟨a, ks, rfl, e1, r⟩ := oa.dtv s h1
        cases hk with
        | tup hb hr =>
          rw [toKeys_ok hr h2] at hb
          refine ⟨a, _, rfl, DGet.t e1 (s _ _ hb), ?_⟩
          rcases RpD.look k r with ⟨h3, h4⟩ | ⟨x, v, h3, h4, h5⟩
          · exact .inl ⟨h3, h4⟩
          · exact .inr ⟨x, v, h3, h4, h5⟩
    · cases e
theorem RpL.dpAll (s : Same G H) {ds : List PyData} {vs : List V} (r : RpL K G ds vs) : DpAll K H vs ds := (r.mono s).dp
theorem cmpIn_ok (s : Same G H) (oa : Own K mg G H ta va fa) (ob : Own K mg G H tb vb fb) {A : Around} {r : Bool} (e : cmpIn ta tb = some r) (n : Bool) (q : Q (.bl (if n then !r else r)) H) : rCmp K A (if n then .NotIn else .In) va vb H Q := by
  unfold cmpIn at e
  split at e
  · next z =>
    split at e
    · next c =>
      split at e
      · next hc =>
        cases e
        have ec : c = ⟨#[c.cps.getD 0 0]⟩ := by
          obtain ⟨⟨l⟩⟩ := c
          simp only [List.size_toArray] at hc
          match l, hc with
          | [x], _ => rfl
        rw [oa.str, ob.str]
        cases n with
        | false => exact .inl (.inl ⟨c.cps.getD 0 0, z, by rw [← ec], rfl, q⟩)
        | true => exact .inl (.inl ⟨c.cps.getD 0 0, z, by rw [← ec], rfl, q⟩)
      · cases e
    · cases e
  · split at e
    · next b ds h1 =>
      unfold cmpInS at e
      split at e
      · next d h2 =>
        split at e
        · next h =>
          cases e
          have hd := oa.dat s h2
          obtain ⟨a, xs, rfl, e1, r1⟩ := ob.kids s h1
          cases b with
          | true =>
            have hl : Dp K H (.ref a) (.list ds) := .lst (by simpa using e1) (r1.dpAll s)
            cases n with
            | false => exact .inr (.inl ⟨d, ds, hd, hl, h, q⟩)
            | true => exact .inr (.inl ⟨d, ds, hd, hl, h, q⟩)
          | false =>
            have hl : Dp K H (.ref a) (.tuple ds) := .tup (SqT.of (by simpa using e1)) (r1.dpAll s)
            cases n with
            | false => exact .inr (.inr ⟨d, ds, hd, hl, h, q⟩)
            | true => exact .inr (.inr ⟨d, ds, hd, hl, h, q⟩)
        · cases e
      · cases e
    · split at e
      · next d =>
        cases h2 : dget tb d with
        | none => rw [h2] at e; cases e
        | some o =>
          rw [h2] at e
          cases e
          obtain ⟨a, r, rfl, g, h3⟩ := dget_ok s ob oa.rp h2
          have hr : o.isSome = r.isSome := by
            rcases h3 with ⟨h3, h4⟩ | ⟨x, v, h3, h4, _⟩ <;> rw [h3, h4] <;> rfl
          rw [hr] at q
          cases n with
          | false => exact .inl (.inr ⟨a, r, rfl, g, q⟩)
          | true => exact .inl (.inr ⟨a, r, rfl, g, q⟩)
      · cases e
theorem cmpLt_ok (s : Same G H) (oa : Own K mg G H ta va fa) (ob : Own K mg G H tb vb fb) {r : Bool} (e : cmpLt ta tb = some r) :
    ((∃ i j, va = .int i ∧ vb = .int j ∧ r = decide (i < j)) ∨ ∃ i j, va = .str i ∧ vb = .str j ∧ r = decide (i.cps.toList < j.cps.toList)) ∨
      ∃ d f, Dp K H va d ∧ Dp K H vb f ∧ W.alike d f = true ∧ d ≠ .none ∧ f ≠ .none ∧ d.depth ≤ 64 ∧ r = W.dataLt d f := by
  unfold cmpLt at e
  split at e
  · cases e; exact .inl (.inl ⟨_, _, oa.int, ob.int, rfl⟩)
  · cases e; exact .inl (.inr ⟨_, _, oa.str, ob.str, rfl⟩)
  · split at e
    · next h => cases e; exact .inr ⟨_, _, (oa.rp.mono s).dp, (ob.rp.mono s).dp, h.1, (fun z => nomatch z), (fun z => nomatch z), h.2, rfl⟩
    · cases e
  · cases e
theorem cmpLe_ok (oa : Own K mg G H ta va fa) (ob : Own K mg G H tb vb fb) {r : Bool} (e : cmpLe ta tb = some r) : ∃ i j, va = .int i ∧ vb = .int j ∧ r = decide (i ≤ j) := by
  unfold cmpLe at e
  split at e
  · cases e; exact ⟨_, _, oa.int, ob.int, rfl⟩
  · cases e
theorem cmpIs_ok (oa : Own K mg G H ta va fa) (ob : Own K mg G H tb vb fb) {r : Bool} (e : cmpIs ta tb = some r) : (vb = .non ∧ r = decide (va = .non)) ∨ ∃ a b, va = .bl a ∧ vb = .bl b ∧ r = decide (a = b) := by
  unfold cmpIs at e
  split at e
  · refine .inl ⟨ob.non, ?_⟩
    split at e
    · cases e; rw [oa.non]; rfl
    · next hn =>
      cases e
      have : va ≠ .non := by
        intro z
        subst z
        cases oa with
        | imm r => cases r; exact hn rfl
      exact (decide_eq_false this).symm
  · split at e
    · cases e; exact .inr ⟨_, _, oa.bl, ob.bl, rfl⟩
    · cases e
  · cases e
theorem cmpT_ok (s : Same G H) {A : Around} {op : CmpOp} (oa : Own K mg G H ta va fa) (ob : Own K mg G H tb vb fb) {r : Bool} (e : cmpT op ta tb = some r) (q : Q (.bl r) H) : rCmp K A op va vb H Q := by
  have nt : ∀ {o : Option Bool}, onot o = some r → o = some (!r) := fun {o} h => by
    cases o with
    | none => cases h
    | some b => simp only [onot, Option.some.injEq] at h; subst h; simp
  cases op <;> simp only [cmpT] at e
  case Eq => obtain ⟨d, f, h1, h2, h3, rfl⟩ := cmpEq_ok s oa ob e; exact ⟨d, f, h1, h2, h3, q⟩
  case NotEq =>
    obtain ⟨d, f, h1, h2, h3, h5⟩ := cmpEq_ok s oa ob (nt e)
    refine ⟨d, f, h1, h2, h3, ?_⟩
    rw [← h5]; simpa using q
  case Lt =>
    rcases cmpLt_ok s oa ob e with (⟨i, j, rfl, rfl, rfl⟩ | ⟨i, j, rfl, rfl, rfl⟩) | ⟨d, f, h1, h2, h3, h4, _, h5, rfl⟩
    · exact .inl (.inl ⟨i, j, rfl, rfl, q⟩)
    · exact .inl (.inr ⟨i, j, rfl, rfl, q⟩)
    · exact .inr ⟨d, f, h1, h2, h3, h4, h5, q⟩
  case LtE => obtain ⟨i, j, rfl, rfl, rfl⟩ := cmpLe_ok oa ob e; exact ⟨i, j, rfl, rfl, q⟩
  case Gt =>
    rcases cmpLt_ok s ob oa e with (⟨i, j, rfl, rfl, rfl⟩ | ⟨i, j, rfl, rfl, rfl⟩) | ⟨d, f, h1, h2, h3, _, h4, h5, rfl⟩
    · exact .inl (.inl ⟨j, i, rfl, rfl, q⟩)
    · exact .inl (.inr ⟨j, i, rfl, rfl, q⟩)
    · exact .inr ⟨f, d, h2, h1, by rw [W.alike_comm]; exact h3, h4, h5, q⟩
  case GtE => obtain ⟨i, j, rfl, rfl, rfl⟩ := cmpLe_ok ob oa e; exact ⟨j, i, rfl, rfl, q⟩
  case Is =>
    rcases cmpIs_ok oa ob e with ⟨rfl, rfl⟩ | ⟨a, b, rfl, rfl, rfl⟩
    · exact .inl ⟨rfl, q⟩
    · exact .inr ⟨a, b, rfl, rfl, q⟩
  case IsNot =>
    rcases cmpIs_ok oa ob (nt e) with ⟨rfl, h⟩ | ⟨a, b, rfl, rfl, h⟩
    · exact .inl ⟨rfl, by rw [← h]; simpa using q⟩
    · exact .inr ⟨a, b, rfl, rfl, by rw [← h]; simpa using q⟩
  case In => exact cmpIn_ok s oa ob e false q
  case NotIn => exact cmpIn_ok s oa ob (nt e) true (by simpa using q)

/-! ### subscripts -/
def rDIx : R2 := fun x y H Q => ∃ a v, x = .ref a ∧ DGet H a y (some v) ∧ Q v H
theorem ix_dict {X : Cx} (hu : X.A.units + 1 < cLine) : IxR X rDIx := by
  intro value slice pins s σ H x y v u Q I rx ry h hs
  obtain ⟨a, z, rfl, g, q⟩ := h
  cases rx
  exact PyProof.Rows.tail_any (dict_typeIs I g) PySem.F.slot_dict_getitem.lookup (d_getItem hu I g ry fun w' s3 I3 rw' => ⟨z, H, I3, rw', q⟩) hs
def rIxA (K : PySem.W.Frag) : R2 := fun x y H Q => rIx K x y H Q ∨ rDIx x y H Q
theorem ix_any {X : Cx} (hu : X.A.units + 1 < cLine) : IxR X (rIxA X.K) := ix_seq.or (ix_dict hu)
theorem ixD_eq (n : Nat) (i : Int) : ixD n i = ixN n i := by
  unfold ixD ixN
  by_cases h : 0 ≤ i
  · rw [if_pos h, if_pos h]
  · rw [if_neg h, if_neg h]
    by_cases h2 : 0 ≤ (n : Int) + i
    · rw [if_pos h2, if_pos (by omega), Int.add_comm]
    · rw [if_neg h2, if_neg (by omega)]
theorem idxT_ok (R : RelG K mg G0 H0 G F ρ σ H) (hl : ρ.length = σ.length) (oa : Own K mg G H ta va fa) {d : PyData} (hd : Rp K G d vb) (e : idxT ta d = some t) (q : Nw K mg G0 H0 ρ σ H t Q) : rIxA K va vb H Q := by
  unfold idxT at e
  split at e
  · next x =>
    split at e
    · next i =>
      split at e
      · next hz =>
        split at e
        · next j hj =>
          split at e
          · next c hc =>
            cases e
            rw [oa.str]
            cases hd
            refine .inl (.inr (.inr ⟨x, i, c, rfl, rfl, hz, ?_, R.newI hl (.str _) q⟩))
            unfold atI
            rw [← ixD_eq, show x.cps.toList.length = x.length from Array.length_toList, hj]
            exact hc
          · cases e
        · cases e
      · cases e
    · cases e
  · next ts =>
    split at e
    · next i =>
      split at e
      · next j hj =>
        split at e
        · next d' hd' =>
          cases e
          cases oa with
          | node x r it =>
            obtain ⟨w, g, h1, h2, _⟩ := r.get hd'
            cases hd
            refine .inl (.inr (.inl ⟨_, _, i, w, rfl, rfl, SqT.of x.1, ?_, R.newI hl h2.rp q⟩))
            unfold atI
            rw [← ixD_eq, ← r.length, hj]
            exact h1
        · cases e
      · cases e
    · cases e
  · split at e
    · next d' hg =>
      cases e
      obtain ⟨a, r, rfl, g, h3⟩ := dget_ok R.gh oa hd hg
      rcases h3 with ⟨h3, _⟩ | ⟨x, w, h3, h4, h5⟩
      · cases h3
      · cases h3
        subst h4
        exact .inr ⟨a, w, rfl, g, R.newI hl h5 q⟩
    · cases e
    · split at e
      · next b ds i h1 _ =>
        split at e
        · next j hj =>
          split at e
          · next d' hd' =>
            cases e
            obtain ⟨a, xs, rfl, e1, r1⟩ := oa.kids R.gh h1
            obtain ⟨w, h2, h3⟩ := r1.get hd'
            cases hd
            have ea : atI xs i = some w := by
              unfold atI
              rw [← ixD_eq, ← r1.length, hj]
              exact h2
            cases b with
            | true => exact .inl (.inl ⟨a, xs, i, w, rfl, rfl, by simpa using e1, ea, R.newI hl h3 q⟩)
            | false => exact .inl (.inr (.inl ⟨a, xs, i, w, rfl, rfl, SqT.of (by simpa using e1), ea, R.newI hl h3 q⟩))
          · cases e
        · cases e
      · cases e

/-! ### slices -/
def rSlc (K : PySem.W.Frag) : V → Option Int → Option Int → Hp → VK → Prop := fun x lo hi H Q => (rSlS x lo hi H Q ∨ rSlL K x lo hi H Q) ∨ rSlA K x lo hi H Q
theorem sl_any {X : Cx} : SlR X (rSlc X.K) := (sl_str.or sl_list).or sl_tupA
theorem cutL_whole {α : Type} {xs : List α} {lo hi : Option Int} (h : HT.sIx xs.length 0 lo = 0 ∧ HT.sIx xs.length xs.length hi = xs.length) : cutL xs lo hi = xs := by
  unfold cutL cutB
  dsimp only
  rw [h.1, h.2]
  simp
theorem slcT_ok (R : RelG K mg G0 H0 G F ρ σ H) (hl : ρ.length = σ.length) (oa : Own K mg G H ta va fa) {lo hi : Option Int} (e : slcT ta lo hi = some t) (q : Nw K mg G0 H0 ρ σ H t Q) : rSlc K va lo hi H Q := by
  unfold slcT at e
  split at e
  · next x =>
    split at e
    · next hz =>
      cases e
      rw [oa.str]
      refine .inl (.inl ⟨x, rfl, hz, R.newI hl (.str _) ?_⟩)
      have : cutS x lo hi = ⟨(cutL x.cps.toList lo hi).toArray⟩ := by
        unfold cutS cutL cutB
        rw [show x.cps.toList.length = x.length from Array.length_toList]
      rw [this]; exact q
    · cases e
  · split at e
    · next ds h1 =>
      cases e
      obtain ⟨a, xs, rfl, e1, r1⟩ := oa.kids R.gh h1
      refine .inl (.inr ⟨a, xs, rfl, by simpa using e1, fun p hp => R.newL hl ?_ q hp⟩)
      unfold cutL cutB cutV
      dsimp only
      rw [r1.length]
      exact (r1.drop _).take _
    · next ds h1 =>
      cases e
      obtain ⟨a, xs, rfl, e1, r1⟩ := oa.kids R.gh h1
      have e1 : H a = some (.tup xs) := by simpa using e1
      refine .inr ⟨a, xs, rfl, SqT.of e1, fun hw => ?_, fun hw p hp => R.newT hl ?_ q hp⟩
      · rw [← r1.length] at hw
        rw [cutL_whole hw] at q
        cases oa with
        | imm r => 
          cases r with
          | lst _ _ => simp [T.kids] at h1
          | tup h r => simp [T.kids] at h1; subst h1; exact R.newI hl (.tup h r) q
          | _ => simp [T.kids] at h1
        | node x r it => exact (kids_tup_imm h1).elim
        | scr _ => simp [T.kids] at h1
        | _ => simp [T.kids] at h1
      · unfold cutL cutB cutV
        dsimp only
        rw [r1.length]
        exact (r1.drop _).take _
    · cases e
theorem RpL.pick {G : Hp} : ∀ {ds : List PyData} {vs : List V} (is : List Nat), RpL K G ds vs → RpL K G (is.filterMap (ds[·]?)) (is.filterMap (vs[·]?))
  | _, _, [], _ => .nil
  | ds, vs, i :: is, r => by
    rw [List.filterMap_cons, List.filterMap_cons]
    cases h : ds[i]? with
    | none =>
      have : vs[i]? = none := by
        rw [List.getElem?_eq_none_iff] at h ⊢
        rw [← r.length]; exact h
      rw [this]
      exact RpL.pick is r
    | some d =>
      obtain ⟨v, e, q⟩ := r.get h
      rw [e]
      exact .cons q (RpL.pick is r)
theorem vals_pick : ∀ {xs : List V} {us : List Value} (is : List Nat), Vals xs us → Vals (is.filterMap (xs[·]?)) (is.filterMap (us[·]?))
  | _, _, [], _ => .nil
  | xs, us, i :: is, r => by
    rw [List.filterMap_cons, List.filterMap_cons]
    cases h : xs[i]? with
    | none =>
      have : us[i]? = none := by
        rw [List.getElem?_eq_none_iff] at h ⊢
        rw [← r.length]; exact h
      rw [this]
      exact vals_pick is r
    | some d =>
      obtain ⟨v, e, q⟩ := r.get h
      rw [e]
      exact .cons q (vals_pick is r)
theorem pick_eq (its : List Value) (lo hi : Option Int) (k : Nat) : slicePick its.toArray lo hi (some (k : Int)) = (pickL its lo hi k).toArray := by
  unfold slicePick pickL
  rw [List.size_toArray]
  simp only [List.getElem?_toArray]
theorem pick_len {α : Type} (xs : List α) (lo hi : Option Int) (k : Nat) : (pickL xs lo hi k).length ≤ xs.length := by
  have h : ∀ its : List Value, (pickL its lo hi k).length ≤ its.length := fun its => by
    have h := slicePick_size_le its.toArray lo hi (some (k : Int))
    rw [pick_eq, List.size_toArray, List.size_toArray] at h
    exact h
  have e : (pickL xs lo hi k).length = (pickL (xs.map fun _ => Value.none) lo hi k).length := by
    unfold pickL
    rw [List.length_map]
    generalize sliceRange _ _ _ = is
    induction is with
    | nil => rfl
    | cons i is ih =>
      rw [List.filterMap_cons, List.filterMap_cons, List.getElem?_map]
      cases xs[i]? <;> simp [ih]
  rw [e]
  have := h (xs.map fun _ => Value.none)
  rwa [List.length_map] at this
theorem slsT_ok (R : RelG K mg G0 H0 G F ρ σ H) (hl : ρ.length = σ.length) (oa : Own K mg G H ta va fa) {lo hi : Option Int} {k : Nat} (e : slsT ta lo hi k = some t) (q : Nw K mg G0 H0 ρ σ H t Q) :
    ∃ a xs, va = .ref a ∧ SqL K H a xs ∧ ∀ p, H p = none → Q (.ref p) (upd H p (.lst (pickL xs lo hi k))) := by
  unfold slsT at e
  split at e
  · next ds h1 =>
    cases e
    obtain ⟨a, xs, rfl, e1, r1⟩ := oa.kids R.gh h1
    refine ⟨a, xs, rfl, by simpa using e1, fun p hp => R.newL hl ?_ q hp⟩
    unfold pickL
    rw [r1.length]
    exact r1.pick _
  · cases e
end
end Gl

set_option Elab.async false
set_option linter.all false
set_option maxRecDepth 100000
set_option maxHeartbeats 1000000
/-! GlD: what an expression's reading is; the checker. -/
namespace Gl
open PySem L2

/-! ### what is held -/
def kidsO : Option HO → Option (List V)
  | some (.lst vs) => some vs
  | some (.tup vs) => some vs
  | some (.dK kvs) => some (kvs.map (·.2))
  | some (.dT kvs) => some (kvs.map (·.2))
  | some (.ins _ _ fs) => some (fs.map (·.2))
  | _ => none
def kidsH (H : Hp) : V → Option (List V)
  | .ref a => kidsO (H a)
  | _ => none
def Lead (H : Hp) : V → List Nat → V → Prop
  | v, [], u => u = v
  | v, j :: p, u => ∃ vs w, kidsH H v = some vs ∧ vs[j]? = some w ∧ Lead H w p u
/-- a tree looked at: of a node at a known address the node -/
def T.vw (t0 t1 : T) : Prop := t1 = t0 ∨ ∃ a k ts, t0 = .pin a k ts ∧ t1 = .node k ts
def Hld (ρ : Env) (σ : St) (H : Hp) (t : T) (v : V) : Prop := ∃ (i : Nat) (p : List Nat) (t0 t1 : T) (v0 : V), ρ[i]? = some (some t0) ∧ σ[i]? = some (some v0) ∧ T.vw t0 t1 ∧ t1.sub p = some t ∧ Lead H v0 p v
section
variable {K : PySem.W.Frag} {mg : Str → Option Value} {G0 H0 G H H' : Hp} {F : Nat → List Addr} {ρ ρ' : Env} {σ σ' : St} {t : T} {v : V}
theorem kidsH.mono (s : Same H H') {v : V} {vs : List V} (h : kidsH H v = some vs) : kidsH H' v = some vs := by
  cases v with
  | ref a =>
    have h : kidsO (H a) = some vs := h
    show kidsO (H' a) = some vs
    cases q : H a with
    | none => rw [q] at h; cases h
    | some o => rw [s a o q]; rw [q] at h; exact h
  | _ => cases h
theorem Lead.mono (s : Same H H') : ∀ {p : List Nat} {v u : V}, Lead H v p u → Lead H' v p u
  | [], _, _, h => h
  | _ :: _, _, _, ⟨vs, w, h1, h2, h3⟩ => ⟨vs, w, kidsH.mono s h1, h2, Lead.mono s h3⟩
theorem Sh.kids {k : Kind} {a : Addr} {vs : List V} {ex : List Addr} (x : Sh mg H k a vs ex) : kidsH H (.ref a) = some vs := by
  show kidsO (H a) = some vs
  cases k with
  | tup => rw [x.1]; rfl
  | lst => rw [x.1]; rfl
  | dK ks => obtain ⟨⟨kvs, e, _, r⟩, _⟩ := x; rw [e]; exact congrArg some r
  | dT ks => obtain ⟨⟨kvs, e, _, r⟩, _⟩ := x; rw [e]; exact congrArg some r
  | obj c fs =>
    obtain ⟨C, dx, e, h, _⟩ := x
    rw [e]
    show some ((fs.zip vs).map (·.2)) = some vs
    congr 1
    exact List.map_snd_zip (by omega)
theorem Own.sub : ∀ {p : List Nat} {t0 t : T} {v0 v : V} {f0 : List Addr}, Own K mg G H t0 v0 f0 → t0.sub p = some t → Lead H v0 p v → ∃ f, Own K mg G H t v f ∧ (∀ b ∈ f, b ∈ f0)
  | [], t0, t, v0, v, f0, o, e, l => by
    cases t0 <;> (simp only [T.sub, Option.some.injEq] at e; subst e; cases l; exact ⟨f0, o, fun b hb => hb⟩)
  | j :: p, t0, t, v0, v, f0, o, e, l => by
    cases o with
    | node x r it =>
      rename_i k a ts vs ex f
      simp only [T.sub] at e
      cases h : ts[j]? with
      | none => rw [h] at e; cases e
      | some t1 =>
        rw [h] at e
        obtain ⟨us, w, h1, h2, h3⟩ := l
        rw [x.kids] at h1
        cases h1
        obtain ⟨w', g, h4, h5, h6⟩ := r.get h
        rw [h2] at h4
        cases h4
        obtain ⟨f', o', s'⟩ := Own.sub h5 e h3
        exact ⟨f', o', fun b hb => List.mem_cons_of_mem _ (List.mem_append_right _ (h6 b (s' b hb)))⟩
    | _ => simp [T.sub] at e
theorem Own.vw {t0 t1 : T} {f : List Addr} (o : Own K mg G H t0 v f) (h : T.vw t0 t1) : Own K mg G H t1 v f := by
  rcases h with rfl | ⟨a, k, ts, rfl, rfl⟩
  · exact o
  · cases o with
    | pin o => exact o
theorem RelG.held (R : RelG K mg G0 H0 G F ρ σ H) (h : Hld ρ σ H t v) : ∃ f, Own K mg G H t v f := by
  obtain ⟨i, p, t0, t1, v0, e1, e2, e0, e3, e4⟩ := h
  obtain ⟨w, q, o⟩ := R.own i t0 e1
  rw [e2] at q
  cases q
  obtain ⟨f, o', _⟩ := (o.vw e0).sub e3 e4
  exact ⟨f, o'⟩
theorem get_pre {α : Type} {l m : List α} (h : l <+: m) {i : Nat} {a : α} (e : l[i]? = some a) : m[i]? = some a := by
  obtain ⟨r, rfl⟩ := h
  rw [List.getElem?_append_left (List.getElem?_eq_some_iff.mp e).1]
  exact e
theorem Hld.grow {τ τ' : Env} {σt σt' : St} (h : Hld (ρ ++ τ) (σ ++ σt) H t v) (s : Same H H') (p1 : τ <+: τ') (p2 : σt <+: σt') : Hld (ρ ++ τ') (σ ++ σt') H' t v := by
  obtain ⟨i, p, t0, t1, v0, e1, e2, e0, e3, e4⟩ := h
  exact ⟨i, p, t0, t1, v0, get_pre ((List.prefix_append_right_inj ρ).mpr p1) e1, get_pre ((List.prefix_append_right_inj σ).mpr p2) e2, e0, e3, e4.mono s⟩
theorem T.sub_nil (t : T) : t.sub [] = some t := by cases t <;> rfl
theorem Hld.slot {i : Nat} (e1 : ρ[i]? = some (some t)) (e2 : σ[i]? = some (some v)) : Hld ρ σ H t v := ⟨i, [], t, t, v, e1, e2, .inl rfl, T.sub_nil t, rfl⟩
/-- .. looked at -/
theorem Hld.pin {i a : Nat} {k : Kind} {ts : List T} (e1 : ρ[i]? = some (some (.pin a k ts))) (e2 : σ[i]? = some (some v)) : Hld ρ σ H (.node k ts) v := ⟨i, [], _, _, v, e1, e2, .inr ⟨a, k, ts, rfl, rfl⟩, T.sub_nil _, rfl⟩
theorem Hld.last {τ : Env} {σt : St} (h1 : ρ.length = σ.length) (h2 : τ.length = σt.length) : Hld (ρ ++ (τ ++ [some t])) (σ ++ (σt ++ [some v])) H t v := by
  refine Hld.slot (i := ρ.length + τ.length) ?_ ?_
  · rw [← List.append_assoc, List.getElem?_append_right (by simp)]; simp
  · rw [← List.append_assoc, List.getElem?_append_right (by simp; omega)]; simp [h1, h2]
end

/-! ### moving temporaries -/
section
variable {K : PySem.W.Frag} {mg : Str → Option Value} {G0 H0 G H H' : Hp} {F : Nat → List Addr} {ρ ρ' : Env} {σ σ' : St} {t : T} {v : V}
/-- slots taken from other places -/
theorem Rel.pick (R : Rel K mg G0 H0 ρ σ H) (g : Nat → Nat) (hg : ∀ (i : Nat) (t : T), ρ'[i]? = some (some t) → ρ[g i]? = some (some t) ∧ σ'[i]? = σ[g i]?)
    (hi : ∀ (i j : Nat) (t u : T), ρ'[i]? = some (some t) → ρ'[j]? = some (some u) → g i = g j → i = j) : Rel K mg G0 H0 ρ' σ' H := by
  obtain ⟨G, F, R⟩ := R
  refine ⟨G, fun i => F (g i), fun i t e => ?_, fun i t e => R.nd _ t (hg i t e).1, fun i t e => R.free _ t (hg i t e).1, fun i j t u n e1 e2 => R.apart _ _ t u (fun z => n (hi i j t u e1 e2 z)) (hg i t e1).1 (hg j u e2).1, R.gh, R.g0, R.gx, R.h0⟩
  obtain ⟨e1, e2⟩ := hg i t e
  obtain ⟨w, q, o⟩ := R.own _ t e1
  exact ⟨w, e2.trans q, o⟩
/-- the last one kept, those between dropped -/
theorem Rel.mid {τ τ' : Env} {σt σt' : St} {us : Env} {ws : St} (R : Rel K mg G0 H0 (ρ ++ (τ' ++ us)) (σ ++ (σt' ++ ws)) H) (hl : ρ.length = σ.length) (ht : τ.length = σt.length) (ht' : τ'.length = σt'.length) (p1 : τ <+: τ') (p2 : σt <+: σt') :
    Rel K mg G0 H0 (ρ ++ (τ ++ us)) (σ ++ (σt ++ ws)) H := by
  have hle : τ.length ≤ τ'.length := p1.length_le
  refine R.pick (fun i => if i < ρ.length + τ.length then i else i - τ.length + τ'.length) (fun i t e => ?_) fun i j t u _ _ z => ?_
  · by_cases hi : i < ρ.length + τ.length
    · simp only [hi, if_true]
      rw [← List.append_assoc, List.getElem?_append_left (by simpa using hi)] at e
      refine ⟨?_, ?_⟩
      · rw [← List.append_assoc, List.getElem?_append_left (by simp; omega)]
        exact get_pre ((List.prefix_append_right_inj ρ).mpr p1) e
      · have hi' : i < (σ ++ σt).length := by simp; omega
        have e2 : (σ ++ (σt ++ ws))[i]? = (σ ++ σt)[i]? := by rw [← List.append_assoc]; exact List.getElem?_append_left hi'
        have e3 : (σ ++ (σt' ++ ws))[i]? = (σ ++ σt')[i]? := by rw [← List.append_assoc]; exact List.getElem?_append_left (by simp; omega)
        rw [e2, e3, List.getElem?_eq_getElem hi']
        exact (get_pre ((List.prefix_append_right_inj σ).mpr p2) (List.getElem?_eq_getElem hi')).symm
    · simp only [hi, if_false]
      rw [← List.append_assoc, List.getElem?_append_right (by simp; omega)] at e
      have hd : i - τ.length + τ'.length - (ρ ++ τ').length = i - (ρ ++ τ).length := by simp; omega
      have hd2 : i - τ.length + τ'.length - (σ ++ σt').length = i - (σ ++ σt).length := by simp; omega
      refine ⟨?_, ?_⟩
      · rw [← List.append_assoc, List.getElem?_append_right (by simp; omega), hd]
        exact e
      · rw [← List.append_assoc, ← List.append_assoc, List.getElem?_append_right (by simp; omega), List.getElem?_append_right (by simp; omega), hd2]
  · by_cases hi : i < ρ.length + τ.length <;> by_cases hj : j < ρ.length + τ.length <;> simp only [hi, hj, if_true, if_false] at z <;> omega
theorem Rel.pre {τ τ' : Env} {σt σt' : St} (R : Rel K mg G0 H0 (ρ ++ τ') (σ ++ σt') H) (hl : ρ.length = σ.length) (ht : τ.length = σt.length) (p1 : τ <+: τ') (p2 : σt <+: σt') : Rel K mg G0 H0 (ρ ++ τ) (σ ++ σt) H := by
  refine R.weak fun i t e => ⟨get_pre ((List.prefix_append_right_inj ρ).mpr p1) e, ?_⟩
  have hi : i < (σ ++ σt).length := by
    have := (List.getElem?_eq_some_iff.mp e).1
    simp only [List.length_append] at this ⊢
    omega
  rw [List.getElem?_eq_getElem hi]
  exact (get_pre ((List.prefix_append_right_inj σ).mpr p2) (List.getElem?_eq_getElem hi)).symm
end

/-! ### readings -/
@[reducible] def RsP {α : Type} (r : Rs α) (P : α → Prop) (PX : Str → Prop) : Prop :=
  match r with
  | .ok a => P a
  | .ex c => PX c
  | .no => False
theorem RsP.bind {α β : Type} {r : Rs α} {f : α → Rs β} {P : β → Prop} {PX : Str → Prop} (h : RsP (r.bind f) P PX) : RsP r (fun a => RsP (f a) P PX) PX := by
  cases r <;> exact h
theorem RsP.bindR {α β : Type} {r : Rs α} {f : α → Rs β} {P : β → Prop} {PX : Str → Prop} (h : RsP r (fun a => RsP (f a) P PX) PX) : RsP (r.bind f) P PX := by
  cases r <;> exact h
theorem RsP.of {α : Type} {o : Option α} {P : α → Prop} {PX : Str → Prop} (h : RsP (Rs.of o) P PX) : ∃ a, o = some a ∧ P a := by
  cases o with
  | none => exact h.elim
  | some a => exact ⟨a, rfl, h⟩
theorem RsP.imp {α : Type} {r : Rs α} {P P' : α → Prop} {PX PX' : Str → Prop} (h : RsP r P PX) (h1 : ∀ a, r = .ok a → P a → P' a) (h2 : ∀ c, PX c → PX' c) : RsP r P' PX' := by
  cases r with
  | ok a => exact h1 a rfl h
  | ex c => exact h2 c h
  | no => exact h
/-- the state, with temporaries -/
structure Ro (K : PySem.W.Frag) (mg : Str → Option Value) (G0 H0 : Hp) (ρ : Env) (σ : St) (τ : Env) (σt : St) (H : Hp) : Prop where
  l1 : ρ.length = σ.length
  l2 : τ.length = σt.length
  rel : Rel K mg G0 H0 (ρ ++ τ) (σ ++ σt) H
section
variable (K : PySem.W.Frag) (mg : Str → Option Value) (W : WX)
def PX (G0 H0 : Hp) (ρ : Env) (σ : St) (τ : Env) (σt : St) (H : Hp) (c : Str) : Prop := ∀ H' C, Ro K mg G0 H0 ρ σ τ σt H' → Same H H' → mg c = some (.ref C) → W (.ref C) none σ H'
/-- as a new temporary -/
def PN (G0 H0 : Hp) (ρ : Env) (σ : St) (τ : Env) (σt : St) (H : Hp) (t : T) (Q : VK) : Prop := ∀ v H', Ro K mg G0 H0 ρ σ (τ ++ [some t]) (σt ++ [some v]) H' → Same H H' → Q v H'
def PNs (G0 H0 : Hp) (ρ : Env) (σ : St) (τ : Env) (σt : St) (H : Hp) (ts : List T) (Q : List V → Hp → Prop) : Prop := ∀ vs H', vs.length = ts.length → Ro K mg G0 H0 ρ σ (τ ++ ts.map some) (σt ++ vs.map some) H' → Same H H' → Q vs H'
/-- held somewhere -/
def PHd (G0 H0 : Hp) (ρ : Env) (σ : St) (τ : Env) (σt : St) (H : Hp) (t : T) (Q : VK) : Prop := ∀ v H' τ' σt', Ro K mg G0 H0 ρ σ τ' σt' H' → Same H H' → τ <+: τ' → σt <+: σt' → Hld (ρ ++ τ') (σ ++ σt') H' t v → Q v H'
def PHds (G0 H0 : Hp) (ρ : Env) (σ : St) (τ : Env) (σt : St) (H : Hp) (ts : List T) (Q : List V → Hp → Prop) : Prop := ∀ vs H' τ' σt', Ro K mg G0 H0 ρ σ τ' σt' H' → Same H H' → τ <+: τ' → σt <+: σt' → Paired (Hld (ρ ++ τ') (σ ++ σt') H') ts vs → Q vs H'
variable (call : Nat → List T → Rs T)
def tE (e : E) : TE := fun σ H Q => ∃ G0 H0 ρ τ σt, Ro K mg G0 H0 ρ σ τ σt H ∧ RsP (evX call false e ρ) (fun t => PN K mg G0 H0 ρ σ τ σt H t Q) (PX K mg W G0 H0 ρ σ τ σt H)
def tO (e : E) : TE := fun σ H Q => ∃ G0 H0 ρ τ σt, Ro K mg G0 H0 ρ σ τ σt H ∧ RsP (evX call true e ρ) (fun t => PHd K mg G0 H0 ρ σ τ σt H t Q) (PX K mg W G0 H0 ρ σ τ σt H)
def tEs (es : List E) : TA := fun σ H Q => ∃ G0 H0 ρ τ σt, Ro K mg G0 H0 ρ σ τ σt H ∧ RsP (evXs call false es ρ) (fun ts => PNs K mg G0 H0 ρ σ τ σt H ts Q) (PX K mg W G0 H0 ρ σ τ σt H)
def tOs (es : List E) : TA := fun σ H Q => ∃ G0 H0 ρ τ σt, Ro K mg G0 H0 ρ σ τ σt H ∧ RsP (evXs call true es ρ) (fun ts => PHds K mg G0 H0 ρ σ τ σt H ts Q) (PX K mg W G0 H0 ρ σ τ σt H)
end
section
variable {K : PySem.W.Frag} {mg : Str → Option Value} {W : WX} {G0 H0 H H' : Hp} {ρ : Env} {σ : St} {τ τ' : Env} {σt σt' : St} {t : T} {Q : VK} {call : Nat → List T → Rs T}
theorem PX.later {c : Str} (h : PX K mg W G0 H0 ρ σ τ σt H c) (l2 : τ.length = σt.length) (s : Same H H') (p1 : τ <+: τ') (p2 : σt <+: σt') : PX K mg W G0 H0 ρ σ τ' σt' H' c :=
  fun H2 C r s2 e => h H2 C ⟨r.l1, l2, r.rel.pre r.l1 l2 p1 p2⟩ (s.trans s2) e
theorem PN.later (h : PN K mg G0 H0 ρ σ τ σt H t Q) (l2 : τ.length = σt.length) (l2' : τ'.length = σt'.length) (s : Same H H') (p1 : τ <+: τ') (p2 : σt <+: σt') : PN K mg G0 H0 ρ σ τ' σt' H' t Q :=
  fun v H2 r s2 => h v H2 ⟨r.l1, by simp [l2], r.rel.mid r.l1 l2 l2' p1 p2⟩ (s.trans s2)
theorem PNs.later {ts : List T} {Q : List V → Hp → Prop} (h : PNs K mg G0 H0 ρ σ τ σt H ts Q) (l2 : τ.length = σt.length) (l2' : τ'.length = σt'.length) (s : Same H H') (p1 : τ <+: τ') (p2 : σt <+: σt') : PNs K mg G0 H0 ρ σ τ' σt' H' ts Q :=
  fun vs H2 hv r s2 => h vs H2 hv ⟨r.l1, by simp [l2, hv], r.rel.mid r.l1 l2 l2' p1 p2⟩ (s.trans s2)
/-- a new temporary is held -/
theorem PHd.pn (h : PHd K mg G0 H0 ρ σ τ σt H t Q) (l1 : ρ.length = σ.length) (l2 : τ.length = σt.length) : PN K mg G0 H0 ρ σ τ σt H t Q :=
  fun v H' r s => h v H' _ _ r s (List.prefix_append ..) (List.prefix_append ..) (Hld.last l1 l2)
/-- in the words of the operations -/
theorem PN.nw (h : PN K mg G0 H0 ρ σ τ σt H t Q) (l1 : ρ.length = σ.length) (l2 : τ.length = σt.length) : Nw K mg G0 H0 (ρ ++ τ) (σ ++ σt) H t Q :=
  fun v H' r s => h v H' ⟨l1, by simp [l2], by rwa [← List.append_assoc, ← List.append_assoc]⟩ s
theorem Ro.len (r : Ro K mg G0 H0 ρ σ τ σt H) : (ρ ++ τ).length = (σ ++ σt).length := by rw [List.length_append, List.length_append, r.l1, r.l2]
end
end Gl

set_option Elab.async false
set_option linter.all false
set_option maxRecDepth 100000
set_option maxHeartbeats 1000000
/-! GlE: the checker of expressions, and that it is right. -/
namespace Gl
open PySem L2

/-! ### what the forms ask of the syntax -/
/-- no star, slice or set -/
def pl : Expr → Bool
  | .Name .. => true | .Constant .. => true | .Tuple .. => true | .List .. => true | .Dict .. => true | .BinOp .. => true | .UnaryOp .. => true | .BoolOp .. => true
  | .Compare .. => true | .Subscript .. => true | .Call .. => true | .ListComp .. => true | .Attribute .. => true
  | _ => false
/-- no comprehension -/
def noLc : Expr → Bool
  | .ListComp .. => false
  | _ => true
/-- no call without arguments -/
def noC0 : Expr → Bool
  | .Call _ [] _ _ => false
  | _ => true
theorem star_cons {e : Expr} {es : List Expr} {env : PySem.Env} (h : pl e = true) : starEach (e :: es) env = (false, eval e env) :: starEach es env := by
  cases e <;> first | rfl | cases h
theorem star_all {env : PySem.Env} {pos : Pos} : ∀ {es : List Expr}, es.all pl = true → (backTo pos (starEach es env)).any (·.1) = false
  | [], _ => rfl
  | e :: es, h => by
    rw [List.all_cons, Bool.and_eq_true] at h
    rw [star_cons h.1]
    show (false || (backTo pos (starEach es env)).any (·.1)) = false
    rw [star_all h.2]; rfl
theorem nomark_pl {e : Expr} {op : CmpOp} (h : pl e = true) : behindInMarks op e = false := by
  cases e <;> first | rfl | cases h
theorem plain_ix {e : Expr} (h : pl e = true) : PlainIx e := fun o i => by
  cases e <;> first | rfl | cases h
theorem fold_pl {e : Expr} {env : PySem.Env} (h : pl e = true) (x : Value) : foldedSetIterable e env x = pure x := by
  cases e <;> first | rfl | cases h
theorem swaps_pl {e : Expr} {t : Option Expr} {l : Nat} {env : PySem.Env} (h : pl e = true) (h2 : noLc e = true) : swapsWith e t l env = pure false := by
  cases e <;> first | rfl | exact Bool.noConfusion h | exact Bool.noConfusion h2
theorem attr_pl {e : Expr} {m : Str} {env : PySem.Env} (h : pl e = true) (h2 : noC0 e = true) : attributeBase e m env (eval e env) = eval e env := by
  cases e with
  | Call f args kws pos =>
    cases args with
    | nil => cases h2
    | cons a r => cases f <;> rfl
  | _ => first | rfl | cases h

/-! ### the checker -/
structure Mx where
  fns : List (Str × Nat)
  glb : List (Str × PyData)
  /-- the own classes that are raised -/
  cls : List Str := []
  /-- a class, one that an except names: is it caught -/
  exm : List (Str × Str × Bool) := []
  /-- a class, one that isinstance asks for: the answer -/
  kit : List (Str × Str × Bool) := []
  /-- in an except suite -/
  hot : Bool := false

def visB (sc : Scope) (x : Str) : Bool :=
  match sc.names.lookup x with
  | some .local => true | some .cell => true | some .free => true
  | _ => false
def glB (sc : Scope) (x : Str) : Bool :=
  match sc.names.lookup x with
  | some .globalImplicit => true
  | _ => false
def locB (sc : Scope) (x : Str) : Bool :=
  match sc.names.lookup x with
  | some .local => true | some .cell => true
  | _ => false
def lclB (sc : Scope) (x : Str) : Bool :=
  match sc.names.lookup x with
  | some .local => true
  | _ => false
def okN (x : Str) : Bool := !(x == ("__debug__" : Str)) && !(x == ("__classdict__" : Str)) && !(x == ("__name__" : Str))
theorem okN_1 {x : Str} (h : okN x = true) : (x == ("__debug__" : Str)) = false := by
  unfold okN at h; simp only [Bool.and_eq_true, Bool.not_eq_true'] at h; exact h.1.1
theorem okN_2 {x : Str} (h : okN x = true) : (x == ("__classdict__" : Str)) = false := by
  unfold okN at h; simp only [Bool.and_eq_true, Bool.not_eq_true'] at h; exact h.1.2
theorem okN_3 {x : Str} (h : okN x = true) : x ≠ "__name__" := by
  unfold okN at h; simp only [Bool.and_eq_true, Bool.not_eq_true'] at h
  intro e
  have := h.2
  rw [e] at this
  simp at this
theorem visB_ok {sc : Scope} {x : Str} (h : visB sc x = true) : Vis sc x := by
  unfold visB at h
  split at h <;> first | exact .inl (by assumption) | exact .inr (.inl (by assumption)) | exact .inr (.inr (by assumption)) | cases h
theorem locB_ok {sc : Scope} {x : Str} (h : locB sc x = true) : Loc sc x := by
  unfold locB at h
  split at h <;> first | exact .inl (by assumption) | exact .inr (by assumption) | cases h
theorem glB_ok {X : Cx} {x : Str} (h : glB X.env.scope x = true) : L2.Gl X x := by
  unfold glB at h
  split at h
  · assumption
  · cases h
def Bi.name : Bi → Str
  | .len => "len" | .list => "list" | .tuple => "tuple" | .str => "str" | .max2 => "max" | .min2 => "min" | .sorted => "sorted"
def Bi.cool : Bi → Bool
  | .max2 => false | .min2 => false | .list => false | .sorted => false | _ => true
def Bi.args : Bi → Nat
  | .max2 => 2 | .min2 => 2 | _ => 1
def Cl.name : Cl → Str
  | .str => "str" | .int => "int" | .bool => "bool" | .list => "list" | .tuple => "tuple"
def Mt.name : Mt → Str
  | .join => "join" | .starts => "startswith" | .split => "split" | .get => "get" | .part => "partition" | .strip => "strip" | .count => "count"
def Mt.args : Mt → Nat
  | _ => 1
def cstB : PyData → Const → Bool
  | .none, .none => true
  | .bool b, .bool c => b == c
  | .int i, .int j => decide (i = j)
  | .str x, .str y => decide (x = y)
  | _, _ => false
def scalEq : PyData → PyData → Bool
  | .none, .none => true
  | .bool b, .bool c => b == c
  | .int i, .int j => decide (i = j)
  | .str x, .str y => decide (x = y)
  | _, _ => false
def glbB (glb : List (Str × PyData)) (x : Str) (d : PyData) : Bool := glb.any fun p => decide (p.1 = x) && scalEq p.2 d

def kitL (k : List (Str × Str × Bool)) (c : Str) : List Str → Option Bool
  | [] => some false
  | y :: r => match k.find? fun p => decide (p.1 = c) && decide (p.2.1 = y) with
    | some p => (match kitL k c r with
      | some b => some (p.2.2 || b)
      | none => none)
    | none => none
def clsNs (sc : Scope) : List Expr → Option (List Str)
  | [] => some []
  | .Name y _ :: es => match clsNs sc es with
    | some r => if glB sc y && okN y then some (y :: r) else none
    | none => none
  | _ :: _ => none
def eisB (mx : Mx) (sc : Scope) (tbl : List (Str × Bool)) (c' : Expr) : Bool :=
  match c' with
  | .Name y p => match clsNs sc [.Name y p] with
    | some ys => tbl.all fun q => decide (kitL mx.kit q.1 ys = some q.2)
    | none => false
  | .Tuple es _ _ => decide (es.length < 1000) && (match clsNs sc es with
    | some ys => tbl.all fun q => decide (kitL mx.kit q.1 ys = some q.2)
    | none => false)
  | _ => false
mutual
def mE (mx : Mx) (N : List Str) (sc : Scope) : E → Expr → Bool
  | .var i, .Name x _ => decide (N[i]? = some x) && visB sc x && okN x
  | .cst d, .Constant c _ _ => cstB d c
  | .glb x d, .Name y _ => decide (x = y) && glB sc x && okN x && glbB mx.glb x d
  | .tup es, .Tuple es' _ _ => mEs mx N sc es es' && decide (es.length < 1000)
  | .lst es, .List es' _ => mEs mx N sc es es' && decide (es.length < 1000)
  | .dnK, .Dict ks vs _ => ks.isEmpty && vs.isEmpty
  | .dnT, .Dict ks vs _ => ks.isEmpty && vs.isEmpty
  | .bin op a b, .BinOp a' op' b' _ => decide (op = op') && mE mx N sc a a' && mE mx N sc b b'
  | .neg a, .UnaryOp op a' _ => decide (op = .USub) && mE mx N sc a a'
  | .not a, .UnaryOp op a' _ => decide (op = .Not) && mE mx N sc a a'
  | .bop c es, .BoolOp op es' _ => decide (op = (if c then .And else .Or)) && mEs mx N sc es es'
  | .cmp op a b, .Compare a' ops bs _ => match ops, bs with
    | [op'], [b'] => decide (op = op') && mE mx N sc a a' && mE mx N sc b b'
    | _, _ => false
  | .chn op1 op2 a b c, .Compare a' ops bs _ => match ops, bs with
    | [o1, o2], [b', c'] => decide (op1 = o1) && decide (op2 = o2) && mE mx N sc a a' && mE mx N sc b b' && mE mx N sc c c'
    | _, _ => false
  | .idx a i, .Subscript a' i' _ => mE mx N sc a a' && mE mx N sc i i'
  | .slc a lo hi, .Subscript a' s _ => match s with
    | .Slice lo' hi' st _ => st.isNone && mE mx N sc a a' && mO mx N sc lo lo' && mO mx N sc hi hi'
    | _ => false
  | .sls a lo hi k, .Subscript a' s _ => match s with
    | .Slice lo' hi' (some (.Constant (.int c) _ _)) _ => decide (k ≠ 0) && decide (c = (k : Int)) && mE mx N sc a a' && mO mx N sc lo lo' && mO mx N sc hi hi'
    | _ => false
  | .call f es, .Call g es' kws _ => match g, kws with
    | .Name x _, [] => !mx.hot && decide (mx.fns[f]? = some (x, es.length)) && glB sc x && okN x && !es'.isEmpty && mEs mx N sc es es'
    | _, _ => false
  | .bi b es, .Call g es' kws _ => match g, kws with
    | .Name x _, [] => (!mx.hot || b.cool) && decide (b.name = x) && decide (es.length = b.args) && glB sc x && mEs mx N sc es es'
    | _, _ => false
  | .isi a c, .Call g es' kws _ => match g, kws, es' with
    | .Name x _, [], [a', .Name y _] => decide (x = "isinstance") && decide (c.name = y) && glB sc x && glB sc y && mE mx N sc a a'
    | _, _, _ => false
  | .eis i tbl, .Call g es' kws _ => match g, kws, es' with
    | .Name x _, [], [.Name y _, c'] => mx.hot && decide (x = "isinstance") && glB sc x && decide (N[i]? = some y) && visB sc y && okN y && eisB mx sc tbl c'
    | _, _, _ => false
  | .mth a m es, .Call g es' kws cp => match g, kws with
    | .Attribute a' n ap, [] => decide (m.name = n) && decide (es.length = m.args) && (ap.endLine == cp.line) && noC0 a' && mE mx N sc a a' && mEs mx N sc es es'
    | _, _ => false
  | .lcR i none hi elt c, .ListComp elt' gs scope _ => match gs with
    | [⟨.Name x _, .Call (.Name r _) [hi'] [] _, ifs, 0⟩] => !mx.hot && decide (N[i]? = some x) && decide (r = "range") && glB sc r && blkC N sc scope [(x, i)] && lclB (relS scope sc) x &&
        mE mx N sc hi hi' && mE mx N (relS scope sc) elt elt' && mC mx N (relS scope sc) c ifs
    | _ => false
  | .lcR i (some lo) hi elt c, .ListComp elt' gs scope _ => match gs with
    | [⟨.Name x _, .Call (.Name r _) [lo', hi'] [] _, ifs, 0⟩] => !mx.hot && decide (N[i]? = some x) && decide (r = "range") && glB sc r && blkC N sc scope [(x, i)] && lclB (relS scope sc) x &&
        (mE mx N sc lo lo' && mE mx N sc hi hi') && mE mx N (relS scope sc) elt elt' && mC mx N (relS scope sc) c ifs
    | _ => false
  | .lc i src elt c, .ListComp elt' gs scope _ => match gs with
    | [⟨.Name x _, src', ifs, 0⟩] => !mx.hot && decide (N[i]? = some x) && blkC N sc scope [(x, i)] && lclB (relS scope sc) x && mE mx N sc src src' && mE mx N (relS scope sc) elt elt' && mC mx N (relS scope sc) c ifs
    | _ => false
  | _, _ => false
def mEs (mx : Mx) (N : List Str) (sc : Scope) : List E → List Expr → Bool
  | [], [] => true
  | e :: es, e' :: es' => mE mx N sc e e' && mEs mx N sc es es'
  | _, _ => false
def mO (mx : Mx) (N : List Str) (sc : Scope) : Option E → Option Expr → Bool
  | none, none => true
  | some e, some e' => mE mx N sc e e'
  | _, _ => false
def mC (mx : Mx) (N : List Str) (sc : Scope) : Option E → List Expr → Bool
  | none, [] => true
  | some e, [e'] => mE mx N sc e e'
  | _, _ => false
end
end Gl

set_option Elab.async false
set_option linter.all false
set_option maxRecDepth 100000
set_option maxHeartbeats 4000000
/-! GlF: the checker of expressions is right. -/
namespace Gl
open PySem L2

theorem peImp {X : Cx} {e : Expr} {t t' : TE} (h : PE X e t) (i : ∀ σ H Q, t' σ H Q → t σ H Q) : PE X e t' := ⟨fun pins s σ H Q I q => h.run pins s σ H Q I (i _ _ _ q)⟩
theorem ptImp {X : Cx} {e : Expr} {t t' : TT} (h : PT X e t) (i : ∀ σ H Q, t' σ H Q → t σ H Q) : PT X e t' := ⟨fun pins s σ H Q I q => h.run pins s σ H Q I (i _ _ _ q)⟩
theorem pwImp {X : Cx} {e : Expr} {t t' : TT} (h : PW X e t) (i : ∀ σ H Q, t' σ H Q → t σ H Q) : PW X e t' := ⟨fun wh pins s σ H Q I q => h.run wh pins s σ H Q I (i _ _ _ q)⟩
theorem paImp {X : Cx} {e : List Expr} {t t' : TA} (h : PA X e t) (i : ∀ σ H Q, t' σ H Q → t σ H Q) : PA X e t' := ⟨fun pos pins s σ H Q I q => h.run pos pins s σ H Q I (i _ _ _ q)⟩

/-! ### a def's promise, by the evaluator -/
/-- what is handed back lies there; what was handed over to be changed lies where it lay -/
def RelR (K : PySem.W.Frag) (mg : Str → Option Value) (G0 H0 : Hp) (r : T) (v : V) (H' : Hp) : Prop :=
  (∀ t p, r = .io t p → ∃ a k ts, p = .pin a k ts ∧ Rel K mg G0 H0 [some t, some p] [some v, some (.ref a)] H') ∧ (r.isV = true → Rel K mg G0 H0 [some r] [some v] H')
theorem RelR.of {K : PySem.W.Frag} {mg : Str → Option Value} {G0 H0 H' : Hp} {t : T} {v : V} (h : Rel K mg G0 H0 [some t] [some v] H') : RelR K mg G0 H0 t v H' := by
  refine ⟨fun u p e => ?_, fun _ => h⟩
  subst e
  obtain ⟨G, F, r⟩ := h
  obtain ⟨w, _, o⟩ := r.own 0 _ rfl
  cases o
def spP (K : PySem.W.Frag) (mg : Str → Option Value) (call : Nat → List T → Rs T) (f n : Nat) : Sp := fun vs H Q E => vs.length = n ∧ ∃ G H0 F ts, ts.length = n ∧ RelG K mg G H0 G F (ts.map some) (vs.map some) H ∧
  RsP (call f ts) (fun t => ∀ v H', RelR K mg G H0 t v H' → Q v H') (fun c => ∀ H' C, Same H0 H' → mg c = some (.ref C) → E (.ref C) none H')
theorem OwnL.each {K : PySem.W.Frag} {mg : Str → Option Value} {G H : Hp} : ∀ {ts : List T} {vs : List V}, OwnL K mg G H ts vs [] → ∀ (i : Nat) (t : T), ts[i]? = some t → ∃ v, vs[i]? = some v ∧ Own K mg G H t v [] := fun {ts vs} h i t e => by
  obtain ⟨v, g, h1, h2, h3⟩ := h.get e
  have : g = [] := by
    cases g with
    | nil => rfl
    | cons b g => exact absurd (h3 b List.mem_cons_self) (by simp)
  subst this
  exact ⟨v, h1, h2⟩
/-- plain arguments -/
theorem RelG.plain {K : PySem.W.Frag} {mg : Str → Option Value} {G H : Hp} {ts : List T} {vs : List V} (gh : Same G H) (o : OwnL K mg G H ts vs []) : RelG K mg G H G (fun _ => []) (ts.map some) (vs.map some) H := by
  refine ⟨fun i t q => ?_, fun _ _ _ => List.nodup_nil, (fun _ _ _ b hb => nomatch hb), (fun _ _ _ _ _ _ _ b hb => nomatch hb), gh, Same.refl G, fun b h _ => .inl h, Same.refl H⟩
  rw [List.getElem?_map] at q
  cases h : ts[i]? with
  | none => rw [h] at q; cases q
  | some u =>
    rw [h] at q
    cases q
    obtain ⟨v, h1, h2⟩ := o.each i t h
    exact ⟨v, by rw [List.getElem?_map, h1]; rfl, h2⟩
def blNames : List Str := ["len", "list", "tuple", "str", "max", "min", "sorted", "isinstance", "int", "bool", "range", "set", "dict"]
def bmVE : List Value := [.type "ValueError", .type "Exception", .type "BaseException", .type "object"]
/-- a class of refusals -/
structure ExF (K : PySem.W.Frag) (C : Addr) : Prop where
  x : PySem.W.excIn K C bmVE "ValueError.__new__" = true
  k : PySem.W.keepIn K (.ref C) = true
  b : PySem.W.subIn K (.ref C) (.type "BaseException") = some true
  t : PySem.W.typeIn K (.ref C) = some (.type "type")
  c : ExcC K C
/-- isinstance(e, (..)), e held -/
def rIsET (K : PySem.W.Frag) (D a : Addr) : List V → Hp → VK → Prop := fun xs H Q => ∃ (tp : Addr) (cs : List V) (us : List Value) (b : Bool), xs = [.ref a, .ref tp] ∧ H tp = some (.tup cs) ∧ Paired ClsV cs us ∧ PySem.W.kitAny K (.ref D) us = some b ∧ Q (.bl b) H
/-- what the module's names hold -/
structure Md (P : Program) (w : World) (K : PySem.W.Frag) (mg : Str → Option Value) (base : Heap) (mx : Mx) (call : Nat → List T → Rs T) (k : Nat) : Prop where
  fn : mx.hot = false → ∀ (f : Nat) (x : Str) (n : Nat), mx.fns[f]? = some (x, n) → ∃ (a : Addr) (fd : FuncData) (ps : List Str), mg x = some (.ref a) ∧ PySem.W.keepIn K (.ref a) = true ∧ Binds K fd ps [] ∧ ps.length = n ∧
    FnOk P w K mg base (L2.CX P w) k a fd ps (spP K mg call f n)
  bl : ∀ x ∈ blNames, mg x = none
  cl : ∀ x ∈ mx.cls, ∃ C, mg x = some (.ref C) ∧ ExF K C
  em : ∀ p ∈ mx.exm, ∃ C D, mg p.1 = some (.ref C) ∧ mg p.2.1 = some (.ref D) ∧ PySem.W.exmOne K (.ref C) (.ref D) = some p.2.2
  ki : ∀ p ∈ mx.kit, ∃ C, mg p.1 = some (.ref C) ∧ ((∃ D, mg p.2.1 = some (.ref D) ∧ PySem.W.kitOne K (.ref C) (.ref D) = some p.2.2) ∨ (p.2.1 = "ValueError" ∧ mg "ValueError" = none ∧ PySem.W.kitOne K (.ref C) (.type "ValueError") = some p.2.2))
  gl : ∀ (x : Str) (d : PyData), (x, d) ∈ mx.glb → ∃ v u, mg x = some u ∧ RelV v u ∧ ∀ G, Rp K G d v
structure OkX (mx : Mx) (call : Nat → List T → Rs T) (k : Nat) (X : Cx) : Prop where
  nd : X.N.Nodup
  calm : mx.hot = false → X.calm = true
  room : mx.hot = false → Room k X.A
  un : X.A.units + 16 * k + 200 < cLine
  md : Md X.prog X.w X.K X.mg X.base mx call k
  held : mx.hot = true → ∀ (a : Nat) (c : Str) (t : T), call HX [.exc a c] = .ok t → ∃ C, X.mg c = some (.ref C) ∧ CallR X (.builtin "isinstance") (rIsE X.K C a) ∧ CallR X (.builtin "isinstance") (rIsET X.K C a)

section
variable (K : PySem.W.Frag) (mg : Str → Option Value) (W : WX) (call : Nat → List T → Rs T)
def tT (e : E) : TT := fun σ H Q => ∃ G0 H0 ρ τ σt, Ro K mg G0 H0 ρ σ τ σt H ∧ RsP ((evX call true e ρ).bind fun t => .of (truT t)) (fun b => ∀ H' τ' σt', Ro K mg G0 H0 ρ σ τ' σt' H' → Same H H' → τ <+: τ' → σt <+: σt' → Q b H') (PX K mg W G0 H0 ρ σ τ σt H)
def tOp' (o : Option E) : TO := fun σ H Q => ∃ G0 H0 ρ τ σt, Ro K mg G0 H0 ρ σ τ σt H ∧ RsP (evO call o ρ) (fun b => ∀ H' τ' σt', Ro K mg G0 H0 ρ σ τ' σt' H' → Same H H' → τ <+: τ' → σt <+: σt' → Q b H') (PX K mg W G0 H0 ρ σ τ σt H)
def tBv (c : Bool) (es : List E) : TE := fun σ H Q => ∃ G0 H0 ρ τ σt, Ro K mg G0 H0 ρ σ τ σt H ∧ RsP (evB call c es ρ) (fun t => PN K mg G0 H0 ρ σ τ σt H t Q) (PX K mg W G0 H0 ρ σ τ σt H)
def tBt (c : Bool) (es : List E) : TT := fun σ H Q => ∃ G0 H0 ρ τ σt, Ro K mg G0 H0 ρ σ τ σt H ∧ RsP ((evB call c es ρ).bind fun t => .of (truT t)) (fun b => ∀ H' τ' σt', Ro K mg G0 H0 ρ σ τ' σt' H' → Same H H' → τ <+: τ' → σt <+: σt' → Q b H') (PX K mg W G0 H0 ρ σ τ σt H)
end
variable {mx : Mx} {call : Nat → List T → Rs T} {k : Nat}
/-- looked at or taken: the same, but for names -/
theorem evX_pk {call : Nat → List T → Rs T} {e : E} {ρ : Env} {P : T → Prop} {PX : Str → Prop} (h : RsP (evX call false e ρ) P PX) : RsP (evX call true e ρ) P PX := by
  cases e with
  | var i =>
    simp only [evX] at h ⊢
    split at h
    · exact h.elim
    · next t _ ht =>
      cases hp : t.plain with
      | true => rw [hp] at h; exact h
      | false => rw [hp] at h; exact h.elim
    · exact h.elim
  | _ => exact h
def SE (mx : Mx) (call : Nat → List T → Rs T) (k : Nat) (e' : E) : Prop := ∀ (X : Cx) (W : WX) (e : Expr), OkX mx call k X → Takes X W → mE mx X.N X.env.scope e' e = true →
  PE X e (tE X.K X.mg W call e') ∧ PE X e (tO X.K X.mg W call e') ∧ PT X e (tT X.K X.mg W call e')
def SEs (mx : Mx) (call : Nat → List T → Rs T) (k : Nat) (es' : List E) : Prop := ∀ (X : Cx) (W : WX) (es : List Expr), OkX mx call k X → Takes X W → mEs mx X.N X.env.scope es' es = true →
  PA X es (tEs X.K X.mg W call es') ∧ PA X es (tOs X.K X.mg W call es') ∧ (es' ≠ [] → ∀ (c : Bool) (pos : Pos), PE X (.BoolOp (if c then .And else .Or) es pos) (tBv X.K X.mg W call c es') ∧ PW X (.BoolOp (if c then .And else .Or) es pos) (tBt X.K X.mg W call c es'))
def SO (mx : Mx) (call : Nat → List T → Rs T) (k : Nat) (o : Option E) : Prop := (∀ (X : Cx) (W : WX) (e : Option Expr), OkX mx call k X → Takes X W → mO mx X.N X.env.scope o e = true → PO X e (tOp' X.K X.mg W call o)) ∧ ∀ e, o = some e → SE mx call k e

/-- from a reading as a new temporary the other two -/
theorem of_tE {X : Cx} {W : WX} {e' : E} {e : Expr} (h : PE X e (tE X.K X.mg W call e')) (hp : ∀ ρ, evX call true e' ρ = evX call false e' ρ) (ht : ∀ whole, isTrue e X.env whole = (do let v ← whole; standAt e.pos; holding [v] (truthy v))) :
    PE X e (tE X.K X.mg W call e') ∧ PE X e (tO X.K X.mg W call e') ∧ PT X e (tT X.K X.mg W call e') := by
  refine ⟨h, peImp h fun σ H Q ⟨G0, H0, ρ, τ, σt, R, m⟩ => ⟨G0, H0, ρ, τ, σt, R, ?_⟩, ptImp (pt_val h ht) fun σ H Q ⟨G0, H0, ρ, τ, σt, R, m⟩ => ⟨G0, H0, ρ, τ, σt, R, ?_⟩⟩
  · rw [hp] at m
    exact m.imp (fun t _ q => q.pn R.l1 R.l2) fun _ q => q
  · rw [hp] at m
    refine (RsP.bind m).imp (fun t _ q => ?_) fun _ q => q
    obtain ⟨b, hb, q⟩ := RsP.of q
    intro v H' R' s
    have ev : v = .bl b := by
      obtain ⟨G, F, r⟩ := R'.rel
      obtain ⟨f, o⟩ := r.held (Hld.last (H := H') R.l1 R.l2)
      cases t with
      | imm d => cases d <;> simp [truT] at hb; subst hb; exact o.bl
      | _ => simp [truT] at hb
    exact ⟨b, ev, q H' _ _ R' s (List.prefix_append ..) (List.prefix_append ..)⟩
theorem tO_imp {K : PySem.W.Frag} {mg : Str → Option Value} {W : WX} {e : E} {σ : St} {H : Hp} {Q Q' : VK} (h : tO K mg W call e σ H Q) (i : ∀ v H1, Q v H1 → Q' v H1) : tO K mg W call e σ H Q' :=
  let ⟨G0, H0, ρ, τ, σt, R, m⟩ := h
  ⟨G0, H0, ρ, τ, σt, R, m.imp (fun _ _ q => fun v H' τ' σt' R' s p1 p2 hh => i _ _ (q v H' τ' σt' R' s p1 p2 hh)) fun _ q => q⟩
theorem tT_imp {K : PySem.W.Frag} {mg : Str → Option Value} {W : WX} {e : E} {σ : St} {H : Hp} {Q Q' : Bool → Hp → Prop} (h : tT K mg W call e σ H Q) (i : ∀ v H1, Q v H1 → Q' v H1) : tT K mg W call e σ H Q' :=
  let ⟨G0, H0, ρ, τ, σt, R, m⟩ := h
  ⟨G0, H0, ρ, τ, σt, R, m.imp (fun _ _ q => fun H' τ' σt' R' s p1 p2 => i _ _ (q H' τ' σt' R' s p1 p2)) fun _ q => q⟩
end Gl

set_option Elab.async false
set_option linter.all false
set_option maxRecDepth 100000
set_option maxHeartbeats 4000000
/-! GlG: the forms of expressions, one by one. -/
namespace Gl
open PySem L2

/-! ### the state: several temporaries put into one node -/
section
variable {K : PySem.W.Frag} {mg : Str → Option Value} {G0 H0 G H H' : Hp} {F : Nat → List Addr} {ρ : Env} {σ : St}
theorem RelG.collect : ∀ {ts : List T} {vs : List V} {ρ : Env} {σ : St}, ρ.length = σ.length → vs.length = ts.length → RelG K mg G0 H0 G F (ρ ++ ts.map some) (σ ++ vs.map some) H →
    ∃ f, OwnL K mg G H ts vs f ∧ f.Nodup ∧ ∀ b ∈ f, ∃ i t, ρ.length ≤ i ∧ (ρ ++ ts.map some)[i]? = some (some t) ∧ b ∈ F i
  | [], vs, ρ, σ, _, hv, _ => by
    cases vs with
    | nil => exact ⟨[], .nil, List.nodup_nil, fun b hb => nomatch hb⟩
    | cons => simp at hv
  | t :: ts, vs, ρ, σ, hl, hv, R => by
    cases vs with
    | nil => simp at hv
    | cons v vs =>
      have e1 : ρ ++ (t :: ts).map some = (ρ ++ [some t]) ++ ts.map some := by simp
      have e2 : σ ++ (v :: vs).map some = (σ ++ [some v]) ++ vs.map some := by simp
      have R2 : RelG K mg G0 H0 G F ((ρ ++ [some t]) ++ ts.map some) ((σ ++ [some v]) ++ vs.map some) H := by rw [← e1, ← e2]; exact R
      obtain ⟨f, o, nd, hf⟩ := RelG.collect (ρ := ρ ++ [some t]) (σ := σ ++ [some v]) (by simp [hl]) (by simpa using hv) R2
      have hi : (ρ ++ (t :: ts).map some)[ρ.length]? = some (some t) := by rw [List.getElem?_append_right (Nat.le_refl _)]; simp
      obtain ⟨w, q, ow⟩ := R.own _ t hi
      have hw : w = v := by
        rw [hl, List.getElem?_append_right (Nat.le_refl _)] at q
        simpa using q.symm
      subst hw
      refine ⟨F ρ.length ++ f, .cons ow o, List.nodup_append.mpr ⟨R.nd _ t hi, nd, fun a ha b hb e => ?_⟩, fun b hb => ?_⟩
      · subst e
        obtain ⟨i, u, h1, h2, h3⟩ := hf a hb
        rw [← e1] at h2
        simp only [List.length_append, List.length_cons, List.length_nil] at h1
        exact R.apart _ _ t u (by omega) hi h2 a ha h3
      · rcases List.mem_append.mp hb with hb | hb
        · exact ⟨_, t, Nat.le_refl _, hi, hb⟩
        · obtain ⟨i, u, h1, h2, h3⟩ := hf b hb
          rw [← e1] at h2
          simp only [List.length_append, List.length_cons, List.length_nil] at h1
          exact ⟨i, u, by omega, h2, h3⟩
theorem RelG.drop {τ : Env} {σt : St} (hl : ρ.length = σ.length) (R : RelG K mg G0 H0 G F (ρ ++ τ) (σ ++ σt) H) : RelG K mg G0 H0 G F ρ σ H :=
  R.weak fun i t e => by
    have hi := (List.getElem?_eq_some_iff.mp e).1
    exact ⟨by rw [List.getElem?_append_left hi]; exact e, by rw [List.getElem?_append_left (by omega)]⟩
/-- a new object over the temporaries -/
theorem RelG.mkNode {k : Kind} {p : Addr} {ob : HO} {ts : List T} {vs : List V} (hl : ρ.length = σ.length) (hv : vs.length = ts.length) (R : RelG K mg G0 H0 G F (ρ ++ ts.map some) (σ ++ vs.map some) H)
    (hp : H p = none) (x : Sh mg (upd H p ob) k p vs []) (it : k = .tup → imms ts = none) : Rel K mg G0 H0 (ρ ++ [some (.node k ts)]) (σ ++ [some (.ref p)]) (upd H p ob) := by
  obtain ⟨f, o, nd, hf⟩ := RelG.collect hl hv R
  have R1 := R.drop hl
  have gp : G p = none := by
    cases q : G p with
    | none => rfl
    | some o => rw [R.gh p o q] at hp; cases hp
  have h0p : H0 p = none := by
    cases q : H0 p with
    | none => rfl
    | some o => rw [R.h0 p o q] at hp; cases hp
  have s := same_upd (o := ob) hp
  have pf : p ∉ f := fun z => by
    obtain ⟨ob', q⟩ := o.dom p z
    rw [hp] at q; cases q
  have old : ∀ {i : Nat} {u : T}, (ρ ++ [some (T.node k ts)])[i]? = some (some u) → i ≠ ρ.length → ρ[i]? = some (some u) ∧ (σ ++ [some (V.ref p)])[i]? = σ[i]? := fun {i u} e n => by
    have hi : i < ρ.length := by
      have := (List.getElem?_eq_some_iff.mp e).1
      simp at this
      omega
    exact ⟨by rwa [List.getElem?_append_left hi] at e, by rw [List.getElem?_append_left (by omega)]⟩
  have nf : ∀ (i : Nat) (u : T), ρ[i]? = some (some u) → ∀ b ∈ F i, b ∉ p :: ([] ++ f) := fun i u e b hb z => by
    rcases List.mem_cons.mp z with z | z
    · obtain ⟨w, _, ow⟩ := R1.own i u e
      obtain ⟨ob', q⟩ := ow.dom b hb
      rw [z, hp] at q; cases q
    · obtain ⟨j, t, h1, h2, h3⟩ := hf b z
      have hi := (List.getElem?_eq_some_iff.mp e).1
      exact R.apart i j u t (by omega) (by rw [List.getElem?_append_left hi]; exact e) h2 b hb h3
  refine ⟨G, fun i => if i = ρ.length then p :: ([] ++ f) else F i, fun i u e => ?_, fun i u e => ?_, fun i u e b hb => ?_, fun i j u w n e1 e2 b hb => ?_, R1.gh.trans s, R1.g0, R1.gx, R1.h0.trans s⟩
  · by_cases hi : i = ρ.length
    · subst hi
      simp at e
      subst e
      refine ⟨.ref p, by rw [hl]; simp, ?_⟩
      simp only [if_true]
      exact .node x (o.keep (Same.refl G) fun b hb ob' q => s b ob' q) it
    · obtain ⟨e1, e2⟩ := old e hi
      obtain ⟨w, q, ow⟩ := R1.own i u e1
      exact ⟨w, e2.trans q, by simp only [hi, if_false]; exact ow.keep (Same.refl G) fun b hb ob' q => s b ob' q⟩
  · by_cases hi : i = ρ.length
    · simp only [hi, if_true]
      exact List.nodup_cons.mpr ⟨by simpa using pf, by simpa using nd⟩
    · simp only [hi, if_false]
      exact R1.nd i u (old e hi).1
  · by_cases hi : i = ρ.length
    · simp only [hi, if_true] at hb
      rcases List.mem_cons.mp hb with z | z
      · rw [z]; exact ⟨gp, h0p⟩
      · obtain ⟨j, t, h1, h2, h3⟩ := hf b z
        exact R.free j t h2 b h3
    · simp only [hi, if_false] at hb
      exact R1.free i u (old e hi).1 b hb
  · by_cases hi : i = ρ.length
    · by_cases hj : j = ρ.length
      · exact absurd (hi.trans hj.symm) n
      · simp only [hi, if_true] at hb
        simp only [hj, if_false]
        exact fun z => nf j w (old e2 hj).1 b z hb
    · by_cases hj : j = ρ.length
      · simp only [hi, if_false] at hb
        simp only [hj, if_true]
        exact nf i u (old e1 hi).1 b hb
      · simp only [hi, if_false] at hb
        simp only [hj, if_false]
        exact R1.apart i j u w n (old e1 hi).1 (old e2 hj).1 b hb
end

theorem pl_of {mx : Mx} {N : List Str} {sc : Scope} {e' : E} {e : Expr} (h : mE mx N sc e' e = true) : pl e = true := by
  cases e' <;> cases e <;> first | rfl | exact Bool.noConfusion h | (rename_i lo _ _ _ _ _ _ _; cases lo <;> exact Bool.noConfusion h) | (rename_i lo _ _ _ _ _ _; cases lo <;> exact Bool.noConfusion h) | (rename_i lo _ _ _ _ _; cases lo <;> exact Bool.noConfusion h) | (rename_i lo _ _ _ _ _ _ _ _; cases lo <;> exact Bool.noConfusion h) | (rename_i lo _ _ _ _; cases lo <;> exact Bool.noConfusion h) | (rename_i lo _ _ _ _ _ _ _ _ _; cases lo <;> exact Bool.noConfusion h)
theorem pls_of {mx : Mx} {N : List Str} {sc : Scope} : ∀ {es' : List E} {es : List Expr}, mEs mx N sc es' es = true → es.all pl = true
  | [], [], _ => rfl
  | [], _ :: _, h => Bool.noConfusion h
  | _ :: _, [], h => Bool.noConfusion h
  | e' :: es', e :: es, h => by
    have h' : (mE mx N sc e' e && mEs mx N sc es' es) = true := h
    rw [Bool.and_eq_true] at h'
    rw [List.all_cons, pl_of h'.1, pls_of h'.2]; rfl
variable {mx : Mx} {call : Nat → List T → Rs T} {k : Nat}
theorem OkX.hu {X : Cx} (ok : OkX mx call k X) : X.A.units + 65 < cLine := by have := ok.un; omega
section
variable {K : PySem.W.Frag} {mg : Str → Option Value} {G0 H0 H : Hp} {ρ : Env} {σ : St} {τ : Env} {σt : St}
theorem Ro.get {i : Nat} {t : T} (R : Ro K mg G0 H0 ρ σ τ σt H) (e : ρ[i]? = some (some t)) : (ρ ++ τ)[i]? = some (some t) ∧ ∃ v, σ[i]? = some (some v) ∧ (σ ++ σt)[i]? = some (some v) := by
  have hi := (List.getElem?_eq_some_iff.mp e).1
  have e1 : (ρ ++ τ)[i]? = some (some t) := by rw [List.getElem?_append_left hi]; exact e
  obtain ⟨v, q⟩ := R.rel.slot e1
  have q2 := q
  rw [List.getElem?_append_left (by rw [← R.l1]; exact hi)] at q2
  exact ⟨e1, v, q2, q⟩
end

/-! ### names and constants -/
theorem truT_bl {t : T} {b : Bool} (h : truT t = some b) : t = .imm (.bool b) := by
  cases t with
  | imm d => cases d <;> simp [truT] at h; subst h; rfl
  | _ => simp [truT] at h
theorem Hld.tru {K : PySem.W.Frag} {mg : Str → Option Value} {G0 H0 H : Hp} {ρ : Env} {σ : St} {t : T} {v : V} {b : Bool} (R : Rel K mg G0 H0 ρ σ H) (h : Hld ρ σ H t v) (e : truT t = some b) : v = .bl b := by
  obtain ⟨G, F, r⟩ := R
  obtain ⟨f, o⟩ := r.held h
  rw [truT_bl e] at o
  exact o.bl
theorem se_var (i : Nat) : SE mx call k (.var i) := fun X W e ok tk h => by
  cases e with
  | Name x pos =>
    have h : (decide (X.N[i]? = some x) && visB X.env.scope x && okN x) = true := h
    simp only [Bool.and_eq_true, decide_eq_true_eq] at h
    obtain ⟨⟨h1, h2⟩, h3⟩ := h
    have base : PE X (.Name x pos) (tVar i) := pe_var h1 (visB_ok h2) (okN_1 h3) (okN_2 h3)
    have ho : PE X (.Name x pos) (tO X.K X.mg W call (.var i)) := peImp base fun σ H Q ⟨G0, H0, ρ, τ, σt, R, m⟩ => by
      simp only [evX] at m
      split at m
      · next a kd us ht =>
        obtain ⟨e1, v, q1, q2⟩ := R.get ht
        rw [if_pos (by simp)] at m
        exact ⟨v, q1, m v H τ σt R (Same.refl H) List.prefix_rfl List.prefix_rfl (Hld.pin e1 q2)⟩
      · next t _ ht =>
        obtain ⟨e1, v, q1, q2⟩ := R.get ht
        rw [if_pos (by simp)] at m
        exact ⟨v, q1, m v H τ σt R (Same.refl H) List.prefix_rfl List.prefix_rfl (Hld.slot e1 q2)⟩
      · exact m.elim
    refine ⟨peImp base fun σ H Q ⟨G0, H0, ρ, τ, σt, R, m⟩ => ?_, ho, ptImp (pt_val ho (by intro _; rfl)) fun σ H Q ⟨G0, H0, ρ, τ, σt, R, m⟩ => ⟨G0, H0, ρ, τ, σt, R, (RsP.bind m).imp (fun t _ q => ?_) fun _ q => q⟩⟩
    · simp only [evX, Bool.false_or] at m
      split at m
      · next a kd us ht => rw [if_neg (by simp)] at m; exact m.elim
      · next t _ ht =>
        split at m
        · next hp =>
          obtain ⟨e1, v, q1, q2⟩ := R.get ht
          refine ⟨v, q1, m v H ⟨R.l1, by simp [R.l2], ?_⟩ (Same.refl H)⟩
          obtain ⟨G, F, r⟩ := R.rel
          obtain ⟨w, z, o⟩ := r.own _ t e1
          rw [q2] at z; cases z
          rw [(o.plain hp).1] at o
          rw [← List.append_assoc, ← List.append_assoc]
          exact r.push R.len (Same.refl H) (Same.refl G) r.gh (fun b h _ => .inl h) o List.nodup_nil fun b hb => nomatch hb
        · exact m.elim
      · exact m.elim
    · obtain ⟨b, hb, q⟩ := RsP.of q
      exact fun v H' τ' σt' R' s p1 p2 hh => ⟨b, hh.tru R'.rel hb, q H' τ' σt' R' s p1 p2⟩
  | _ => exact Bool.noConfusion h
/-- a value that is there at once -/
theorem te_now {X : Cx} {W : WX} {e' : E} {e : Expr} {d : PyData} {v : V} (base : PE X e (tC v)) (hr : ∀ G, Rp X.K G d v) (he : ∀ ρ, evX call false e' ρ = if isScal d then .ok (.imm d) else .no) : PE X e (tE X.K X.mg W call e') :=
  peImp base fun σ H Q ⟨G0, H0, ρ, τ, σt, R, m⟩ => by
    rw [he] at m
    split at m
    · obtain ⟨G, F, r⟩ := R.rel
      exact r.newI R.len (hr G) (m.nw R.l1 R.l2)
    · exact m.elim
theorem se_cst (d : PyData) : SE mx call k (.cst d) := fun X W e ok tk h => by
  cases e with
  | Constant c j pos =>
    have h : cstB d c = true := h
    refine of_tE (?_ : PE X (.Constant c j pos) (tE X.K X.mg W call (.cst d))) (fun ρ => rfl) (fun _ => rfl)
    cases d <;> cases c <;> first | exact Bool.noConfusion h | skip
    · exact te_now pe_non (fun G => .non) fun ρ => rfl
    · have h := beq_iff_eq.mp h; subst h; exact te_now pe_bl (fun G => .bl _) fun ρ => rfl
    · have h := of_decide_eq_true h; subst h; exact te_now pe_int (fun G => .int _) fun ρ => rfl
    · have h := of_decide_eq_true h; subst h; exact te_now pe_str (fun G => .str _) fun ρ => rfl
  | _ => exact Bool.noConfusion h
theorem scalEq_ok {d e : PyData} (h : scalEq d e = true) : d = e := by
  cases d <;> cases e <;> first | exact Bool.noConfusion h | skip
  · rfl
  · rw [beq_iff_eq.mp h]
  · rw [of_decide_eq_true h]
  · rw [of_decide_eq_true h]
theorem se_glb (x : Str) (d : PyData) : SE mx call k (.glb x d) := fun X W e ok tk h => by
  cases e with
  | Name y pos =>
    have h : (decide (x = y) && glB X.env.scope x && okN x && glbB mx.glb x d) = true := h
    simp only [Bool.and_eq_true, decide_eq_true_eq] at h
    obtain ⟨⟨⟨rfl, h1⟩, h2⟩, h3⟩ := h
    obtain ⟨p, hp, hp2⟩ := List.any_eq_true.mp h3
    simp only [Bool.and_eq_true, decide_eq_true_eq] at hp2
    obtain ⟨e1, e2⟩ := hp2
    have e2 := scalEq_ok e2
    obtain ⟨v, u, h4, h5, h6⟩ := ok.md.gl x d (by rw [← e1, ← e2]; exact hp)
    exact of_tE (te_now (pe_glob (glB_ok h1) h4 h5 (okN_1 h2)) h6 fun ρ => rfl) (fun ρ => rfl) (fun _ => rfl)
  | _ => exact Bool.noConfusion h

/-! ### displays -/
theorem evXs_len {call : Nat → List T → Rs T} {pk : Bool} : ∀ {es : List E} {ρ : Env} {ts : List T}, evXs call pk es ρ = .ok ts → ts.length = es.length
  | [], ρ, ts, h => by simp only [evXs] at h; cases h; rfl
  | e :: es, ρ, ts, h => by
    simp only [evXs] at h
    cases h1 : evX call pk e ρ with
    | ok t =>
      rw [h1] at h
      cases h2 : evXs call pk es ρ with
      | ok us =>
        simp only [Rs.bind, h2] at h
        cases h
        rw [List.length_cons, List.length_cons, evXs_len h2]
      | ex c => simp only [Rs.bind, h2] at h; cases h
      | no => simp only [Rs.bind, h2] at h; cases h
    | ex c => rw [h1] at h; cases h
    | no => rw [h1] at h; cases h
theorem se_tup {es' : List E} (hs : SEs mx call k es') : SE mx call k (.tup es') := fun X W e ok tk h => by
  cases e with
  | Tuple es j pos =>
    have h : (mEs mx X.N X.env.scope es' es && decide (es'.length < 1000)) = true := h
    simp only [Bool.and_eq_true, decide_eq_true_eq] at h
    refine of_tE (peImp (pe_tup (hs X W es ok tk h.1).1) fun σ H Q ⟨G0, H0, ρ, τ, σt, R, m⟩ => ?_) (fun ρ => rfl) (fun _ => rfl)
    refine ⟨G0, H0, ρ, τ, σt, R, (RsP.bind m).imp (fun ts ets q => ?_) fun _ q => q⟩
    intro vs H1 hv R1 s1
    have hlen : ts.length = es'.length := evXs_len ets
    refine ⟨by rw [hv, hlen]; exact Nat.le_of_lt (small1000 (Nat.le_of_lt h.2)), fun p hp => ?_⟩
    obtain ⟨G, F, r⟩ := R1.rel
    rw [← List.append_assoc, ← List.append_assoc] at r
    refine q _ _ ⟨R.l1, by simp [R.l2], ?_⟩ (s1.trans (same_upd hp))
    rw [← List.append_assoc, ← List.append_assoc]
    unfold mkTup
    cases hi : imms ts with
    | none => exact r.mkNode R.len hv hp (show _ ∧ _ from ⟨upd_same, rfl⟩) fun _ => hi
    | some ds =>
      obtain ⟨f, o, _⟩ := RelG.collect R.len hv r
      exact (r.drop R.len).pushT R.len hp (o.imms hi).1
  | _ => exact Bool.noConfusion h
theorem se_dnK : SE mx call k .dnK := fun X W e ok tk h => by
  cases e with
  | Dict ks vs pos =>
    have h : (ks.isEmpty && vs.isEmpty) = true := h
    simp only [Bool.and_eq_true, List.isEmpty_iff] at h
    obtain ⟨rfl, rfl⟩ := h
    refine of_tE (peImp pe_dnewK fun σ H Q ⟨G0, H0, ρ, τ, σt, R, m⟩ => ?_) (fun ρ => rfl) (fun _ => rfl)
    intro p hp
    obtain ⟨G, F, r⟩ := R.rel
    refine (m : PN _ _ _ _ _ _ _ _ _ _ _) (.ref p) _ ⟨R.l1, by simp [R.l2], ?_⟩ (same_upd hp)
    rw [← List.append_assoc, ← List.append_assoc]
    exact r.pushN (vs := []) R.len hp (show _ ∧ _ from ⟨⟨[], upd_same, rfl, rfl⟩, rfl⟩) .nil
  | _ => exact Bool.noConfusion h
theorem se_dnT : SE mx call k .dnT := fun X W e ok tk h => by
  cases e with
  | Dict ks vs pos =>
    have h : (ks.isEmpty && vs.isEmpty) = true := h
    simp only [Bool.and_eq_true, List.isEmpty_iff] at h
    obtain ⟨rfl, rfl⟩ := h
    refine of_tE (peImp pe_dnewT fun σ H Q ⟨G0, H0, ρ, τ, σt, R, m⟩ => ?_) (fun ρ => rfl) (fun _ => rfl)
    intro p hp
    obtain ⟨G, F, r⟩ := R.rel
    refine (m : PN _ _ _ _ _ _ _ _ _ _ _) (.ref p) _ ⟨R.l1, by simp [R.l2], ?_⟩ (same_upd hp)
    rw [← List.append_assoc, ← List.append_assoc]
    exact r.pushN (vs := []) R.len hp (show _ ∧ _ from ⟨⟨[], upd_same, rfl, rfl⟩, rfl⟩) .nil
  | _ => exact Bool.noConfusion h

/-! ### operators -/
/-- two operands, then the rule -/
theorem two {X : Cx} {W : WX} {a b : E} {σ : St} {H : Hp} {G0 H0 : Hp} {ρ τ : Env} {σt : St} {R2 : V → V → Hp → Prop} {P : T → T → Prop} (R : Ro X.K X.mg G0 H0 ρ σ τ σt H)
    (m : RsP (evX call true a ρ) (fun ta => RsP (evX call true b ρ) (fun tb => P ta tb) (PX X.K X.mg W G0 H0 ρ σ τ σt H)) (PX X.K X.mg W G0 H0 ρ σ τ σt H))
    (z : ∀ ta tb va vb H2 τ2 σt2, P ta tb → Ro X.K X.mg G0 H0 ρ σ τ2 σt2 H2 → Same H H2 → τ <+: τ2 → σt <+: σt2 → Hld (ρ ++ τ2) (σ ++ σt2) H2 ta va → Hld (ρ ++ τ2) (σ ++ σt2) H2 tb vb → R2 va vb H2) :
    tO X.K X.mg W call a σ H fun x H1 => tO X.K X.mg W call b σ H1 fun y H2 => R2 x y H2 :=
  ⟨G0, H0, ρ, τ, σt, R, m.imp (fun ta _ m1 => fun va H1 τ1 σt1 R1 s1 p1 q1 h1 => ⟨G0, H0, ρ, τ1, σt1, R1, m1.imp (fun tb _ m2 => fun vb H2 τ2 σt2 R2 s2 p2 q2 h2 =>
    z ta tb va vb H2 τ2 σt2 m2 R2 (s1.trans s2) (p1.trans p2) (q1.trans q2) (h1.grow s2 p2 q2) h2) fun c h => h.later R.l2 s1 p1 q1⟩) fun c h => h⟩
theorem se_bin {op : Operator} {a b : E} (ha : SE mx call k a) (hb : SE mx call k b) : SE mx call k (.bin op a b) := fun X W e ok tk h => by
  cases e with
  | BinOp a' op' b' pos =>
    have h : (decide (op = op') && mE mx X.N X.env.scope a a' && mE mx X.N X.env.scope b b') = true := h
    simp only [Bool.and_eq_true, decide_eq_true_eq] at h
    obtain ⟨⟨rfl, h1⟩, h2⟩ := h
    refine of_tE (peImp (pe_op (op_bin op) (ha X W a' ok tk h1).2.1 (hb X W b' ok tk h2).2.1) fun σ H Q ⟨G0, H0, ρ, τ, σt, R, m⟩ => ?_) (fun ρ => rfl) (fun _ => rfl)
    refine two R ((RsP.bind m).imp (fun ta _ m1 => RsP.bind m1) fun _ q => q) fun ta tb va vb H2 τ2 σt2 m2 R2 s p q h1 h2 => ?_
    obtain ⟨t, et, m3⟩ := RsP.of m2
    obtain ⟨G, F, r⟩ := R2.rel
    obtain ⟨fa, oa⟩ := r.held h1
    obtain ⟨fb, ob⟩ := r.held h2
    exact binT_ok r R2.len oa ob et ((m3.later R.l2 R2.l2 s p q).nw R.l1 R2.l2)
  | _ => exact Bool.noConfusion h
theorem se_neg {a : E} (ha : SE mx call k a) : SE mx call k (.neg a) := fun X W e ok tk h => by
  cases e with
  | UnaryOp op a' pos =>
    have h : (decide (op = .USub) && mE mx X.N X.env.scope a a') = true := h
    simp only [Bool.and_eq_true, decide_eq_true_eq] at h
    obtain ⟨rfl, h1⟩ := h
    refine of_tE (peImp (pe_un un_neg (ha X W a' ok tk h1).2.1) fun σ H Q ⟨G0, H0, ρ, τ, σt, R, m⟩ => ?_) (fun ρ => rfl) (fun _ => rfl)
    refine ⟨G0, H0, ρ, τ, σt, R, (RsP.bind m).imp (fun t _ m1 => fun v H1 τ1 σt1 R1 s1 p1 q1 h1 => ?_) fun _ q => q⟩
    split at m1
    · next i _ =>
      obtain ⟨G, F, r⟩ := R1.rel
      obtain ⟨fa, oa⟩ := r.held h1
      exact ⟨i, oa.int, r.newI R1.len (.int _) (((m1 : PN _ _ _ _ _ _ _ _ _ _ _).later R.l2 R1.l2 s1 p1 q1).nw R.l1 R1.l2)⟩
    · exact m1.elim
  | _ => exact Bool.noConfusion h
theorem se_not {a : E} (ha : SE mx call k a) : SE mx call k (.not a) := fun X W e ok tk h => by
  cases e with
  | UnaryOp op a' pos =>
    have h : (decide (op = .Not) && mE mx X.N X.env.scope a a') = true := h
    simp only [Bool.and_eq_true, decide_eq_true_eq] at h
    obtain ⟨rfl, h1⟩ := h
    have base : PE X (.UnaryOp .Not a' pos) (tE X.K X.mg W call (.not a)) := peImp (pe_not (ha X W a' ok tk h1).2.1) fun σ H Q ⟨G0, H0, ρ, τ, σt, R, m⟩ => by
      refine ⟨G0, H0, ρ, τ, σt, R, (RsP.bind m).imp (fun t _ m1 => fun v H1 τ1 σt1 R1 s1 p1 q1 h1 => ?_) fun _ q => q⟩
      split at m1
      · next b hb =>
        have ev := h1.tru R1.rel hb
        obtain ⟨G, F, r⟩ := R1.rel
        exact ⟨b, ev, r.newI R1.len (.bl _) (((m1 : PN _ _ _ _ _ _ _ _ _ _ _).later R.l2 R1.l2 s1 p1 q1).nw R.l1 R1.l2)⟩
      · exact m1.elim
    refine ⟨base, peImp base fun σ H Q ⟨G0, H0, ρ, τ, σt, R, m⟩ => ⟨G0, H0, ρ, τ, σt, R, RsP.imp (r := evX call false (.not a) ρ) m (fun t _ q => q.pn R.l1 R.l2) fun _ q => q⟩,
      ptImp (pt_not (ha X W a' ok tk h1).2.2) fun σ H Q ⟨G0, H0, ρ, τ, σt, R, m⟩ => ⟨G0, H0, ρ, τ, σt, R, ?_⟩⟩
    refine RsP.bindR ((RsP.bind (r := evX call true a ρ) (RsP.bind m)).imp (fun t _ m1 => ?_) fun _ q => q)
    cases ht : truT t with
    | none => rw [ht] at m1; exact m1.elim
    | some b => rw [ht] at m1; exact fun H' τ' σt' R' s p q => m1 H' τ' σt' R' s p q
  | _ => exact Bool.noConfusion h
theorem se_cmp {op : CmpOp} {a b : E} (ha : SE mx call k a) (hb : SE mx call k b) : SE mx call k (.cmp op a b) := fun X W e ok tk h => by
  cases e with
  | Compare a' ops bs pos =>
    match ops, bs, h with
    | [op'], [b'], h =>
      have h : (decide (op = op') && mE mx X.N X.env.scope a a' && mE mx X.N X.env.scope b b') = true := h
      simp only [Bool.and_eq_true, decide_eq_true_eq] at h
      obtain ⟨⟨rfl, h1⟩, h2⟩ := h
      have go : ∀ {σ : St} {H G0 H0 : Hp} {ρ τ : Env} {σt : St} {Q : VK} {P : Bool → Prop}, Ro X.K X.mg G0 H0 ρ σ τ σt H →
          RsP (evX call true a ρ) (fun ta => RsP (evX call true b ρ) (fun tb => ∃ r, cmpT op ta tb = some r ∧ P r) (PX X.K X.mg W G0 H0 ρ σ τ σt H)) (PX X.K X.mg W G0 H0 ρ σ τ σt H) →
          (∀ r H2 τ2 σt2, P r → Ro X.K X.mg G0 H0 ρ σ τ2 σt2 H2 → Same H H2 → τ <+: τ2 → σt <+: σt2 → Q (.bl r) H2) → tOp (rCmp X.K X.A op) (tO X.K X.mg W call a) (tO X.K X.mg W call b) σ H Q := fun {σ H G0 H0 ρ τ σt Q P} R m z =>
        two R m fun ta tb va vb H2 τ2 σt2 m2 R2 s p q h1 h2 => by
          obtain ⟨r, et, m3⟩ := m2
          have z := z r H2 τ2 σt2 m3 R2 s p q
          obtain ⟨G, F, rg⟩ := R2.rel
          obtain ⟨fa, oa⟩ := rg.held h1
          obtain ⟨fb, ob⟩ := rg.held h2
          exact cmpT_ok rg.gh oa ob et z
      have cut : ∀ {ta tb : T} {P : T → Prop} {PX : Str → Prop}, RsP (match cmpT op ta tb with | some r => Rs.ok (T.imm (.bool r)) | none => .no) P PX → ∃ r, cmpT op ta tb = some r ∧ P (.imm (.bool r)) := fun {ta tb P PX} m => by
        cases q : cmpT op ta tb with
        | none => rw [q] at m; exact m.elim
        | some r => rw [q] at m; exact ⟨r, rfl, m⟩
      have base : PE X (.Compare a' [op] [b'] pos) (tE X.K X.mg W call (.cmp op a b)) := peImp (pe_cmpR (op_cmp ok.hu op) (ha X W a' ok tk h1).2.1 (hb X W b' ok tk h2).2.1 (nomark_pl (pl_of h2))) fun σ H Q ⟨G0, H0, ρ, τ, σt, R, m⟩ =>
        go R ((RsP.bind m).imp (fun ta _ m1 => (RsP.bind m1).imp (fun tb _ m2 => cut m2) fun _ q => q) fun _ q => q) fun r H2 τ2 σt2 m3 R2 s p q => by
          obtain ⟨G, F, rg⟩ := R2.rel
          exact rg.newI R2.len (.bl r) (((m3 : PN _ _ _ _ _ _ _ _ _ _ _).later R.l2 R2.l2 s p q).nw R.l1 R2.l2)
      refine ⟨base, peImp base fun σ H Q ⟨G0, H0, ρ, τ, σt, R, m⟩ => ⟨G0, H0, ρ, τ, σt, R, RsP.imp (r := evX call false (.cmp op a b) ρ) m (fun t _ q => q.pn R.l1 R.l2) fun _ q => q⟩,
        ptImp (pt_cmpR (op_cmp ok.hu op) (ha X W a' ok tk h1).2.1 (hb X W b' ok tk h2).2.1 (nomark_pl (pl_of h2))) fun σ H Q ⟨G0, H0, ρ, τ, σt, R, m⟩ =>
          go R ((RsP.bind (r := evX call true a ρ) (RsP.bind m)).imp (fun ta _ m1 => (RsP.bind (r := evX call true b ρ) m1).imp (fun tb _ m2 => cut m2) fun _ q => q) fun _ q => q) fun r H2 τ2 σt2 m3 R2 s p q => ⟨r, rfl, m3 H2 τ2 σt2 R2 s p q⟩⟩
    | [], _, h => exact Bool.noConfusion h
    | [_], [], h => exact Bool.noConfusion h
    | [_], _ :: _ :: _, h => exact Bool.noConfusion h
    | _ :: _ :: _, _, h => exact Bool.noConfusion h
  | _ => exact Bool.noConfusion h
end Gl

set_option Elab.async false
set_option linter.all false
set_option maxRecDepth 100000
set_option maxHeartbeats 4000000
/-! GlH: more forms of expressions. -/
namespace Gl
open PySem L2
variable {mx : Mx} {call : Nat → List T → Rs T} {k : Nat}

theorem se_chn {op op' : CmpOp} {a b c : E} (ha : SE mx call k a) (hb : SE mx call k b) (hc : SE mx call k c) : SE mx call k (.chn op op' a b c) := fun X W e ok tk h => by
  cases e with
  | Compare a' ops bs pos =>
    match ops, bs, h with
    | [o1, o2], [b', c'], h =>
      have h : (decide (op = o1) && decide (op' = o2) && mE mx X.N X.env.scope a a' && mE mx X.N X.env.scope b b' && mE mx X.N X.env.scope c c') = true := h
      simp only [Bool.and_eq_true, decide_eq_true_eq] at h
      obtain ⟨⟨⟨⟨rfl, rfl⟩, h1⟩, h2⟩, h3⟩ := h
      have hm : lastMarks [op, op'] [b', c'] = false := by
        show behindInMarks op' c' = false
        exact nomark_pl (pl_of h3)
      have go : ∀ {σ : St} {H G0 H0 : Hp} {ρ τ : Env} {σt : St} {Q : VK} {P : T → Prop}, Ro X.K X.mg G0 H0 ρ σ τ σt H → RsP (evX call true (.chn op op' a b c) ρ) P (PX X.K X.mg W G0 H0 ρ σ τ σt H) →
          (∀ r H2 τ2 σt2, P (.imm (.bool r)) → Ro X.K X.mg G0 H0 ρ σ τ2 σt2 H2 → Same H H2 → τ <+: τ2 → σt <+: σt2 → Q (.bl r) H2) →
          tChain (rCmp X.K X.A op) (rCmp X.K X.A op') (tO X.K X.mg W call a) (tO X.K X.mg W call b) (tO X.K X.mg W call c) σ H Q := fun {σ H G0 H0 ρ τ σt Q P} R m z => by
        refine ⟨G0, H0, ρ, τ, σt, R, (RsP.bind (r := evX call true a ρ) m).imp (fun ta _ m1 => fun va H1 τ1 σt1 R1 s1 p1 q1 h1 => ⟨G0, H0, ρ, τ1, σt1, R1, (RsP.bind (r := evX call true b ρ) m1).imp (fun tb _ m2 => fun vb H2 τ2 σt2 R2 s2 p2 q2 h2 => ?_) fun d h => h.later R.l2 s1 p1 q1⟩) fun d h => h⟩
        have h1' := h1.grow s2 p2 q2
        obtain ⟨G, F, rg⟩ := R2.rel
        obtain ⟨fa, oa⟩ := rg.held h1'
        obtain ⟨fb, ob⟩ := rg.held h2
        cases hr : cmpT op ta tb with
        | none => rw [hr] at m2; exact m2.elim
        | some r =>
          rw [hr] at m2
          refine cmpT_ok rg.gh oa ob hr ⟨r, rfl, ?_⟩
          cases r with
          | false => exact z false H2 τ2 σt2 m2 R2 (s1.trans s2) (p1.trans p2) (q1.trans q2)
          | true =>
            refine ⟨G0, H0, ρ, τ2, σt2, R2, (RsP.bind (r := evX call true c ρ) m2).imp (fun tc _ m3 => fun vc H3 τ3 σt3 R3 s3 p3 q3 h3 => ?_) fun d h => h.later R.l2 (s1.trans s2) (p1.trans p2) (q1.trans q2)⟩
            obtain ⟨G', F', rg'⟩ := R3.rel
            obtain ⟨fb', ob'⟩ := rg'.held (h2.grow s3 p3 q3)
            obtain ⟨fc, oc⟩ := rg'.held h3
            cases hr' : cmpT op' tb tc with
            | none => rw [hr'] at m3; exact m3.elim
            | some r' =>
              rw [hr'] at m3
              exact cmpT_ok rg'.gh ob' oc hr' (z r' H3 τ3 σt3 m3 R3 ((s1.trans s2).trans s3) ((p1.trans p2).trans p3) ((q1.trans q2).trans q3))
      have base : PE X (.Compare a' [op, op'] [b', c'] pos) (tE X.K X.mg W call (.chn op op' a b c)) :=
        peImp (pe_chain (op_cmp ok.hu op) (op_cmp ok.hu op') (ha X W a' ok tk h1).2.1 (hb X W b' ok tk h2).2.1 (hc X W c' ok tk h3).2.1 hm) fun σ H Q ⟨G0, H0, ρ, τ, σt, R, m⟩ =>
          go R m fun r H2 τ2 σt2 m3 R2 s p q => by
            obtain ⟨G, F, rg⟩ := R2.rel
            exact rg.newI R2.len (.bl r) (((m3 : PN _ _ _ _ _ _ _ _ _ _ _).later R.l2 R2.l2 s p q).nw R.l1 R2.l2)
      refine ⟨base, peImp base fun σ H Q ⟨G0, H0, ρ, τ, σt, R, m⟩ => ⟨G0, H0, ρ, τ, σt, R, RsP.imp (r := evX call false (.chn op op' a b c) ρ) m (fun t _ q => q.pn R.l1 R.l2) fun _ q => q⟩,
        ptImp (pt_chain (op_cmp ok.hu op) (op_cmp ok.hu op') (ha X W a' ok tk h1).2.1 (hb X W b' ok tk h2).2.1 (hc X W c' ok tk h3).2.1 hm) fun σ H Q ⟨G0, H0, ρ, τ, σt, R, m⟩ =>
          go R (RsP.bind m) fun r H2 τ2 σt2 m3 R2 s p q => ⟨r, rfl, m3 H2 τ2 σt2 R2 s p q⟩⟩
    | [], _, h => exact Bool.noConfusion h
    | [_], _, h => exact Bool.noConfusion h
    | [_, _], [], h => exact Bool.noConfusion h
    | [_, _], [_], h => exact Bool.noConfusion h
    | [_, _], _ :: _ :: _ :: _, h => exact Bool.noConfusion h
    | _ :: _ :: _ :: _, _, h => exact Bool.noConfusion h
  | _ => exact Bool.noConfusion h
theorem se_idx {a i : E} (ha : SE mx call k a) (hi : SE mx call k i) : SE mx call k (.idx a i) := fun X W e ok tk h => by
  cases e with
  | Subscript a' i' pos =>
    have h : (mE mx X.N X.env.scope a a' && mE mx X.N X.env.scope i i') = true := h
    simp only [Bool.and_eq_true] at h
    refine of_tE (peImp (pe_ix (ix_any (by have := ok.hu; omega)) (ha X W a' ok tk h.1).2.1 (hi X W i' ok tk h.2).2.1 (plain_ix (pl_of h.2))) fun σ H Q ⟨G0, H0, ρ, τ, σt, R, m⟩ => ?_) (fun ρ => rfl) (fun _ => rfl)
    refine two R ((RsP.bind m).imp (fun ta _ m1 => RsP.bind m1) fun _ q => q) fun ta tb va vb H2 τ2 σt2 m2 R2 s p q h1 h2 => ?_
    obtain ⟨G, F, r⟩ := R2.rel
    obtain ⟨fa, oa⟩ := r.held h1
    obtain ⟨fb, ob⟩ := r.held h2
    split at m2
    · next d =>
      obtain ⟨t, et, m3⟩ := RsP.of m2
      exact idxT_ok r R2.len oa ob.rp et ((m3.later R.l2 R2.l2 s p q).nw R.l1 R2.l2)
    · exact m2.elim
  | _ => exact Bool.noConfusion h
theorem so_none : SO mx call k none := ⟨fun X W e ok tk h => by
    cases e with
    | none => exact ⟨fun pins s σ H Q I ⟨G0, H0, ρ, τ, σt, R, m⟩ => po_none.run pins s σ H Q I (m H τ σt R (Same.refl H) List.prefix_rfl List.prefix_rfl)⟩
    | some e => exact Bool.noConfusion h, fun _ h => nomatch h⟩
theorem so_some {e' : E} (he : SE mx call k e') : SO mx call k (some e') := ⟨fun X W e ok tk h => by
    cases e with
    | none => exact Bool.noConfusion h
    | some e =>
      have h : mE mx X.N X.env.scope e' e = true := h
      refine ⟨fun pins s σ H Q I ⟨G0, H0, ρ, τ, σt, R, m⟩ => (po_some (he X W e ok tk h).2.1).run pins s σ H Q I ⟨G0, H0, ρ, τ, σt, R, (RsP.bind m).imp (fun t _ m1 => fun v H1 τ1 σt1 R1 s1 p1 q1 h1 => ?_) fun _ q => q⟩⟩
      split at m1
      · next i _ =>
        obtain ⟨G, F, r⟩ := R1.rel
        obtain ⟨fa, oa⟩ := r.held h1
        exact ⟨i, oa.int, m1 H1 τ1 σt1 R1 s1 p1 q1⟩
      · exact m1.elim, fun e h => by cases h; exact he⟩
theorem se_slc {a : E} {lo hi : Option E} (ha : SE mx call k a) (hl : SO mx call k lo) (hh : SO mx call k hi) : SE mx call k (.slc a lo hi) := fun X W e ok tk h => by
  cases e with
  | Subscript a' s' pos =>
    cases s' with
    | Slice lo' hi' st p2 =>
      have h : (st.isNone && mE mx X.N X.env.scope a a' && mO mx X.N X.env.scope lo lo' && mO mx X.N X.env.scope hi hi') = true := h
      simp only [Bool.and_eq_true, Option.isNone_iff_eq_none] at h
      obtain ⟨⟨⟨rfl, h1⟩, h2⟩, h3⟩ := h
      refine of_tE (peImp (pe_slice sl_any (ha X W a' ok tk h1).2.1 (hl.1 X W lo' ok tk h2) (hh.1 X W hi' ok tk h3)) fun σ H Q ⟨G0, H0, ρ, τ, σt, R, m⟩ => ?_) (fun ρ => rfl) (fun _ => rfl)
      refine ⟨G0, H0, ρ, τ, σt, R, (RsP.bind m).imp (fun ta _ m1 => fun va H1 τ1 σt1 R1 s1 p1 q1 h1 => ?_) fun _ q => q⟩
      refine ⟨G0, H0, ρ, τ1, σt1, R1, (RsP.bind m1).imp (fun l _ m2 => fun H2 τ2 σt2 R2 s2 p2 q2 => ?_) fun c h => h.later R.l2 s1 p1 q1⟩
      refine ⟨G0, H0, ρ, τ2, σt2, R2, (RsP.bind m2).imp (fun u _ m3 => fun H3 τ3 σt3 R3 s3 p3 q3 => ?_) fun c h => h.later R.l2 (s1.trans s2) (p1.trans p2) (q1.trans q2)⟩
      obtain ⟨t, et, m4⟩ := RsP.of m3
      obtain ⟨G, F, r⟩ := R3.rel
      obtain ⟨fa, oa⟩ := r.held ((h1.grow s2 p2 q2).grow s3 p3 q3)
      exact slcT_ok r R3.len oa et ((m4.later R.l2 R3.l2 ((s1.trans s2).trans s3) ((p1.trans p2).trans p3) ((q1.trans q2).trans q3)).nw R.l1 R3.l2)
    | _ => exact Bool.noConfusion h
  | _ => exact Bool.noConfusion h

section
open PySem.Spec PyProof.Rows
theorem pe_sls {X : Cx} {e : Expr} {te : TE} {lo hi : Option Expr} {tl th : TO} {k : Nat} {kk : _} {p2 p3 pos : Pos} (hk : k ≠ 0) (he : PE X e te) (hl : PO X lo tl) (hu : PO X hi th) :
    PE X (.Subscript e (.Slice lo hi (some (.Constant (.int (k : Int)) kk p3)) p2) pos) (fun σ H Q => te σ H fun x H1 => tl σ H1 fun l H2 => th σ H2 fun u H3 => ∃ a xs, x = .ref a ∧ SqL X.K H3 a xs ∧ ∀ p, H3 p = none → Q (.ref p) (upd H3 p (.lst (pickL xs l u k)))) := by
  refine ⟨fun pins s σ H Q I h => ?_⟩
  refine Subscript_ (thn (he.run pins s σ H _ I h) fun v s1 ⟨x, H1, I1, r1, q1⟩ => ?_)
  refine wpAny_Slice (thn (hl.run pins s1 σ H1 _ I1 q1) fun vl s2 ⟨l, H2, I2, pl, q2⟩ => thn (hu.run pins s2 σ H2 _ I2 q2) fun vu s3 ⟨u, H3, I3, pu, q3⟩ => ?_)
  obtain ⟨a, xs, ex, hx, q⟩ := q3
  subst ex
  cases r1
  have hst : PO X (some (.Constant (.int (k : Int)) kk p3)) (tPart (tC (.int (k : Int)))) := po_some pe_int
  refine thn (hst.run pins s3 σ H3 (fun o H4 => o = some (k : Int) ∧ H4 = H3) I3 ⟨_, rfl, rfl, rfl⟩) fun vs s4 ⟨o, H4, I4, ps, eo, e4⟩ => ?_
  subst eo e4
  have I5 : Inv X pins σ H4 { s4 with heap := s4.heap.push { cls := .type "slice", data := .fields #[vl, vu, vs] } } := I4.kept (t' := s4.toks) fun b ob q => Heap.get?_push_of_some _ q
  obtain ⟨its, r, ht, hz⟩ := I5.list hx
  have hlen := r.length
  show wpAny (model X.prog X.w) X.A (subscriptTail e (.Slice lo hi (some (.Constant (.int (k : Int)) kk p3)) p2) (.ref a) (.ref s4.heap.objs.size)) (EP X pins σ Q) X.xe { s4 with heap := s4.heap.push { cls := .type "slice", data := .fields #[vl, vu, vs] } }
  refine tail_any (ops := [.ref a, .ref s4.heap.objs.size]) ht.isList.typeIs (PySem.slot_list_getitem.lookup) ?_ (by with_unfolding_all rfl)
  refine wpAny_getItem_list_slice ht.isList (Heap.IsSliceOf.new _ vl vu vs) pl pu ps (by simpa using hk) ?_ (by rw [List.size_toArray]; omega)
  rw [pick_eq]
  refine ⟨.ref _, _, I5.laid (t' := s4.toks) (o := .lst (pickL xs l u k)) (fun b ob q => Heap.get?_push_of_some _ q) (Nat.le_refl _) ?_, rfl, q _ (I5.hok.fresh (Nat.le_refl _))⟩
  refine ⟨Nat.le_trans (pick_len xs l u k) hz, _, 0, ?_, Heap.get?_push_size _ rfl⟩
  unfold pickL
  rw [hlen]
  exact vals_pick _ r
end
theorem se_sls {a : E} {lo hi : Option E} {n : Nat} (ha : SE mx call k a) (hl : SO mx call k lo) (hh : SO mx call k hi) : SE mx call k (.sls a lo hi n) := fun X W e ok tk h => by
  cases e with
  | Subscript a' s' pos =>
    cases s' with
    | Slice lo' hi' st p2 =>
      cases st with
      | none => exact Bool.noConfusion h
      | some ec =>
        cases ec with
        | Constant c kk p3 =>
          cases c with
          | int c =>
            have h : (decide (n ≠ 0) && decide (c = (n : Int)) && mE mx X.N X.env.scope a a' && mO mx X.N X.env.scope lo lo' && mO mx X.N X.env.scope hi hi') = true := h
            simp only [Bool.and_eq_true, decide_eq_true_eq] at h
            obtain ⟨⟨⟨⟨hn, rfl⟩, h1⟩, h2⟩, h3⟩ := h
            refine of_tE (peImp (pe_sls hn (ha X W a' ok tk h1).2.1 (hl.1 X W lo' ok tk h2) (hh.1 X W hi' ok tk h3)) fun σ H Q ⟨G0, H0, ρ, τ, σt, R, m⟩ => ?_) (fun ρ => rfl) (fun _ => rfl)
            refine ⟨G0, H0, ρ, τ, σt, R, (RsP.bind m).imp (fun ta _ m1 => fun va H1 τ1 σt1 R1 s1 p1 q1 h1 => ?_) fun _ q => q⟩
            refine ⟨G0, H0, ρ, τ1, σt1, R1, (RsP.bind m1).imp (fun l _ m2 => fun H2 τ2 σt2 R2 s2 p2 q2 => ?_) fun c h => h.later R.l2 s1 p1 q1⟩
            refine ⟨G0, H0, ρ, τ2, σt2, R2, (RsP.bind m2).imp (fun u _ m3 => fun H3 τ3 σt3 R3 s3 p3 q3 => ?_) fun c h => h.later R.l2 (s1.trans s2) (p1.trans p2) (q1.trans q2)⟩
            obtain ⟨t, et, m4⟩ := RsP.of m3
            obtain ⟨G, F, r⟩ := R3.rel
            obtain ⟨fa, oa⟩ := r.held ((h1.grow s2 p2 q2).grow s3 p3 q3)
            exact slsT_ok r R3.len oa et ((m4.later R.l2 R3.l2 ((s1.trans s2).trans s3) ((p1.trans p2).trans p3) ((q1.trans q2).trans q3)).nw R.l1 R3.l2)
          | _ => exact Bool.noConfusion h
        | _ => exact Bool.noConfusion h
    | _ => exact Bool.noConfusion h
  | _ => exact Bool.noConfusion h

/-! ### lists of expressions -/
theorem ses_nil : SEs mx call k [] := fun X W es ok tk h => by
  cases es with
  | nil =>
    refine ⟨paImp pa_nil fun σ H Q ⟨G0, H0, ρ, τ, σt, R, m⟩ => (m : PNs _ _ _ _ _ _ _ _ _ _ _) [] H rfl (by simpa using R) (Same.refl H),
      paImp pa_nil fun σ H Q ⟨G0, H0, ρ, τ, σt, R, m⟩ => (m : PHds _ _ _ _ _ _ _ _ _ _ _) [] H τ σt R (Same.refl H) List.prefix_rfl List.prefix_rfl .nil, fun h => absurd rfl h⟩
  | cons => exact Bool.noConfusion h
theorem Paired.impMem {α β : Type} {F F' : α → β → Prop} (f : ∀ a b, F a b → F' a b) : ∀ {l₁ : List α} {l₂ : List β}, Paired F l₁ l₂ → Paired F' l₁ l₂
  | _, _, .nil => .nil
  | _, _, .cons r t => .cons (f _ _ r) (Paired.impMem f t)
theorem ses_cons {e' : E} {es' : List E} (he : SE mx call k e') (hs : SEs mx call k es') : SEs mx call k (e' :: es') := fun X W es ok tk h => by
  cases es with
  | nil => exact Bool.noConfusion h
  | cons e es =>
    have h : (mE mx X.N X.env.scope e' e && mEs mx X.N X.env.scope es' es) = true := h
    rw [Bool.and_eq_true] at h
    obtain ⟨h1, h2⟩ := h
    have H1 := he X W e ok tk h1
    have H2 := hs X W es ok tk h2
    refine ⟨paImp (pa_cons H1.1 H2.1 (star_cons (pl_of h1))) fun σ H Q ⟨G0, H0, ρ, τ, σt, R, m⟩ => ?_, paImp (pa_cons H1.2.1 H2.2.1 (star_cons (pl_of h1))) fun σ H Q ⟨G0, H0, ρ, τ, σt, R, m⟩ => ?_, fun _ c pos => ?_⟩
    · refine ⟨G0, H0, ρ, τ, σt, R, (RsP.bind m).imp (fun t _ m1 => fun v H1 R1 s1 => ?_) fun _ q => q⟩
      refine ⟨G0, H0, ρ, _, _, R1, (RsP.bind m1).imp (fun ts _ m2 => fun vs H2 hv R2 s2 => ?_) fun c h => h.later R.l2 s1 (List.prefix_append ..) (List.prefix_append ..)⟩
      exact (m2 : PNs _ _ _ _ _ _ _ _ _ _ _) (v :: vs) H2 (by simp [hv]) (by simpa using R2) (s1.trans s2)
    · refine ⟨G0, H0, ρ, τ, σt, R, (RsP.bind m).imp (fun t _ m1 => fun v H1 τ1 σt1 R1 s1 p1 q1 h1 => ?_) fun _ q => q⟩
      refine ⟨G0, H0, ρ, τ1, σt1, R1, (RsP.bind m1).imp (fun ts _ m2 => fun vs H2 τ2 σt2 R2 s2 p2 q2 h2 => ?_) fun c h => h.later R.l2 s1 p1 q1⟩
      exact (m2 : PHds _ _ _ _ _ _ _ _ _ _ _) (v :: vs) H2 τ2 σt2 R2 (s1.trans s2) (p1.trans p2) (q1.trans q2) (.cons (h1.grow s2 p2 q2) h2)
    · cases es' with
      | nil =>
        cases es with
        | cons => exact Bool.noConfusion h2
        | nil =>
          refine ⟨peImp (pe_one H1.1) fun σ H Q x => x, ?_⟩
          have pt : PT X e (tBt X.K X.mg W call c [e']) := ptImp H1.2.2 fun σ H Q ⟨G0, H0, ρ, τ, σt, R, m⟩ => ⟨G0, H0, ρ, τ, σt, R, RsP.bindR (evX_pk (RsP.bind m))⟩
          cases c with
          | true => exact pw_and1 pt
          | false => exact pw_or1 pt
      | cons e2' es2' =>
        cases es with
        | nil => exact Bool.noConfusion h2
        | cons e2 es2 =>
          obtain ⟨_, _, H3⟩ := H2
          have H3 := H3 (List.cons_ne_nil _ _) c pos
          have cutv : ∀ {σ : St} {H G0 H0 : Hp} {ρ τ : Env} {σt : St} {Q : VK}, Ro X.K X.mg G0 H0 ρ σ τ σt H → RsP (evB call c (e' :: e2' :: es2') ρ) (fun t => PN X.K X.mg G0 H0 ρ σ τ σt H t Q) (PX X.K X.mg W G0 H0 ρ σ τ σt H) →
              tO X.K X.mg W call e' σ H fun x H1 => ∃ d, x = .bl d ∧ if d = c then tBv X.K X.mg W call c (e2' :: es2') σ H1 Q else Q (.bl d) H1 := fun {σ H G0 H0 ρ τ σt Q} R m => by
            refine ⟨G0, H0, ρ, τ, σt, R, (RsP.bind (r := evX call true e' ρ) m).imp (fun t _ m1 => fun v H1 τ1 σt1 R1 s1 p1 q1 h1 => ?_) fun _ q => q⟩
            split at m1
            · next b hb =>
              refine ⟨b, h1.tru R1.rel hb, ?_⟩
              split at m1
              · next hbc => rw [if_pos hbc]; exact ⟨G0, H0, ρ, τ1, σt1, R1, m1.imp (fun t _ q => q.later R.l2 R1.l2 s1 p1 q1) fun _ q => q.later R.l2 s1 p1 q1⟩
              · next hbc =>
                rw [if_neg hbc]
                obtain ⟨G, F, rg⟩ := R1.rel
                exact rg.newI R1.len (.bl b) (((m1 : PN _ _ _ _ _ _ _ _ _ _ _).later R.l2 R1.l2 s1 p1 q1).nw R.l1 R1.l2)
            · exact m1.elim
          have cutt : ∀ {σ : St} {H G0 H0 : Hp} {ρ τ : Env} {σt : St} {Q : Bool → Hp → Prop}, Ro X.K X.mg G0 H0 ρ σ τ σt H →
              RsP ((evB call c (e' :: e2' :: es2') ρ).bind fun t => .of (truT t)) (fun b => ∀ H' τ' σt', Ro X.K X.mg G0 H0 ρ σ τ' σt' H' → Same H H' → τ <+: τ' → σt <+: σt' → Q b H') (PX X.K X.mg W G0 H0 ρ σ τ σt H) →
              tT X.K X.mg W call e' σ H fun d H1 => if d = c then tBt X.K X.mg W call c (e2' :: es2') σ H1 Q else Q d H1 := fun {σ H G0 H0 ρ τ σt Q} R m => by
            refine ⟨G0, H0, ρ, τ, σt, R, RsP.bindR ((RsP.bind (r := evX call true e' ρ) (RsP.bind m)).imp (fun t _ m1 => ?_) fun _ q => q)⟩
            cases hb : truT t with
            | none => rw [hb] at m1; exact m1.elim
            | some b =>
              rw [hb] at m1
              intro H1 τ1 σt1 R1 s1 p1 q1
              by_cases hbc : b = c
              · rw [if_pos hbc]
                dsimp only at m1
                rw [if_pos hbc] at m1
                exact ⟨G0, H0, ρ, τ1, σt1, R1, RsP.bindR (m1.imp (fun t _ m2 => RsP.imp m2 (fun b _ z => fun H2 τ2 σt2 R2 s2 p2 q2 => z H2 τ2 σt2 R2 (s1.trans s2) (p1.trans p2) (q1.trans q2)) fun _ q => q.later R.l2 s1 p1 q1) fun _ q => q.later R.l2 s1 p1 q1)⟩
              · rw [if_neg hbc]
                dsimp only at m1
                rw [if_neg hbc] at m1
                exact m1 H1 τ1 σt1 R1 s1 p1 q1
          cases c with
          | true =>
            refine ⟨peImp (pe_and H1.2.1 H3.1) fun σ H Q ⟨G0, H0, ρ, τ, σt, R, m⟩ => ?_, pwImp (pw_and H1.2.2 H3.2) fun σ H Q ⟨G0, H0, ρ, τ, σt, R, m⟩ => ?_⟩
            · refine tO_imp (cutv R m) fun x H1 hx => ?_
              obtain ⟨d, rfl, q⟩ := hx
              exact ⟨d, rfl, by cases d <;> simpa using q⟩
            · refine tT_imp (cutt R m) fun d H1 q => ?_
              cases d <;> simpa using q
          | false =>
            refine ⟨peImp (pe_or H1.2.1 H3.1) fun σ H Q ⟨G0, H0, ρ, τ, σt, R, m⟩ => ?_, pwImp (pw_or H1.2.2 H3.2) fun σ H Q ⟨G0, H0, ρ, τ, σt, R, m⟩ => ?_⟩
            · refine tO_imp (cutv R m) fun x H1 hx => ?_
              obtain ⟨d, rfl, q⟩ := hx
              exact ⟨d, rfl, by cases d <;> simpa using q⟩
            · refine tT_imp (cutt R m) fun d H1 q => ?_
              cases d <;> simpa using q
end Gl

set_option Elab.async false
set_option linter.all false
set_option maxRecDepth 100000
set_option maxHeartbeats 4000000
/-! GlHs: sorting tuples of which some are empty. -/
namespace Gl
open PySem PySem.Calls PyProof.Rows
open PySem.W PySem.SeqAt
section
variable {prog : Program} {w : World} {A : Around} {E : Value → Shared → Prop} {s : Shared}

theorem call_tup_lt {Q : Value → Shared → Prop} {l b : Addr} {items items2 : Array Value} {e r : Nat → Bool} (hl : s.heap.IsTuple l items) (hb : s.heap.IsTuple b items2)
    (he : ∀ j (h1 : j < items.size) (h2 : j < items2.size), EqAt A.in1 s items[j] items2[j] (e j)) (hr : ∀ j (h1 : j < items.size) (h2 : j < items2.size), e j = false → RcLt A.in1 s items[j] items2[j] (r j))
    (h : Q (.bool (firstLt e r (decide (items.size < items2.size)) (List.range (min items.size items2.size)))) s) : wpAny (model prog w) A (PySem.call (.builtin "tuple.__lt__") [.ref l, .ref b]) Q E s := by
  obtain ⟨⟨cls, dd, data, sl⟩, ho, hc, n, hd⟩ := id hl
  obtain ⟨⟨cls2, dd2, data2, sl2⟩, ho2, hc2, n2, hd2⟩ := id hb
  simp only at hc hd hc2 hd2
  subst hc hd hc2 hd2
  exact call_meets F.slot_tuple_lt ⟨_, ho, rfl⟩ F.entry_tuple_lt (F.args_tuple_lt_2 _ _) (tuple_ltAt l b items items2 n n2 dd dd2 sl sl2 e r) ⟨ho, ho2, he, hr, h⟩

theorem oneLt_tups {f : Bool} {xs ys : List PyData} {a b : Value} {as bs : List Addr} {Q : Bool → Shared → Prop} (ra : Reads s.heap a (.tuple xs) as) (rb : Reads s.heap b (.tuple ys) bs) (h : alike (.tuple xs) (.tuple ys) = true)
    (hu : A.units + min (PyData.tuple xs).depth (PyData.tuple ys).depth < cLine) (hq : Q (dataLt (.tuple xs) (.tuple ys)) s) : wpAny (model prog w) A (oneLt' f a b) Q E s := by
  cases f with
  | false => exact oneLt_alike (fun q => nomatch q) ra rb h (fun q => nomatch q) hu hq
  | true =>
    have hal : alikeAll xs ys = true := by simpa [alike] using h
    cases ra with
    | @tuple l o vs n _ as₁ h1 h2 h3 h4 =>
      cases rb with
      | @tuple l' o' vs' n' _ bs₁ k1 k2 k3 k4 =>
        have n1 : vs.size = xs.length := by simpa using ReadsAll.length _ _ _ h4
        have n2 : vs'.size = ys.length := by simpa using ReadsAll.length _ _ _ k4
        rw [dataLt_tuple, ← firstLt_toks xs ys hal, ← n1, ← n2] at hq
        rw [oneLt'_eq]
        simp only [if_true]
        refine wpAny_bind (wpAny_cRoomFor (room_here hu) ?_)
        refine wpAny_bind (wpAny_callSpecialIfBound?_slot (T := "tuple") ⟨_, h1, h2⟩ F.slot_tuple_lt (call_tup_lt (e := pairEq xs ys) (r := fun j => dataLt (xs.getD j .none) (ys.getD j .none)) ⟨_, h1, h2, _, h3⟩ ⟨_, k1, k2, _, k3⟩ (fun j j1 j2 => ?_) (fun j j1 j2 hj => ?_) ?_))
        · have := eqAt_alikeAll xs ys A.in1 s vs.toList vs'.toList _ _ h4 k4 hal (room_in hu) j (by simpa using j1) (by simpa using j2)
          simpa using this
        · have := rcLt_alikeAll xs ys A.in1 s vs.toList vs'.toList _ _ h4 k4 hal (room_in hu) j (by simpa using j1) (by simpa using j2) hj
          simpa using this
        · exact wpAny_truthy_bool hq

/-- the first items of tuples, where there are such -/
theorem firsts_of : ∀ {vs : List Value} {ds : List PyData}, EachIs (fun v d => ∃ as, Reads s.heap v d as) vs ds → (∀ d, d ∈ ds → ∃ xs, d = .tuple xs) → ∀ {Q : List (Option Value) → Shared → Prop},
    (∀ os : List (Option Value), os.map Option.isSome = ds.map (fun d => match d with | .tuple (_ :: _) => true | _ => false) → Q os s) → wpAny (model prog w) A (vs.mapM firstOfTuple') Q E s
  | _, _, .nil, _, _, h => by rw [List.mapM_nil]; exact wpAny_pure (h [] rfl)
  | _, _, .cons (b := d) ⟨as, r⟩ t, ht, Q, h => by
    obtain ⟨xs, rfl⟩ := ht d (List.mem_cons_self ..)
    rw [List.mapM_cons]
    refine wpAny_bind ?_
    rw [kas_first_eq]
    cases r with
    | @tuple a o vs n _ _ ho hc hd hr =>
      refine wpAny_bind (Looks.here (show Looks _ s.heap (typeOf (.ref a)) o.cls from (Looks.ld ho).andThen .now) ?_)
      rw [hc, if_neg (by first | decide | simp)]
      refine wpAny_bind (listItems_at ho hd (wpAny_pure ?_))
      refine wpAny_bind (firsts_of (Q := fun bs s' => wpAny (model prog w) A (pure (vs[0]? :: bs)) Q E s') t (fun d hd => ht d (List.mem_cons_of_mem _ hd)) fun os ho => wpAny_pure (h _ ?_))
      rw [List.map_cons, List.map_cons, ho]
      congr 1
      have n1 : vs.size = xs.length := by simpa using ReadsAll.length _ _ _ hr
      cases xs with
      | nil => rw [Array.getElem?_eq_none (by rw [n1]; exact Nat.le_refl 0)]; rfl
      | cons x xs => rw [Array.getElem?_eq_getElem (by rw [n1]; exact Nat.succ_pos _)]; rfl

theorem sortsTups {vs : List Value} {ds : List PyData} (e : EachIs (fun v d => ∃ as, Reads s.heap v d as) vs ds) (hal : AllAlike ds) (ht : ∀ d, d ∈ ds → ∃ xs, d = .tuple xs) (hu : ∀ d, d ∈ ds → A.units + d.depth < cLine) : SortsAt prog w A s (dataKind s.heap ds) vs := by
  by_cases hne : ∀ d, d ∈ ds → ∃ x r, d = .tuple (x :: r)
  · exact SortsAt.data e hal (.inl hne) hu
  · have room : ∀ {d d' : PyData}, d ∈ ds → A.units + min d.depth d'.depth < cLine := fun {d d'} hd => Nat.lt_of_le_of_lt (Nat.add_le_add_left (Nat.min_le_left _ _) _) (hu d hd)
    have lt : ∀ f : Bool, H.LtAt prog w A s (dataKind s.heap ds) (if f then oneType' else general') := by
      intro f E x y a b Q ha hb hq
      obtain ⟨d, as, hd, ra, rfl⟩ := dataKind_inv ha
      obtain ⟨d', as', hd', rb, rfl⟩ := dataKind_inv hb
      have hdd := hal d hd d' hd'
      have hroom := room (d' := d') hd
      obtain ⟨xs, rfl⟩ := ht d hd
      obtain ⟨ys, rfl⟩ := ht d' hd'
      have hk : keyLt' (if f then oneType' else general') x y = oneLt' f x y := by cases f <;> rfl
      rw [hk]
      exact oneLt_tups ra rb hdd hroom hq
    refine ⟨fun v hv => ?_, ?_⟩
    · obtain ⟨d, hd, as, r⟩ := e.left v hv
      exact ⟨_, dataKind_some hal hd r⟩
    · refine ⟨_, lt (match ds with | .tuple (_ :: _) :: _ => false | _ => true), fun h2 E Q hq => ?_⟩
      rw [kat_kind_eq, List.mapM_toArray, map_eq_pure_bind]
      refine wpAny_bind (wpAny_bind (firsts_of e ht fun os ho => wpAny_pure ?_))
      have hno : ¬ (os.toArray.all fun x => x.isSome) = true := by
        intro q
        refine hne fun d hd => ?_
        simp only [List.all_toArray] at q
        have q' : ∀ b ∈ os.map Option.isSome, b = true := by
          intro b hb
          obtain ⟨o, ho, rfl⟩ := List.mem_map.mp hb
          exact List.all_eq_true.mp q o ho
        rw [ho] at q'
        have := q' _ (List.mem_map.mpr ⟨d, hd, rfl⟩)
        obtain ⟨xs, rfl⟩ := ht d hd
        cases xs with
        | nil => cases this
        | cons x r => exact ⟨x, r, rfl⟩
      rw [if_neg hno]
      cases e with
      | nil => exact absurd h2 (by simp)
      | @cons v d vs ds hv t =>
        obtain ⟨xs, rfl⟩ := ht d (List.mem_cons_self ..)
        cases os with
        | nil => cases ho
        | cons o os =>
          rw [List.map_cons, List.map_cons, List.cons.injEq] at ho
          obtain ⟨ho1, ho2⟩ := ho
          have h0 : ((o :: os).toArray[0]?.bind id) = o := by simp
          rw [h0]
          cases xs with
          | cons x r =>
            rw [if_pos (by rw [ho1])]
            exact wpAny_pure hq
          | nil =>
            rw [if_neg (by rw [ho1]; simp)]
            rw [oneTypeOnly'_eq, List.mapM_toArray, map_eq_pure_bind]
            refine wpAny_bind (wpAny_bind (wpAny_bind (kas_mapM (r := Value.type "tuple") _ (fun u hu' Q' hq' => ?_) (wpAny_pure ?_))))
            · obtain ⟨d, hd, as, r⟩ := (EachIs.cons hv t).left u hu'
              obtain ⟨zs, rfl⟩ := ht d hd
              exact (looks_reads r).here hq'
            · have hall : ((List.map (fun _ => Value.type "tuple") (v :: vs)).toArray.all fun x => x == Value.type "tuple") = true := by
                simp only [List.all_toArray, List.all_map, List.all_eq_true]
                intro _ _
                rfl
              have h0 : (List.map (fun _ => Value.type "tuple") (v :: vs)).toArray[0]? = some (Value.type "tuple") := by simp
              rw [h0]
              simp only [hall, if_true]
              exact wpAny_pure (wpAny_pure hq)
section
variable {β : Type} {vs : List Value} {bs : List β} {enc : β → PyData} {R : Value → β → Prop}
/-- sorted(xs) of tuples -/
theorem sorted_tups {l : Addr} {Q : Value → Shared → Prop} (hl : s.heap.IsList l vs.toArray) (e : EachIs R vs bs) (er : EachIs (fun v b => ∃ as, Reads s.heap v (enc b) as) vs bs) (hal : AllAlike (bs.map enc)) (hk : ∀ d, d ∈ bs.map enc → ∃ xs, d = .tuple xs) (hL : bs.length ≤ sizeLine)
    (hu : ∀ b, b ∈ bs → A.units + 2 + (enc b).depth < cLine) (h : ∀ out, out.length = bs.length → EachIs R out (bs.mergeSort (dataLe false enc)) → Q (.ref (s.heap.objs.size + 1)) { s with heap := sortedAll s.heap vs (List.toArray out) }) :
    wpAny (model prog w) A (PySem.call (.builtin "sorted") [.ref l]) Q E s := by
  have er' : EachIs (fun v b => ∃ as, Reads (sortingHeap (copyHeap s.heap vs) (s.heap.objs.size + 1) vs) v (enc b) as) vs bs := er.mono fun _ _ ⟨as, r⟩ => ⟨as, PyProof.Rows.Reads.keeps (fun _ _ => sorting_copy_old) r⟩
  exact sorted_vals hl (sortsTups (s := { s with heap := sortingHeap (copyHeap s.heap vs) (s.heap.objs.size + 1) vs }) (each_map (R := fun v d => ∃ as, Reads (sortingHeap (copyHeap s.heap vs) (s.heap.objs.size + 1) vs) v d as) enc er') hal hk (bound_map hu)) (by rw [e.length]; exact hL)
    (h _ (by rw [sortVals_length false rfl]; exact e.length) (sortVals_data false e er' hal))
theorem sorted_any {l : Addr} {Q : Value → Shared → Prop} (hl : s.heap.IsList l vs.toArray) (e : EachIs R vs bs) (er : EachIs (fun v b => ∃ as, Reads s.heap v (enc b) as) vs bs) (hal : AllAlike (bs.map enc)) (hk : (∀ d, d ∈ bs.map enc → ∃ xs, d = .tuple xs) ∨ Sortable (bs.map enc)) (hL : bs.length ≤ sizeLine)
    (hu : ∀ b, b ∈ bs → A.units + 2 + (enc b).depth < cLine) (h : ∀ out, out.length = bs.length → EachIs R out (bs.mergeSort (dataLe false enc)) → Q (.ref (s.heap.objs.size + 1)) { s with heap := sortedAll s.heap vs (List.toArray out) }) :
    wpAny (model prog w) A (PySem.call (.builtin "sorted") [.ref l]) Q E s := by
  rcases hk with hk | hk
  · exact sorted_tups hl e er hal hk hL hu h
  · exact sorted_data hl e er hal hk hL hu h
end
end
end Gl

set_option Elab.async false
set_option linter.all false
set_option maxRecDepth 100000
set_option maxHeartbeats 4000000
/-! GlI: calls. -/
namespace Gl
open PySem L2
variable {mx : Mx} {call : Nat → List T → Rs T} {k : Nat}
section
variable {K : PySem.W.Frag} {mg : Str → Option Value} {G0 H0 G H H' : Hp} {F : Nat → List Addr} {ρ : Env} {σ : St} {t : T} {v : V}
theorem RelG.heldF (R : RelG K mg G0 H0 G F ρ σ H) (h : Hld ρ σ H t v) : ∃ f, Own K mg G H t v f ∧ ∀ b ∈ f, G b = none := by
  obtain ⟨i, p, t0, t1, v0, e1, e2, e0, e3, e4⟩ := h
  obtain ⟨w, q, o⟩ := R.own i t0 e1
  rw [e2] at q
  cases q
  obtain ⟨f, o', hs⟩ := (o.vw e0).sub e3 e4
  exact ⟨f, o', fun b hb => (R.free i t0 e1 b (hs b hb)).1⟩
theorem fr_plain {t t' : T} (e : t.fr = some t') : t'.plain = true := by
  cases t with
  | node k ts =>
    cases k <;> simp only [T.fr] at e <;> first | (split at e <;> first | (cases e; rfl) | cases e) | cases e
  | exc a c => simp only [T.fr, Option.some.injEq] at e; subst e; rfl
  | pin => simp [T.fr] at e
  | io => simp [T.fr] at e
  | _ => simp only [T.fr, Option.some.injEq] at e; subst e; rfl
theorem Own.isPL {f : List Addr} (o : Own K mg G H t v f) (hp : t.isPL = true) : ∀ b ∈ f, ∃ xs, H b = some (.lst xs) := by
  cases t with
  | node k ts =>
    cases k with
    | lst =>
      cases o with
      | node sh ol it =>
        rename_i a vs ex f
        have hex : ex = [] := sh.2
        subst hex
        obtain ⟨ds, hd⟩ := Option.isSome_iff_exists.mp (show (imms ts).isSome = true from hp)
        have hf : f = [] := (ol.imms hd).2
        subst hf
        intro b hb
        have : b = a := by simpa using hb
        exact ⟨vs, this ▸ sh.1⟩
    | _ => cases hp
  | _ =>
    have := (o.plain (by exact hp)).1
    subst this
    exact fun b hb => nomatch hb
mutual
theorem Rp.noL {G' G2 : Hp} (k : ∀ b o, G' b = some o → (∀ xs, o ≠ .lst xs) → G2 b = some o) : ∀ {d : PyData} {v : V}, Rp K G' d v → noLs d = true → Rp K G2 d v
  | _, _, .non, _ => .non
  | _, _, .bl b, _ => .bl b
  | _, _, .int i, _ => .int i
  | _, _, .str x, _ => .str x
  | _, _, .lst h r, e => by simp [noLs] at e
  | _, _, .tup h r, e => .tup (k _ _ h (fun xs z => nomatch z)) (RpL.noL k r (by simpa [noLs] using e))
theorem RpL.noL {G' G2 : Hp} (k : ∀ b o, G' b = some o → (∀ xs, o ≠ .lst xs) → G2 b = some o) : ∀ {ds : List PyData} {vs : List V}, RpL K G' ds vs → noLsA ds = true → RpL K G2 ds vs
  | _, _, .nil, _ => .nil
  | _, _, .cons h r, e => by
    simp only [noLsA, Bool.and_eq_true] at e
    exact .cons (Rp.noL k h e.1) (RpL.noL k r e.2)
end
theorem imms_map' : ∀ {ts : List T} {ds : List PyData}, imms ts = some ds → ts = ds.map .imm
  | [], ds, h => by simp only [imms, Option.some.injEq] at h; subst h; rfl
  | t :: ts, ds, h => by
    cases t with
    | imm d =>
      simp only [imms] at h
      cases h2 : imms ts with
      | none => rw [h2] at h; cases h
      | some r => rw [h2] at h; cases h; rw [imms_map' h2]; rfl
    | _ => simp [imms] at h
theorem Own.noL {G' G2 : Hp} {f : List Addr} (k : ∀ b o, G' b = some o → (∀ xs, o ≠ .lst xs) → G2 b = some o) (o : Own K mg G' H t v f) (e : noLsT t = true) : Own K mg G2 H t v f := by
  cases t with
  | imm d =>
    cases o with
    | imm r => exact .imm (r.noL k e)
  | node kd ts =>
    cases kd with
    | lst =>
      cases o with
      | node sh ol it =>
        simp only [noLsT] at e
        cases hd : imms ts with
        | none => rw [hd] at e; cases e
        | some ds =>
          rw [hd] at e
          obtain ⟨r, hf⟩ := ol.imms hd
          subst hf
          rw [imms_map' hd]
          exact .node sh (OwnL.ofImms (r.noL k e)) (fun z => nomatch z)
    | _ => cases e
  | _ => cases e
theorem RelG.args (R : RelG K mg G0 H0 G F ρ σ H) : ∀ {ts as : List T} {vs : List V}, Paired (Hld ρ σ H) ts vs → frL ts = some as →
    ∃ fp : List Addr, (∀ b ∈ fp, G b = none) ∧ (∀ G', Same G G' → (∀ b ∈ fp, ∀ o, H b = some o → G' b = some o) → OwnL K mg G' H as vs []) ∧ as.all T.plain = true ∧ (ts.all T.plain = true → fp = []) ∧ (ts.all T.isPL = true → ∀ b ∈ fp, ∃ xs, H b = some (.lst xs))
  | _, _, _, .nil, e => by simp only [frL, Option.some.injEq] at e; subst e; exact ⟨[], (fun b hb => nomatch hb), fun _ _ _ => .nil, rfl, fun _ => rfl, fun _ b hb => nomatch hb⟩
  | _, _, _, .cons (a := t) (l₁ := ts) h r, e => by
    simp only [frL] at e
    cases h1 : t.fr with
    | none => rw [h1] at e; cases e
    | some x =>
      cases h2 : frL ts with
      | none => rw [h1, h2] at e; cases e
      | some as =>
        rw [h1, h2] at e
        cases e
        obtain ⟨f, o, hf⟩ := R.heldF h
        obtain ⟨fp, a1, a2, a3, a4, a5⟩ := R.args r h2
        refine ⟨f ++ fp, fun b hb => (List.mem_append.mp hb).elim (hf b) (a1 b), fun G' s hb => ?_, by rw [List.all_cons, fr_plain h1, a3]; rfl, fun hp => ?_, fun hp b hb => ?_⟩
        · exact .cons (f := []) (o.fr s (fun b q => hb b (List.mem_append_left _ q)) h1) (a2 G' s fun b q => hb b (List.mem_append_right _ q))
        · rw [List.all_cons, Bool.and_eq_true] at hp
          rw [(o.plain hp.1).1, a4 hp.2]; rfl
        · rw [List.all_cons, Bool.and_eq_true] at hp
          rcases List.mem_append.mp hb with hb | hb
          · exact o.isPL hp.1 b hb
          · exact a5 hp.2 b hb
end
theorem frz_nil {G H : Hp} : frz G H [] = G := by funext b; unfold frz; simp
theorem Rp.scal {K : PySem.W.Frag} {G G' : Hp} {d : PyData} {v : V} (h : Rp K G d v) (e : isScal d = true) : Rp K G' d v := by
  cases h <;> first | exact .non | exact .bl _ | exact .int _ | exact .str _ | cases e
theorem Paired.len {α β : Type} {F : α → β → Prop} : ∀ {l₁ : List α} {l₂ : List β}, Paired F l₁ l₂ → l₁.length = l₂.length
  | _, _, .nil => rfl
  | _, _, .cons _ t => congrArg (· + 1) (Paired.len t)

/-! ### sorted -/
def rSortD (K : PySem.W.Frag) : List V → Hp → VK → Prop := fun vs H Q => ∃ (a : Addr) (xs : List V) (ds : List PyData) (P : PyData → V → Prop), vs = [.ref a] ∧ SqL K H a xs ∧ Paired P ds xs ∧ DpAll K H xs ds ∧ sortB ds = true ∧
  ∀ ys p, Paired P (sortD ds) ys → H p = none → Q (.ref p) (upd H p (.lst ys))
theorem each_of {P : PyData → V → Prop} : ∀ {ds : List PyData} {xs : List V} {us : List Value}, Paired P ds xs → Vals xs us → W.EachIs (fun u d => ∃ v, RelV v u ∧ P d v) us ds
  | _, _, _, .nil, .nil => .nil
  | _, _, _, .cons h t, .cons r q => .cons ⟨_, r, h⟩ (each_of t q)
theorem of_each {P : PyData → V → Prop} : ∀ {ds : List PyData} {us : List Value}, W.EachIs (fun u d => ∃ v, RelV v u ∧ P d v) us ds → ∃ xs, Paired P ds xs ∧ Vals xs us
  | _, _, .nil => ⟨[], .nil, .nil⟩
  | _, _, .cons ⟨v, r, h⟩ t => let ⟨xs, a, b⟩ := of_each t; ⟨v :: xs, .cons h a, .cons r b⟩
theorem sortB_ok {ds : List PyData} (h : sortB ds = true) : W.AllAlike ds ∧ ((∀ d ∈ ds, ∃ xs, d = PyData.tuple xs) ∨ W.Sortable ds) ∧ (∀ d ∈ ds, d.depth ≤ 64) ∧ ds.length ≤ sizeLine := by
  unfold sortB at h
  simp only [Bool.and_eq_true, decide_eq_true_eq] at h
  obtain ⟨⟨⟨h1, h2⟩, h3⟩, h4⟩ := h
  refine ⟨fun d hd e he => ?_, ?_, fun d hd => of_decide_eq_true (List.all_eq_true.mp h3 d hd), h4⟩
  · unfold alikeB at h1
    exact List.all_eq_true.mp (List.all_eq_true.mp h1 d hd) e he
  · rw [Bool.or_eq_true] at h2
    rcases h2 with h2 | h2
    · refine .inl fun d hd => ?_
      have := List.all_eq_true.mp h2 d hd
      unfold tupB at this
      split at this
      · exact ⟨_, rfl⟩
      · cases this
    · refine .inr (.inr fun d hd => ?_)
      have := List.all_eq_true.mp h2 d hd
      cases d <;> simp [flatB] at this ⊢
theorem cr_sortD {X : Cx} (hu : X.A.units + 66 < cLine) : CallR X (.builtin "sorted") (rSortD X.K) := by
  intro pins s σ H vs us Q I r h
  obtain ⟨a, xs, ds, P, rfl, hs, hp, hd, hb, q⟩ := h
  obtain ⟨h1, h2, h3, h4⟩ := sortB_ok hb
  obtain ⟨its, rv, hl, hz⟩ := I.list hs
  obtain ⟨u, rfl, ru⟩ := vals1 r
  obtain rfl : u = Value.ref a := ru
  obtain ⟨as, ra⟩ := Dp.readsAll I ds xs its hd rv
  have ra : PySem.ReadsAll s.heap its (ds.map id) as := by rw [List.map_id]; exact ra
  refine sorted_any (enc := id) hl.isList (each_of hp rv) (W.readsAll_each id ra) (by rw [List.map_id]; exact h1) (by rw [List.map_id]; exact h2) h4 (fun b hb => by have := h3 b hb; show _ + 2 + b.depth < _; omega) fun out ho eo => ?_
  obtain ⟨ys, hy, vy⟩ := of_each eo
  obtain ⟨c, hc⟩ := PyProof.Rows.sortedAll_at s.heap its out.toArray
  refine ⟨.ref (s.heap.objs.size + 1), upd H (s.heap.objs.size + 1) (.lst ys), I.laid (t' := s.toks) (fun b o => PyProof.Rows.sortedAll_old) (Nat.le_succ _) ⟨?_, out, c, vy, hc⟩, rfl, q ys _ hy (I.hok.fresh (Nat.le_succ _))⟩
  rw [← Paired.length hy, List.length_mergeSort]; exact h4
/-! ### sorted of a dict's keys, all texts -/
section
open PySem.Spec PyProof.Rows
def IsS : PyData → V → Prop := fun d v => ∃ x : Str, d = .str x ∧ v = V.str x
def rSortK : List V → Hp → VK → Prop := fun xs H Q => ∃ (a : Addr) (kvs : List (Key × V)) (ks : List Str), xs = [.ref a] ∧ Rd H a (.dK kvs) ∧ kvs.map (·.1) = ks.map Sum.inr ∧
  ∀ ys p, Paired IsS (sortD (ks.map .str)) ys → H p = none → Q (.ref p) (upd H p (.lst ys))
theorem each_strs {h : Heap} : ∀ {us : List Value} {ks : List Str}, StrsAre us ks → W.EachIs (fun u d => ∃ v, RelV v u ∧ IsS d v) us (ks.map .str) ∧ ∀ b, W.EachIs (fun v d => ∃ as, Reads h v (id d) as ∧ b ∉ as) us (ks.map PyData.str)
  | _, _, .nil => ⟨.nil, fun _ => .nil⟩
  | _, _, .cons x t r => ⟨.cons ⟨.str x, ⟨t, rfl⟩, x, rfl, rfl⟩ (each_strs (h := h) r).1, fun b => .cons ⟨[], .str x t, fun z => nomatch z⟩ ((each_strs r).2 b)⟩
theorem cr_sortK {X : Cx} (hu : X.A.units + 66 < cLine) (hcalm : X.calm = true) : CallR X (.builtin "sorted") rSortK := by
  intro pins s σ H xs us Q I r q
  obtain ⟨a, kvs, ks, ex, hd, hks, q⟩ := q
  subst ex
  obtain ⟨u, eu, rx⟩ := vals1 r
  subst eu
  cases rx
  obtain ⟨z, lo, vs, rel, dd⟩ := dk_rd I.hok hd
  obtain ⟨ep, hat⟩ := dd.dictAt
  have hkeys : vs.map (·.1) = ks.map Sum.inr := rel.keys.symm.trans hks
  have hl : vs.length = ks.length := by
    have e := congrArg List.length hkeys
    rw [List.length_map, List.length_map] at e
    exact e
  have h16 : vs.length ≤ sizeLine := by rw [← rel.length]; exact z
  refine Calls.call_function_entry kind_sorted plain_sorted entry_sorted (args_sorted1 _) ?_
  unfold Builtin.«sorted»
  refine wpAny_bind (m := checkCount "sorted" 1 1 _) (wpAny_pure ?_)
  refine wpAny_bind (PySem.W.kdu_collect (A := X.A.in1) (PySem.W.kdl_dict (knd := mixKind X.prog X.w) (kvs := vs) (ep := ep) lo) (I.ok.hd hcalm) hat h16 fun h' tk acc hk hacc => ?_)
  have hal : acc.toList.length = ks.length := by rw [Array.length_toList, hacc.1, hl]
  have hS : StrsAre acc.toList ks := strs_at hal fun j v e => by
    obtain ⟨k, x, e1, e2⟩ := hacc.2 j v (by rw [← Array.getElem?_toList]; exact e)
    have e3 : (vs.map (·.1))[j]? = some k := by rw [List.getElem?_map, e1]; all_goals rfl
    rw [hkeys, List.getElem?_map] at e3
    cases e4 : ks[j]? with
    | none => rw [e4] at e3; cases e3
    | some y =>
      rw [e4] at e3
      have e5 : Sum.inr y = k := Option.some.inj e3
      subst e5
      obtain ⟨t, ev⟩ := Value.isStrOf_shape (x := y) (v := v) e2
      exact ⟨y, t, rfl, ev⟩
  have I1 : Inv X pins σ H { s with heap := h', toks := tk } := I.kept hk
  refine wpAny_bind (wpAny_newList ?_ (by rw [hal, ← hl]; exact h16))
  have hoL : (h'.push (seqObj "list" acc.toList.toArray 0)).get? h'.objs.size = some (seqObj "list" acc.toList.toArray 0) := Heap.get?_push_size _ rfl
  show wpAny _ _ _ _ _ { s with heap := h'.push (seqObj "list" acc.toList.toArray 0), toks := tk }
  refine wpAny_bind (wpAny_holding ?_)
  have hmem : ∀ d ∈ ks.map PyData.str, ∃ x, d = .str x := fun d hd => by
    obtain ⟨x, _, rfl⟩ := List.mem_map.mp hd
    exact ⟨x, rfl⟩
  have hE := each_strs (h := h'.push (seqObj "list" acc.toList.toArray 0)) hS
  refine PySem.W.list_sort_data (enc := id) (bs := ks.map .str) (s := { s with heap := h'.push (seqObj "list" acc.toList.toArray 0), toks := tk }) hoL hE.1 (hE.2 _) (by
    rw [List.map_id]
    intro d hd e he
    obtain ⟨x, rfl⟩ := hmem d hd
    obtain ⟨y, rfl⟩ := hmem e he
    rfl) (by
    rw [List.map_id]
    refine .inr fun d hd => ?_
    obtain ⟨x, rfl⟩ := hmem d hd
    exact ⟨(fun z => nomatch z), fun xs z => nomatch z⟩) (by rw [List.length_map, ← hl]; exact h16) (fun b hb => by
    obtain ⟨x, rfl⟩ := hmem b hb
    show _ + 1 + 0 < _
    have : X.A.in1.units = X.A.units + 1 := rfl
    omega) fun out ho eo => ?_
  obtain ⟨ys, hy, vy⟩ := of_each eo
  obtain ⟨e', he'⟩ := sortedHeap_at (vs := acc.toList) (out := out.toArray) hoL
  have hlen : ys.length ≤ sizeLine := by
    rw [← Paired.length hy, List.length_mergeSort, List.length_map, ← hl]
    exact h16
  refine wpAny_pure ⟨_, rfl, .ref h'.objs.size, upd H h'.objs.size (.lst ys), I1.laid (t' := tk) (fun b u e => ?_) (Nat.le_refl _)
    (show ObjOk X.prog X.w _ _ _ (.lst ys) from ⟨hlen, out, e', vy, he'⟩), rfl, q ys _ hy (I1.hok.fresh (Nat.le_refl _))⟩
  have hb : b < h'.objs.size := Heap.lt_size e
  rw [sortedHeap_old (Nat.ne_of_lt hb) (by rw [size_push']; exact Nat.lt_succ_of_lt hb)]
  exact Heap.get?_push_of_some _ e
end
theorem keyS_map : ∀ {kvs : List Ky} {ks : List Str}, keyS kvs = some ks → kvs = ks.map Sum.inr
  | [], _, h => by cases h; rfl
  | .inl _ :: _, _, h => by cases h
  | .inr x :: kvs, ks, h => by
    unfold keyS at h
    split at h
    · next r hr => cases h; rw [keyS_map hr]; rfl
    · cases h

section
variable {K : PySem.W.Frag} {mg : Str → Option Value} {G0 H0 G H H' : Hp} {F : Nat → List Addr} {ρ : Env} {σ : St} {t : T} {v : V} {Q : VK}
theorem RpL.pd : ∀ {ds : List PyData} {vs : List V}, RpL K G ds vs → Paired (Rp K G) ds vs
  | _, _, .nil => .nil
  | _, _, .cons h t => .cons h t.pd
theorem RpL.ofPd : ∀ {ds : List PyData} {vs : List V}, Paired (Rp K G) ds vs → RpL K G ds vs
  | _, _, .nil => .nil
  | _, _, .cons h t => .cons h (RpL.ofPd t)
theorem rp_key (k : Ky) : Rp K G (ofKey k) (kV k) := by
  cases k with
  | inl i => exact .int i
  | inr x => exact .str x
theorem rpl_keys : ∀ ks : List Ky, RpL K G (ks.map ofKey) (ks.map kV)
  | [] => .nil
  | k :: ks => .cons (rp_key k) (rpl_keys ks)
theorem kV_noref (k : Ky) (a : Addr) : kV k ≠ V.ref a := by cases k <;> intro z <;> cases z
/-- the keys of a dict by tuples, in a new list -/
theorem RelG.keysT (R : RelG K mg G0 H0 G F ρ σ H) (hl : ρ.length = σ.length) {kvs : List (List Ky × V)} {bs : List Addr} (hk : IsKeys H kvs bs) {p : Addr} (hp : H p = none)
    (q : Nw K mg G0 H0 ρ σ H (.L ((kvs.map (·.1)).map fun k => .tuple (k.map ofKey))) Q) : Q (.ref p) (upd H p (.lst (bs.map V.ref))) := by
  have hb : ∀ {kvs : List (List Ky × V)} {bs : List Addr}, IsKeys H kvs bs → ∀ b ∈ bs, ∃ k : List Ky, H b = some (.tup (k.map kV)) := by
    intro kvs bs h
    induction h with
    | nil => exact fun b hb => nomatch hb
    | cons h _ ih => exact fun b hb => (List.mem_cons.mp hb).elim (fun e => e ▸ ⟨_, h⟩) (ih b)
  have hb := hb hk
  have gp : G p = none := by
    cases z : G p with
    | none => rfl
    | some o => rw [R.gh p o z] at hp; cases hp
  have pb : p ∉ bs := fun z => by
    obtain ⟨k, e⟩ := hb p z
    rw [hp] at e; cases e
  have s1 : Same G (frz G H bs) := fun b o e => by
    by_cases hm : b ∈ bs
    · rw [frz_at hm]; exact R.gh b o e
    · rw [frz_out hm]; exact e
  have rl : ∀ {kvs : List (List Ky × V)} {cs : List Addr}, IsKeys H kvs cs → (∀ b ∈ cs, b ∈ bs) → RpL K (frz G H bs) ((kvs.map (·.1)).map fun k => .tuple (k.map ofKey)) (cs.map V.ref) := by
    intro kvs cs h
    induction h with
    | nil => exact fun _ => .nil
    | cons h _ ih =>
      intro hm
      exact .cons (.tup (by rw [frz_at (hm _ List.mem_cons_self)]; exact h) (rpl_keys _)) (ih fun b hb => hm b (List.mem_cons_of_mem _ hb))
  have rl := rl hk fun b h => h
  refine q _ _ (R.push (f := [p]) (G' := frz G H bs) hl (same_upd hp) s1 ((frz_le R.gh).trans (same_upd hp)) (fun b h1 h2 => ?_) ?_ (by simp) fun b hb' => ?_) (same_upd hp)
  · by_cases hm : b ∈ bs
    · obtain ⟨k, e⟩ := hb b hm
      refine .inr ⟨_, e, fun v hv a => ?_⟩
      obtain ⟨x, _, rfl⟩ := List.mem_map.mp hv
      exact kV_noref x a
    · exact .inl (by rw [frz_out hm]; exact h1)
  · exact .node (ex := []) (f := []) (show _ ∧ _ from ⟨upd_same, rfl⟩) (OwnL.ofImms rl) (fun z => nomatch z)
  · rw [List.mem_singleton.mp hb']
    exact ⟨by rw [frz_out pb]; exact gp, hp⟩
theorem keysT_ok (R : RelG K mg G0 H0 G F ρ σ H) (hl : ρ.length = σ.length) {f : List Addr} (o : Own K mg G H t v f) {ds : List PyData} (e : keysT t = some ds) (q : Nw K mg G0 H0 ρ σ H (.L ds) Q) :
    rListD [v] H Q ∨ ∃ d kvs, [v] = [V.ref d] ∧ Rd H d (.dT kvs) ∧ ∀ p bs, H p = none → IsKeys H kvs bs → Q (.ref p) (upd H p (.lst (bs.map V.ref))) := by
  unfold Gl.keysT at e
  split at e
  · next kvs hk =>
    cases e
    obtain ⟨a, ks, rfl, e1, e2⟩ := o.dkv R.gh hk
    refine .inl ⟨a, ks, rfl, e1, fun p hp => ?_⟩
    have : (kvs.map fun kv => ofKey kv.1) = (ks.map (·.1)).map ofKey := by rw [← e2.keys, List.map_map]; rfl
    rw [this] at q
    have e3 : (ks.map fun kv => kV kv.1) = (ks.map (·.1)).map kV := by rw [List.map_map]; rfl
    rw [e3]
    exact R.newL hl (rpl_keys _) q hp
  · split at e
    · next kvs hk =>
      cases e
      obtain ⟨a, ks, rfl, e1, e2⟩ := o.dtv R.gh hk
      refine .inr ⟨a, ks, rfl, .inl e1, fun p bs hp hb => R.keysT hl hb hp ?_⟩
      have : (kvs.map fun kv => PyData.tuple (kv.1.map ofKey)) = (ks.map (·.1)).map fun k => .tuple (k.map ofKey) := by rw [← e2.keys, List.map_map]; rfl
      rw [this] at q
      exact q
    · cases e
end
/-- a promise kept gives what the caller wants -/
theorem sp_of {K : PySem.W.Frag} {mg : Str → Option Value} {W : WX} {G0 H0 H H1 : Hp} {ρ : Env} {σ : St} {τ τ1 : Env} {σt σt1 : St} {f : Nat} {ts : List T} {vs : List V} {Q : VK} (R : Ro K mg G0 H0 ρ σ τ σt H) (R1 : Ro K mg G0 H0 ρ σ τ1 σt1 H1) (s1 : Same H H1)
    (p1 : τ <+: τ1) (q1 : σt <+: σt1) (h1 : Paired (Hld (ρ ++ τ1) (σ ++ σt1) H1) ts vs) (m : RsP (callT call f ts) (fun t => PN K mg G0 H0 ρ σ τ σt H t Q) (PX K mg W G0 H0 ρ σ τ σt H)) : spP K mg call f ts.length vs H1 Q (WE W σ) := by
  refine ⟨(Paired.len h1).symm, ?_⟩
  unfold callT at m
  cases ha : frL ts with
  | none => rw [ha] at m; exact m.elim
  | some as =>
    rw [ha] at m
    dsimp only at m
    obtain ⟨G, F, r⟩ := R1.rel
    obtain ⟨fp, a1, a2, a3, a4, a5⟩ := r.args h1 ha
    have ol := a2 _ (frz_same (H := H1) a1) (fun b hb o e => by rw [frz_at hb]; exact e)
    refine ⟨frz G H1 fp, H1, fun _ => [], as, ol.length.trans (Paired.len h1).symm, RelG.plain (frz_le r.gh) ol, ?_⟩
    cases hc : call f as with
    | no => rw [hc] at m; exact m.elim
    | ex c =>
      rw [hc] at m
      intro H' C s2 hC
      refine PX.later m R.l2 s1 p1 q1 H' C ⟨R1.l1, R1.l2, ?_⟩ s2 hC
      exact ⟨G, F, r.grow s2 (Same.refl G) (r.gh.trans s2) fun b h _ => .inl h⟩
    | ok t =>
      rw [hc] at m
      dsimp only at m
      split at m
      · next hp =>
        rw [Bool.or_eq_true, Bool.or_eq_true, Bool.and_eq_true, Bool.and_eq_true] at hp
        intro v H' R'
        have hv : t.isV = true := by
          rcases hp with (hp | hp) | hp
          · exact hp.2
          · cases t <;> first | rfl | cases hp
          · have h2 := hp.2
            cases t <;> first | rfl | cases h2
        obtain ⟨G', F', r'⟩ := R'.2 hv
        have m' : PN K mg G0 H0 ρ σ τ1 σt1 H1 t Q := PN.later m R.l2 R1.l2 s1 p1 q1
        obtain ⟨w, ew, o⟩ := r'.own 0 t rfl
        cases ew
        refine m' _ H' ⟨R1.l1, by simp [R1.l2], ?_⟩ r'.h0
        rw [← List.append_assoc, ← List.append_assoc]
        rcases hp with (hp | hp) | hp
        · rw [a4 hp.1, frz_nil] at r'
          exact r.push R1.len r'.h0 r'.g0 r'.gh r'.gx o (r'.nd 0 t rfl) (fun b hb => r'.free 0 t rfl b hb)
        · have r2 := r.grow r'.h0 (Same.refl G) (r.gh.trans r'.h0) fun b h _ => .inl h
          cases t with
          | imm d =>
            have e : isScal d = true := hp
            exact r2.pushI R1.len (o.rp.scal e)
          | _ => cases hp
        · -- the lists that were handed in are one's own again
          have hls := a5 hp.1
          have gfp : ∀ b ∈ fp, ∃ xs, G' b = some (.lst xs) := fun b hb => by
            obtain ⟨xs, e⟩ := hls b hb
            exact ⟨xs, r'.g0 _ _ (by rw [frz_at hb]; exact e)⟩
          classical
          let G2 : Hp := fun b => if b ∈ fp then none else G' b
          have g2in : ∀ b, b ∈ fp → G2 b = none := fun b hb => if_pos hb
          have g2out : ∀ b, b ∉ fp → G2 b = G' b := fun b hb => if_neg hb
          refine r.push (G' := G2) R1.len r'.h0 (fun b o e => ?_) (fun b o e => ?_) (fun b h1 h2 => ?_) (o.noL (fun b ob e hn => ?_) hp.2) (r'.nd 0 t rfl) fun b hb => ?_
          · have hb : b ∉ fp := fun z => by rw [a1 b z] at e; cases e
            rw [g2out b hb]
            exact r'.g0 _ _ (by rw [frz_out hb]; exact e)
          · by_cases hb : b ∈ fp
            · rw [g2in b hb] at e; cases e
            · rw [g2out b hb] at e; exact r'.gh _ _ e
          · by_cases hb : b ∈ fp
            · exact .inl (g2in b hb)
            · rw [g2out b hb]
              exact r'.gx b (by rw [frz_out hb]; exact h1) h2
          · by_cases hb : b ∈ fp
            · obtain ⟨xs, e'⟩ := gfp b hb
              rw [e'] at e
              cases e
              exact absurd rfl (hn xs)
            · rw [g2out b hb]; exact e
          · obtain ⟨f1, f2⟩ := r'.free 0 t rfl b hb
            refine ⟨?_, f2⟩
            by_cases hbf : b ∈ fp
            · exact g2in b hbf
            · rw [g2out b hbf]; exact f1
      · exact m.elim
section
variable {K : PySem.W.Frag} {mg : Str → Option Value} {G0 H0 G H H' : Hp} {F : Nat → List Addr} {ρ : Env} {σ : St} {t : T} {v : V}
/-- a slot frozen -/
theorem RelG.freeze {i : Nat} {t' : T} (R : RelG K mg G0 H0 G F ρ σ H) (e : ρ[i]? = some (some t)) (h : t.fr = some t') : Rel K mg G0 H0 (ρ.set i (some t')) σ H := by
  obtain ⟨v, qv, ow⟩ := R.own i t e
  have hi := (List.getElem?_eq_some_iff.mp e).1
  have fr := R.free i t e
  have s := frz_same (H := H) fun b hb => (fr b hb).1
  have old : ∀ {l : Nat} {u : T}, (ρ.set i (some t'))[l]? = some (some u) → l ≠ i → ρ[l]? = some (some u) := fun {l u} q n => by rwa [List.getElem?_set_ne (fun z => n z.symm)] at q
  refine ⟨frz G H (F i), fun l => if l = i then [] else F l, fun l u q => ?_, fun l u q => ?_, fun l u q b hb => ?_, fun l m u w n q1 q2 b hb => ?_, frz_le R.gh, R.g0.trans s, fun b h1 h2 => ?_, R.h0⟩
  · by_cases hl : l = i
    · subst hl
      rw [List.getElem?_set_self hi] at q
      cases q
      refine ⟨v, qv, ?_⟩
      simp only [if_true]
      exact ow.fr s (fun b hb o q => by rw [frz_at hb]; exact q) h
    · obtain ⟨w, qw, o⟩ := R.own l u (old q hl)
      refine ⟨w, qw, ?_⟩
      simp only [hl, if_false]
      exact o.keep s fun b _ ob q => q
  · by_cases hl : l = i
    · simp [hl]
    · simp only [hl, if_false]; exact R.nd l u (old q hl)
  · by_cases hl : l = i
    · simp [hl] at hb
    · simp only [hl, if_false] at hb
      obtain ⟨f1, f2⟩ := R.free l u (old q hl) b hb
      exact ⟨by rw [frz_out (R.apart l i u t hl (old q hl) e b hb)]; exact f1, f2⟩
  · by_cases hl : l = i
    · simp [hl] at hb
    · simp only [hl, if_false] at hb
      by_cases hm : m = i
      · simp [hm]
      · simp only [hm, if_false]
        exact R.apart l m u w n (old q1 hl) (old q2 hm) b hb
  · have hb : b ∉ F i := fun z => h2 (fr b z).2
    rw [frz_out hb]; exact R.gx b h1 h2
theorem evAs_len {call : Nat → List T → Rs T} : ∀ {es : List E} {ρ : Env} {ts : List T}, evAs call es ρ = .ok ts → ts.length = es.length
  | [], ρ, ts, h => by simp only [evAs] at h; cases h; rfl
  | e :: es, ρ, ts, h => by
    simp only [evAs] at h
    generalize (if isVar e then evX call true e ρ else (evX call false e ρ).bind fun t => .of t.fr) = r at h
    cases r with
    | ok t =>
      cases h2 : evAs call es ρ with
      | ok us =>
        simp only [Rs.bind, h2] at h
        cases h
        rw [List.length_cons, List.length_cons, evAs_len h2]
      | ex c => simp only [Rs.bind, h2] at h; cases h
      | no => simp only [Rs.bind, h2] at h; cases h
    | ex c => cases h
    | no => cases h
end
def tA1 (K : PySem.W.Frag) (mg : Str → Option Value) (W : WX) (call : Nat → List T → Rs T) (e : E) : TE := fun σ H Q => ∃ G0 H0 ρ τ σt, Ro K mg G0 H0 ρ σ τ σt H ∧ RsP (if isVar e then evX call true e ρ else (evX call false e ρ).bind fun t => .of t.fr) (fun t => PHd K mg G0 H0 ρ σ τ σt H t Q) (PX K mg W G0 H0 ρ σ τ σt H)
def tAs (K : PySem.W.Frag) (mg : Str → Option Value) (W : WX) (call : Nat → List T → Rs T) (es : List E) : TA := fun σ H Q => ∃ G0 H0 ρ τ σt, Ro K mg G0 H0 ρ σ τ σt H ∧ RsP (evAs call es ρ) (fun ts => PHds K mg G0 H0 ρ σ τ σt H ts Q) (PX K mg W G0 H0 ρ σ τ σt H)
theorem pe_arg {e' : E} (he : SE mx call k e') {X : Cx} {W : WX} {e : Expr} (ok : OkX mx call k X) (tk : Takes X W) (h : mE mx X.N X.env.scope e' e = true) : PE X e (tA1 X.K X.mg W call e') := by
  obtain ⟨h1, h2, _⟩ := he X W e ok tk h
  by_cases hv : isVar e' = true
  · refine peImp h2 fun σ H Q ⟨G0, H0, ρ, τ, σt, R, m⟩ => ⟨G0, H0, ρ, τ, σt, R, ?_⟩
    rw [if_pos hv] at m
    exact m
  · refine peImp h1 fun σ H Q ⟨G0, H0, ρ, τ, σt, R, m⟩ => ⟨G0, H0, ρ, τ, σt, R, ?_⟩
    rw [if_neg hv] at m
    refine (RsP.bind m).imp (fun t _ m1 => fun v H1 R1 s1 => ?_) fun _ q => q
    obtain ⟨t', ht, m2⟩ := RsP.of m1
    obtain ⟨G, F, r⟩ := R1.rel
    have gl : (ρ ++ (τ ++ [some t]))[ρ.length + τ.length]? = some (some t) := by
      rw [← List.append_assoc, List.getElem?_append_right (by simp)]; simp
    have r2 := r.freeze gl ht
    have e3 : (ρ ++ (τ ++ [some t])).set (ρ.length + τ.length) (some t') = ρ ++ (τ ++ [some t']) := by
      rw [← List.append_assoc, List.set_append_right _ _ (by simp)]; simp
    rw [e3] at r2
    exact m2 v H1 (τ ++ [some t']) (σt ++ [some v]) ⟨R1.l1, by simp [R.l2], r2⟩ s1 (List.prefix_append ..) (List.prefix_append ..) (Hld.last R.l1 R.l2)
theorem pa_args : ∀ {es' : List E} {X : Cx} {W : WX} {es : List Expr}, (∀ e ∈ es', SE mx call k e) → OkX mx call k X → Takes X W → mEs mx X.N X.env.scope es' es = true → PA X es (tAs X.K X.mg W call es')
  | [], X, W, [], _, ok, tk, h => paImp pa_nil fun σ H Q ⟨G0, H0, ρ, τ, σt, R, m⟩ => by
      simp only [evAs] at m
      exact (m : PHds _ _ _ _ _ _ _ _ _ _ _) [] H τ σt R (Same.refl H) List.prefix_rfl List.prefix_rfl .nil
  | [], _, _, _ :: _, _, _, _, h => Bool.noConfusion h
  | _ :: _, _, _, [], _, _, _, h => Bool.noConfusion h
  | e' :: es', X, W, e :: es, hs, ok, tk, h => by
    have h : (mE mx X.N X.env.scope e' e && mEs mx X.N X.env.scope es' es) = true := h
    rw [Bool.and_eq_true] at h
    refine paImp (pa_cons (pe_arg (hs e' List.mem_cons_self) ok tk h.1) (pa_args (fun e h => hs e (List.mem_cons_of_mem _ h)) ok tk h.2) (star_cons (pl_of h.1))) fun σ H Q ⟨G0, H0, ρ, τ, σt, R, m⟩ => ?_
    simp only [evAs] at m
    refine ⟨G0, H0, ρ, τ, σt, R, (RsP.bind m).imp (fun t _ m1 => fun v H1 τ1 σt1 R1 s1 p1 q1 h1 => ?_) fun _ q => q⟩
    refine ⟨G0, H0, ρ, τ1, σt1, R1, (RsP.bind m1).imp (fun ts _ m2 => fun vs H2 τ2 σt2 R2 s2 p2 q2 h2 => ?_) fun c h => h.later R.l2 s1 p1 q1⟩
    exact (m2 : PHds _ _ _ _ _ _ _ _ _ _ _) (v :: vs) H2 τ2 σt2 R2 (s1.trans s2) (p1.trans p2) (q1.trans q2) (.cons (h1.grow s2 p2 q2) h2)
theorem se_call {f : Nat} {es' : List E} (hs : ∀ e ∈ es', SE mx call k e) : SE mx call k (.call f es') := fun X W e ok tk h => by
  cases e with
  | Call g es kws pos =>
    cases g with
    | Name x p =>
      cases kws with
      | cons => exact Bool.noConfusion h
      | nil =>
        have h : (!mx.hot && decide (mx.fns[f]? = some (x, es'.length)) && glB X.env.scope x && okN x && !es.isEmpty && mEs mx X.N X.env.scope es' es) = true := h
        simp only [Bool.and_eq_true, decide_eq_true_eq, Bool.not_eq_true', List.isEmpty_eq_false_iff] at h
        obtain ⟨⟨⟨⟨⟨hc, h1⟩, h2⟩, h3⟩, h4⟩, h5⟩ := h
        obtain ⟨a, fd, ps, m1, m2, m3, m4, m5⟩ := ok.md.fn hc f x _ h1
        have hpl := pls_of h5
        cases es with
        | nil => exact absurd rfl h4
        | cons e0 es0 =>
          have hpl0 := hpl
          rw [List.all_cons, Bool.and_eq_true] at hpl
          refine of_tE (peImp (pe_callS (E := WE W) m5 (ok.room hc) (glB_ok h2) m1 m2 m3 (fun σ => passAt tk σ) (pa_args hs ok tk h5) (okN_1 h3) (star_cons hpl.1) (star_all hpl.2)) fun σ H Q ⟨G0, H0, ρ, τ, σt, R, m⟩ => ?_) (fun ρ => rfl) (fun _ => rfl)
          refine ⟨G0, H0, ρ, τ, σt, R, (RsP.bind m).imp (fun ts et m1 => fun vs H1 τ1 σt1 R1 s1 p1 q1 h1 => ?_) fun _ q => q⟩
          have := sp_of R R1 s1 p1 q1 h1 m1
          rw [evAs_len et] at this
          exact this
    | _ => exact Bool.noConfusion h
  | _ => exact Bool.noConfusion h

/-! ### built-ins -/
abbrev rLenA (K : PySem.W.Frag) : List V → Hp → VK → Prop := fun xs H Q => (∃ x n, xs = [x] ∧ LenV K x H n ∧ Q (.int n) H) ∨ (∃ a kvs, xs = [V.ref a] ∧ H a = some (.dK kvs) ∧ Q (.int kvs.length) H)
section
variable {K : PySem.W.Frag} {mg : Str → Option Value} {G0 H0 G H : Hp} {F : Nat → List Addr} {ρ : Env} {σ : St} {Q : VK} {t : T} {v : V} {f : List Addr}
theorem kids_len (s : Same G H) (o : Own K mg G H t v f) {b : Bool} {ds : List PyData} (e : t.kids = some (b, ds)) : LenV K v H ds.length := by
  obtain ⟨a, xs, rfl, e1, r⟩ := o.kids s e
  cases b with
  | true => exact .inl ⟨xs, by simpa using e1, r.length⟩
  | false => exact .inr ⟨xs, SqT.of (by simpa using e1), r.length⟩
theorem lenT_ok (s : Same G H) (o : Own K mg G H t v f) {n : Nat} (e : lenT t = some n) (q : Q (.int (n : Nat)) H) : rLenA K [v] H Q := by
  unfold lenT at e
  split at e
  · split at e
    · next h => cases e; rw [o.str]; exact .inl ⟨_, _, rfl, ⟨h, rfl⟩, q⟩
    · cases e
  · cases e
    cases o with
    | node x r it => exact .inl ⟨_, _, rfl, .inl ⟨_, SqL.of x.1, r.length⟩, q⟩
  · cases e
    cases o with
    | node x r it => exact .inl ⟨_, _, rfl, .inr ⟨_, SqT.of x.1, r.length⟩, q⟩
  · split at e
    · next hl =>
      cases e
      cases o with
      | node x r it =>
        obtain ⟨⟨kv, e1, e2, e3⟩, _⟩ := x
        refine .inr ⟨_, kv, rfl, e1, ?_⟩
        have : kv.length = _ := (List.length_map (f := (·.1)) (as := kv)).symm.trans (congrArg List.length e2)
        rw [this]; exact q
    · cases e
  · cases e
    cases o with
    | fK h r =>
      refine .inr ⟨_, _, rfl, s _ _ h, ?_⟩
      rw [← r.length]; exact q
  · split at e
    · next b ds hk => cases e; exact .inl ⟨_, _, rfl, kids_len s o hk, q⟩
    · cases e
end
/-- what a call of a built-in reads: its arguments, held -/
theorem tOs_imp {K : PySem.W.Frag} {mg : Str → Option Value} {W : WX} {es : List E} {σ : St} {H : Hp} {G0 H0 : Hp} {ρ τ : Env} {σt : St} {P : T → Prop} {g : List T → Option T} {Q : List V → Hp → Prop} (R : Ro K mg G0 H0 ρ σ τ σt H)
    (m : RsP ((evXs call true es ρ).bind fun ts => .of (g ts)) P (PX K mg W G0 H0 ρ σ τ σt H))
    (i : ∀ ts vs t H1 τ1 σt1, evXs call true es ρ = .ok ts → g ts = some t → P t → Ro K mg G0 H0 ρ σ τ1 σt1 H1 → Same H H1 → τ <+: τ1 → σt <+: σt1 → Paired (Hld (ρ ++ τ1) (σ ++ σt1) H1) ts vs → Q vs H1) : tOs K mg W call es σ H Q :=
  ⟨G0, H0, ρ, τ, σt, R, (RsP.bind m).imp (fun ts et m1 => fun vs H1 τ1 σt1 R1 s1 p1 q1 h1 => let ⟨t, e, p⟩ := RsP.of m1; i ts vs t H1 τ1 σt1 et e p R1 s1 p1 q1 h1) fun _ q => q⟩
theorem two_of {α : Type} {l : List α} (h : l.length = 2) : ∃ a b, l = [a, b] := by
  match l, h with
  | [a, b], _ => exact ⟨a, b, rfl⟩
theorem one_of {α : Type} {l : List α} (h : l.length = 1) : ∃ a, l = [a] := by
  match l, h with
  | [a], _ => exact ⟨a, rfl⟩
theorem biT_str {t r : T} (e : biT .str [t] = some r) : ∃ i : Int, t = .imm (.int i) ∧ i.natAbs.log2 < 1920 ∧ r = .imm (.str (toString i)) := by
  cases t with
  | imm d =>
    cases d with
    | int i =>
      simp only [biT] at e
      split at e
      · next h => cases e; exact ⟨i, rfl, h, rfl⟩
      · cases e
    | _ => cases e
  | _ => cases e
theorem biT_max {t u r : T} (e : biT .max2 [t, u] = some r) : ∃ i j : Int, t = .imm (.int i) ∧ u = .imm (.int j) ∧ r = .imm (.int (if j > i then j else i)) := by
  cases t with
  | imm d =>
    cases d with
    | int i =>
      cases u with
      | imm d =>
        cases d with
        | int j => cases e; exact ⟨i, j, rfl, rfl, rfl⟩
        | _ => cases e
      | _ => cases e
    | _ => cases e
  | _ => cases e
theorem biT_min {t u r : T} (e : biT .min2 [t, u] = some r) : ∃ i j : Int, t = .imm (.int i) ∧ u = .imm (.int j) ∧ r = .imm (.int (if j < i then j else i)) := by
  cases t with
  | imm d =>
    cases d with
    | int i =>
      cases u with
      | imm d =>
        cases d with
        | int j => cases e; exact ⟨i, j, rfl, rfl, rfl⟩
        | _ => cases e
      | _ => cases e
    | _ => cases e
  | _ => cases e
theorem se_bi {b : Bi} {es' : List E} (hs : SEs mx call k es') : SE mx call k (.bi b es') := fun X W e ok tk h => by
  cases e with
  | Call g es kws pos =>
    cases g with
    | Name x p =>
      cases kws with
      | cons => exact Bool.noConfusion h
      | nil =>
        have h : ((!mx.hot || b.cool) && decide (b.name = x) && decide (es'.length = b.args) && glB X.env.scope x && mEs mx X.N X.env.scope es' es) = true := h
        simp only [Bool.and_eq_true, Bool.or_eq_true, Bool.not_eq_true', decide_eq_true_eq] at h
        obtain ⟨⟨⟨⟨hc, rfl⟩, h2⟩, h3⟩, h4⟩ := h
        have hpl := pls_of h4
        cases es with
        | nil =>
          cases es' with
          | nil => cases b <;> cases h2
          | cons => exact Bool.noConfusion h4
        | cons e0 es0 =>
          rw [List.all_cons, Bool.and_eq_true] at hpl
          have hg := glB_ok h3
          have hpa := (hs X W _ ok tk h4).2.1
          refine of_tE ?_ (fun ρ => rfl) (fun _ => rfl)
          cases b with
          | len =>
            refine peImp (pe_callB (call_len.or call_lenD) hg (ok.md.bl _ (by decide)) PySem.boot_len hpa (by decide) (by decide) (star_cons hpl.1) (star_all hpl.2)) fun σ H Q ⟨G0, H0, ρ, τ, σt, R, m⟩ => ?_
            refine tOs_imp R m fun ts vs t H1 τ1 σt1 et e m1 R1 s1 p1 q1 h1 => ?_
            obtain ⟨u, rfl⟩ := one_of ((evXs_len et).trans h2)
            cases h1 with
            | cons hh h1 =>
              cases h1
              obtain ⟨G, F, r⟩ := R1.rel
              obtain ⟨fu, o⟩ := r.held hh
              simp only [biT] at e
              split at e
              · next n hn => cases e; exact lenT_ok r.gh o hn (r.newI R1.len (.int _) ((m1.later R.l2 R1.l2 s1 p1 q1).nw R.l1 R1.l2))
              · cases e
          | list =>
            have calm := ok.calm (hc.resolve_right Bool.noConfusion)
            refine peImp (pe_callTy (call_list_of.or ((call_list_dK calm).or (call_list_dT calm))) hg (ok.md.bl _ (by decide)) PyProof.Rows.boot_list hpa (by decide) (by decide) (star_cons hpl.1) (star_all hpl.2)) fun σ H Q ⟨G0, H0, ρ, τ, σt, R, m⟩ => ?_
            refine tOs_imp R m fun ts vs t H1 τ1 σt1 et e m1 R1 s1 p1 q1 h1 => ?_
            obtain ⟨u, rfl⟩ := one_of ((evXs_len et).trans h2)
            cases h1 with
            | cons hh h1 =>
              cases h1
              obtain ⟨G, F, r⟩ := R1.rel
              obtain ⟨fu, o⟩ := r.held hh
              simp only [biT] at e
              split at e
              · next bb ds hn =>
                cases e
                obtain ⟨a, xs, rfl, e1, rr⟩ := o.kids r.gh hn
                refine .inl ⟨a, xs, rfl, ?_, fun l hl => r.newL R1.len rr ((m1.later R.l2 R1.l2 s1 p1 q1).nw R.l1 R1.l2) hl⟩
                cases bb with
                | true => exact .inl (by simpa using e1)
                | false => exact .inr (SqT.of (by simpa using e1))
              · split at e
                · next ds hk =>
                  cases e
                  exact .inr (keysT_ok r R1.len o hk ((m1.later R.l2 R1.l2 s1 p1 q1).nw R.l1 R1.l2))
                · cases e
          | sorted =>
            have calm := ok.calm (hc.resolve_right Bool.noConfusion)
            refine peImp (pe_callB ((cr_sortD (by have := ok.hu; have := ok.un; omega)).or (cr_sortK (by have := ok.hu; have := ok.un; omega) calm)) hg (ok.md.bl _ (by decide)) (by decide +kernel) hpa (by decide) (by decide) (star_cons hpl.1) (star_all hpl.2)) fun σ H Q ⟨G0, H0, ρ, τ, σt, R, m⟩ => ?_
            refine tOs_imp R m fun ts vs t H1 τ1 σt1 et e m1 R1 s1 p1 q1 h1 => ?_
            obtain ⟨u, rfl⟩ := one_of ((evXs_len et).trans h2)
            cases h1 with
            | cons hh h1 =>
              cases h1
              obtain ⟨G, F, r⟩ := R1.rel
              obtain ⟨fu, o⟩ := r.held hh
              simp only [biT] at e
              split at e
              · next ds hn =>
                split at e
                · next hb =>
                  cases e
                  obtain ⟨a, xs, rfl, e1, rr⟩ := o.kids r.gh hn
                  exact .inl ⟨a, xs, ds, Rp X.K G, rfl, by simpa using e1, rr.pd, rr.dpAll r.gh, hb, fun ys p hy hp => r.newL R1.len (RpL.ofPd hy) ((m1.later R.l2 R1.l2 s1 p1 q1).nw R.l1 R1.l2) hp⟩
                · cases e
              · cases e
              · unfold sortK at e
                split at e
                · next kvs hk =>
                  split at e
                  · next ks hks =>
                    cases e
                    obtain ⟨a, kv, rfl, e1, e2⟩ := o.dkv r.gh hk
                    refine .inr ⟨a, kv, ks, rfl, .inl e1, by rw [← e2.keys]; exact keyS_map hks, fun ys p hy hp => r.newL R1.len (RpL.ofPd (L2.Paired.mapP hy fun d v h => ?_)) ((m1.later R.l2 R1.l2 s1 p1 q1).nw R.l1 R1.l2) hp⟩
                    obtain ⟨x, rfl, rfl⟩ := h
                    exact .str x
                  · cases e
                · cases e
          | tuple =>
            refine peImp (pe_callTy call_tuple_of hg (ok.md.bl _ (by decide)) PyProof.Rows.boot_tuple hpa (by decide) (by decide) (star_cons hpl.1) (star_all hpl.2)) fun σ H Q ⟨G0, H0, ρ, τ, σt, R, m⟩ => ?_
            refine tOs_imp R m fun ts vs t H1 τ1 σt1 et e m1 R1 s1 p1 q1 h1 => ?_
            obtain ⟨u, rfl⟩ := one_of ((evXs_len et).trans h2)
            cases h1 with
            | cons hh h1 =>
              cases h1
              obtain ⟨G, F, r⟩ := R1.rel
              obtain ⟨fu, o⟩ := r.held hh
              simp only [biT] at e
              split at e
              · next bb ds hn =>
                cases e
                have m2 := (m1.later R.l2 R1.l2 s1 p1 q1).nw R.l1 R1.l2
                cases bb with
                | true =>
                  obtain ⟨a, xs, rfl, e1, rr⟩ := o.kids r.gh hn
                  exact ⟨a, xs, rfl, .inl ⟨by simpa using e1, fun l hl => r.newT R1.len rr m2 hl⟩⟩
                | false =>
                  cases o with
                  | imm rp =>
                    cases rp with
                    | tup hb rr =>
                      simp only [T.kids, Option.some.injEq, Prod.mk.injEq, true_and] at hn
                      subst hn
                      exact ⟨_, _, rfl, .inr ⟨SqT.of (r.gh _ _ hb), r.newI R1.len (.tup hb rr) m2⟩⟩
                    | _ => simp [T.kids] at hn
                  | node x r it => exact (kids_tup_imm hn).elim
                  | scr _ => simp [T.kids] at hn
                  | _ => simp [T.kids] at hn
              · cases e
          | str =>
            refine peImp (pe_callTy call_str_int hg (ok.md.bl _ (by decide)) PyProof.Rows.boot_str hpa (by decide) (by decide) (star_cons hpl.1) (star_all hpl.2)) fun σ H Q ⟨G0, H0, ρ, τ, σt, R, m⟩ => ?_
            refine tOs_imp R m fun ts vs t H1 τ1 σt1 et e m1 R1 s1 p1 q1 h1 => ?_
            obtain ⟨u, rfl⟩ := one_of ((evXs_len et).trans h2)
            cases h1 with
            | cons hh h1 =>
              cases h1
              obtain ⟨G, F, r⟩ := R1.rel
              obtain ⟨fu, o⟩ := r.held hh
              obtain ⟨i, rfl, hz, rfl⟩ := biT_str e
              rw [o.int]
              exact ⟨i, rfl, hz, r.newI R1.len (.str _) ((m1.later R.l2 R1.l2 s1 p1 q1).nw R.l1 R1.l2)⟩
          | max2 =>
            refine peImp (pe_callB (call_max2 (ok.calm (hc.resolve_right Bool.noConfusion))) hg (ok.md.bl _ (by decide)) PyProof.Rows.boot_max hpa (by decide) (by decide) (star_cons hpl.1) (star_all hpl.2)) fun σ H Q ⟨G0, H0, ρ, τ, σt, R, m⟩ => ?_
            refine tOs_imp R m fun ts vs t H1 τ1 σt1 et e m1 R1 s1 p1 q1 h1 => ?_
            obtain ⟨u, u', rfl⟩ := two_of ((evXs_len et).trans h2)
            cases h1 with
            | cons hh h1 =>
              cases h1 with
              | cons hh' h1 =>
                cases h1
                obtain ⟨G, F, r⟩ := R1.rel
                obtain ⟨fu, o⟩ := r.held hh
                obtain ⟨fu', o'⟩ := r.held hh'
                obtain ⟨i, j, rfl, rfl, rfl⟩ := biT_max e
                rw [o.int, o'.int]
                exact ⟨i, j, rfl, r.newI R1.len (.int _) ((m1.later R.l2 R1.l2 s1 p1 q1).nw R.l1 R1.l2)⟩
          | min2 =>
            refine peImp (pe_callB (call_min2 (ok.calm (hc.resolve_right Bool.noConfusion))) hg (ok.md.bl _ (by decide)) PyProof.Rows.boot_min hpa (by decide) (by decide) (star_cons hpl.1) (star_all hpl.2)) fun σ H Q ⟨G0, H0, ρ, τ, σt, R, m⟩ => ?_
            refine tOs_imp R m fun ts vs t H1 τ1 σt1 et e m1 R1 s1 p1 q1 h1 => ?_
            obtain ⟨u, u', rfl⟩ := two_of ((evXs_len et).trans h2)
            cases h1 with
            | cons hh h1 =>
              cases h1 with
              | cons hh' h1 =>
                cases h1
                obtain ⟨G, F, r⟩ := R1.rel
                obtain ⟨fu, o⟩ := r.held hh
                obtain ⟨fu', o'⟩ := r.held hh'
                obtain ⟨i, j, rfl, rfl, rfl⟩ := biT_min e
                rw [o.int, o'.int]
                exact ⟨i, j, rfl, r.newI R1.len (.int _) ((m1.later R.l2 R1.l2 s1 p1 q1).nw R.l1 R1.l2)⟩
    | _ => exact Bool.noConfusion h
  | _ => exact Bool.noConfusion h
end Gl

set_option Elab.async false
set_option linter.all false
set_option maxRecDepth 100000
set_option maxHeartbeats 4000000
/-! GlJ: isinstance, methods that change nothing. -/
namespace Gl
open PySem L2
variable {mx : Mx} {call : Nat → List T → Rs T} {k : Nat}
def Cl.tn : Cl → String
  | .str => "str" | .int => "int" | .bool => "bool" | .list => "list" | .tuple => "tuple"
theorem Cl.boot (c : Cl) : bootBuiltins c.name = some (.type c.tn) := by
  cases c
  · exact PyProof.Rows.boot_str
  · exact PyProof.Rows.boot_int
  · exact PyProof.Rows.boot_bool
  · exact PyProof.Rows.boot_list
  · exact PyProof.Rows.boot_tuple
section
variable {K : PySem.W.Frag} {mg : Str → Option Value} {G0 H0 G H : Hp} {F : Nat → List Addr} {ρ : Env} {σ : St} {Q : VK} {t : T} {v : V} {f : List Addr}
theorem isiT_ok (s : Same G H) (o : Own K mg G H t v f) {c : Cl} {b : Bool} (e : isiT c t = some b) (q : Q (.bl b) H) : rIsi K [v, .ty c.tn] H Q := by
  cases o with
  | imm r =>
    cases r with
    | non => simp only [isiT, Option.some.injEq] at e; subst e; refine ⟨_, _, _, _, _, rfl, .ty _, .base .non, kit_ty (a := "NoneType") (b := c.tn) ?_, q⟩; cases c <;> decide +kernel
    | bl x => simp only [isiT, Option.some.injEq] at e; subst e; refine ⟨_, _, _, _, _, rfl, .ty _, .base (.bl _), kit_ty (a := "bool") (b := c.tn) ?_, q⟩; cases c <;> decide +kernel
    | int x => simp only [isiT, Option.some.injEq] at e; subst e; refine ⟨_, _, _, _, _, rfl, .ty _, .base (.int _), kit_ty (a := "int") (b := c.tn) ?_, q⟩; cases c <;> decide +kernel
    | str x => simp only [isiT, Option.some.injEq] at e; subst e; refine ⟨_, _, _, _, _, rfl, .ty _, .base (.str _), kit_ty (a := "str") (b := c.tn) ?_, q⟩; cases c <;> decide +kernel
    | lst h r => simp only [isiT, Option.some.injEq] at e; subst e; refine ⟨_, _, _, _, _, rfl, .ty _, .base (.lst (s _ _ h)), kit_ty (a := "list") (b := c.tn) ?_, q⟩; cases c <;> decide +kernel
    | tup h r => simp only [isiT, Option.some.injEq] at e; subst e; refine ⟨_, _, _, _, _, rfl, .ty _, .base (.tup (s _ _ h)), kit_ty (a := "tuple") (b := c.tn) ?_, q⟩; cases c <;> decide +kernel
  | fK h r => cases e
  | fT h r => cases e
  | scr h => cases e
  | exc => cases e
  | pin _ => cases e
  | node x r it =>
    rename_i kd a ts vs ex f
    cases kd with
    | lst => simp only [isiT, Option.some.injEq] at e; subst e; refine ⟨_, _, _, _, _, rfl, .ty _, .base (.lst x.1), kit_ty (a := "list") (b := c.tn) ?_, q⟩; cases c <;> decide +kernel
    | tup => simp only [isiT, Option.some.injEq] at e; subst e; refine ⟨_, _, _, _, _, rfl, .ty _, .base (.tup x.1), kit_ty (a := "tuple") (b := c.tn) ?_, q⟩; cases c <;> decide +kernel
    | _ => cases e
end
theorem se_isi {a : E} {c : Cl} (ha : SE mx call k a) : SE mx call k (.isi a c) := fun X W e ok tk h => by
  cases e with
  | Call g es kws pos =>
    cases g with
    | Name x p =>
      cases kws with
      | cons => exact Bool.noConfusion h
      | nil =>
        match es, h with
        | [a', .Name y p2], h =>
          have h : (decide (x = "isinstance") && decide (c.name = y) && glB X.env.scope x && glB X.env.scope y && mE mx X.N X.env.scope a a') = true := h
          simp only [Bool.and_eq_true, decide_eq_true_eq] at h
          obtain ⟨⟨⟨⟨rfl, rfl⟩, h1⟩, h2⟩, h3⟩ := h
          have hy : PE X (.Name c.name p2) (tC (.ty c.tn)) := pe_bltn (glB_ok h2) (ok.md.bl _ (by cases c <;> decide)) c.boot rfl (by cases c <;> decide) (by cases c <;> decide)
          have hpa : PA X [a', .Name c.name p2] (tCons (tO X.K X.mg W call a) (tCons (tC (.ty c.tn)) tNil)) := pa_cons (ha X W a' ok tk h3).2.1 (pa_cons hy pa_nil (star_cons rfl)) (star_cons (pl_of h3))
          refine of_tE (peImp (pe_callB call_isi (glB_ok h1) (ok.md.bl _ (by decide)) PyProof.Rows.boot_isinstance hpa (by decide) (by decide) (star_cons (pl_of h3)) (star_all (by rfl))) fun σ H Q ⟨G0, H0, ρ, τ, σt, R, m⟩ => ?_) (fun ρ => rfl) (fun _ => rfl)
          refine ⟨G0, H0, ρ, τ, σt, R, (RsP.bind m).imp (fun t et m1 => fun v H1 τ1 σt1 R1 s1 p1 q1 h1 => ?_) fun _ q => q⟩
          split at m1
          · next r hr =>
            obtain ⟨G, F, rr⟩ := R1.rel
            obtain ⟨fu, o⟩ := rr.held h1
            exact isiT_ok rr.gh o hr (rr.newI R1.len (.bl _) (((m1 : PN _ _ _ _ _ _ _ _ _ _ _).later R.l2 R1.l2 s1 p1 q1).nw R.l1 R1.l2))
          · exact m1.elim
    | _ => exact Bool.noConfusion h
  | _ => exact Bool.noConfusion h

/-! ### isinstance of a held refusal -/
theorem look_mem {κ α : Type} [DecidableEq κ] {l : List (κ × α)} {k : κ} {v : α} (h : look l k = some v) : (k, v) ∈ l := by
  unfold look at h
  cases e : l.find? fun kv => decide (kv.1 = k) with
  | none => rw [e] at h; cases h
  | some p =>
    rw [e] at h
    have h1 := List.mem_of_find?_eq_some e
    have h2 := List.find?_some e
    have h2 := of_decide_eq_true h2
    cases h
    rw [← h2]; exact h1
theorem kitL_cons {k : List (Str × Str × Bool)} {c y : Str} {r : List Str} {b : Bool} (h : kitL k c (y :: r) = some b) : ∃ b1 b2, (c, y, b1) ∈ k ∧ kitL k c r = some b2 ∧ b = (b1 || b2) := by
  unfold kitL at h
  split at h
  · next p hp =>
    have h1 := List.mem_of_find?_eq_some hp
    have h2 := List.find?_some hp
    simp only [Bool.and_eq_true, decide_eq_true_eq] at h2
    obtain ⟨pc, py, pb⟩ := p
    obtain ⟨rfl, rfl⟩ := h2
    split at h
    · next b2 hb => cases h; exact ⟨pb, b2, h1, hb, rfl⟩
    · cases h
  · cases h
/-- the classes that are named, as values -/
theorem kit_pa {X : Cx} (ok : OkX mx call k X) {c : Str} {C : Addr} (hC : X.mg c = some (.ref C)) : ∀ {es : List Expr} {ys : List Str} {b : Bool}, clsNs X.env.scope es = some ys → kitL mx.kit c ys = some b →
    ∃ cs us, PA X es (fun σ H Q => Q cs H) ∧ Paired ClsV cs us ∧ cs.length = es.length ∧ es.all pl = true ∧ PySem.W.kitAny X.K (.ref C) us = some b
  | [], ys, b, h, hk => by
    simp only [clsNs, Option.some.injEq] at h
    subst h
    simp only [kitL, Option.some.injEq] at hk
    subst hk
    exact ⟨[], [], pa_nil, .nil, rfl, rfl, rfl⟩
  | e :: es, ys, b, h, hk => by
    cases e with
    | Name y p =>
      simp only [clsNs] at h
      cases hr : clsNs X.env.scope es with
      | none => rw [hr] at h; cases h
      | some r =>
        rw [hr] at h
        dsimp only at h
        split at h
        · next hg =>
          rw [Bool.and_eq_true] at hg
          cases h
          obtain ⟨b1, b2, k1, k2, rfl⟩ := kitL_cons hk
          obtain ⟨cs, us, p1, p2, p3, p4, p5⟩ := kit_pa ok hC hr k2
          obtain ⟨C', h1, h2⟩ := ok.md.ki _ k1
          rw [hC] at h1
          cases h1
          have pl1 : (Expr.Name y p :: es).all pl = true := by rw [List.all_cons, p4]; rfl
          rcases h2 with ⟨D, h2, h3⟩ | ⟨h2, h3, h4⟩
          · exact ⟨.ref D :: cs, .ref D :: us, paImp (pa_cons (te := tC (.ref D)) (pe_glob (glB_ok hg.1) h2 rfl (okN_1 hg.2)) p1 (star_cons rfl)) fun σ H Q q => q, .cons (.own D) p2, by simp [p3], pl1,
              kitAny_cons (b := b1) h3 (fun z => by rw [p5, z]; rfl) fun z => by rw [z]; rfl⟩
          · have h2 : y = "ValueError" := h2
            subst h2
            exact ⟨.ty "ValueError" :: cs, .type "ValueError" :: us, paImp (pa_cons (te := tC (.ty "ValueError")) (pe_bltn (glB_ok hg.1) h3 (by decide +kernel) rfl (by decide) (by decide)) p1 (star_cons rfl)) fun σ H Q q => q, .cons (.ty _) p2, by simp [p3], pl1,
              kitAny_cons (b := b1) h4 (fun z => by rw [p5, z]; rfl) fun z => by rw [z]; rfl⟩
        · cases h
    | _ => simp [clsNs] at h
theorem kitAny_one {K : PySem.W.Frag} {t u : Value} {b : Bool} (h : PySem.W.kitAny K t [u] = some b) : PySem.W.kitOne K t u = some b := by
  unfold PySem.W.kitAny at h
  split at h
  · next e => rw [e]; exact h
  · next e => rw [e]; exact h
  · cases h
theorem se_eis {i : Nat} {tbl : List (Str × Bool)} : SE mx call k (.eis i tbl) := fun X W e ok tk h => by
  cases e with
  | Call g es kws pos =>
    match g, kws, es, h with
    | .Name x p, [], [.Name y p2, c'], h =>
      have h : (mx.hot && decide (x = "isinstance") && glB X.env.scope x && decide (X.N[i]? = some y) && visB X.env.scope y && okN y && eisB mx X.env.scope tbl c') = true := h
      simp only [Bool.and_eq_true, decide_eq_true_eq] at h
      obtain ⟨⟨⟨⟨⟨⟨h0, rfl⟩, h1⟩, h2⟩, h3⟩, h4⟩, h5⟩ := h
      have base : PE X (.Name y p2) (tVar i) := pe_var h2 (visB_ok h3) (okN_1 h4) (okN_2 h4)
      refine of_tE (?_ : PE X (.Call (.Name "isinstance" p) [.Name y p2, c'] [] pos) (tE X.K X.mg W call (.eis i tbl))) (fun ρ => rfl) (fun _ => rfl)
      refine ⟨fun pins s σ H Q I hq => ?_⟩
      obtain ⟨G0, H0, ρ, τ, σt, R, m⟩ := id hq
      simp only [evX] at m
      split at m
      rotate_left
      · exact m.elim
      next a c hρ =>
      split at m
      rotate_left
      · exact m.elim
      next t ht =>
      split at m
      rotate_left
      · exact m.elim
      next b hb =>
      obtain ⟨C, g1, g2, g3⟩ := ok.held h0 a c t ht
      have hm := look_mem hb
      obtain ⟨e1, v, q1, q2⟩ := R.get hρ
      obtain ⟨G, F, rg⟩ := R.rel
      obtain ⟨w, z, o⟩ := rg.own _ _ e1
      rw [q2] at z
      cases z
      have hv : v = .ref a := by
        generalize F i = fi at o
        cases o
        rfl
      subst hv
      have fin : Q (.bl b) H := rg.newI R.len (.bl b) ((m : PN _ _ _ _ _ _ _ _ _ _ _).nw R.l1 R.l2)
      cases c' with
      | Name y2 p3 =>
        simp only [eisB] at h5
        cases hn : clsNs X.env.scope [.Name y2 p3] with
        | none => rw [hn] at h5; cases h5
        | some ys =>
          rw [hn] at h5
          have hk := of_decide_eq_true (List.all_eq_true.mp h5 _ hm)
          obtain ⟨cs, us, p1, p2', p3', p4, p5⟩ := kit_pa ok g1 hn hk
          cases p2' with
          | nil => simp at p3'
          | cons k1 k2 =>
            cases k2 with
            | cons => simp at p3'
            | nil =>
              rename_i cv cu
              have ha : PA X [.Name y p2, .Name y2 p3] (tCons (tVar i) (fun σ H Q => Q [cv] H)) := pa_cons base p1 (star_cons rfl)
              refine (pe_callB g2 (glB_ok h1) (ok.md.bl _ (by decide)) PyProof.Rows.boot_isinstance ha (by decide) (by decide) (star_cons rfl) (star_all (by rfl))).run pins s σ H Q I ?_
              exact ⟨.ref a, q1, cv, cu, b, rfl, fun u ru => k1.eq ru, kitAny_one p5, fin⟩
      | Tuple es j p3 =>
        simp only [eisB, Bool.and_eq_true, decide_eq_true_eq] at h5
        obtain ⟨h6, h5⟩ := h5
        cases hn : clsNs X.env.scope es with
        | none => rw [hn] at h5; cases h5
        | some ys =>
          rw [hn] at h5
          have hk := of_decide_eq_true (List.all_eq_true.mp h5 _ hm)
          obtain ⟨cs, us, p1, p2', p3', p4, p5⟩ := kit_pa ok g1 hn hk
          have hT : PE X (.Tuple es j p3) (tTup (fun σ H Q => Q cs H)) := pe_tup p1
          have ha : PA X [.Name y p2, .Tuple es j p3] (tCons (tVar i) (tCons (tTup (fun σ H Q => Q cs H)) tNil)) := pa_cons base (pa_cons hT pa_nil (star_cons rfl)) (star_cons rfl)
          refine (pe_callB g3 (glB_ok h1) (ok.md.bl _ (by decide)) PyProof.Rows.boot_isinstance ha (by decide) (by decide) (star_cons rfl) (star_all (by rfl))).run pins s σ H Q I ?_
          refine ⟨.ref a, q1, by rw [p3']; exact Nat.le_of_lt (small1000 (Nat.le_of_lt h6)), fun tp htp => ⟨tp, cs, us, b, rfl, upd_same, p2', p5, ?_⟩⟩
          refine (m : PN _ _ _ _ _ _ _ _ _ _ _) (.bl b) _ ⟨R.l1, by simp [R.l2], ?_⟩ (same_upd htp)
          rw [← List.append_assoc, ← List.append_assoc]
          exact (rg.grow (same_upd htp) (Same.refl G) (rg.gh.trans (same_upd htp)) fun b h _ => .inl h).pushI R.len (.bl b)
      | _ => simp [eisB] at h5
  | _ => exact Bool.noConfusion h
/-! ### methods -/
theorem texts_ok {K : PySem.W.Frag} {G : Hp} : ∀ {ds : List PyData} {vs : List V} {xs : List Str}, RpL K G ds vs → texts ds = some xs → vs = xs.map V.str
  | _, _, _, .nil, e => by simp [texts] at e; subst e; rfl
  | _, _, _, .cons (d := d) (ds := ds) h r, e => by
    cases h with
    | str x =>
      simp only [texts] at e
      cases h2 : texts ds with
      | none => rw [h2] at e; cases e
      | some ys => rw [h2] at e; cases e; rw [texts_ok r h2]; rfl
    | _ => simp [texts] at e
theorem texts_len : ∀ {ds : List PyData} {xs : List Str}, texts ds = some xs → xs.length = ds.length
  | [], _, e => by simp [texts] at e; subst e; rfl
  | d :: ds, xs, e => by
    cases d with
    | str x =>
      simp only [texts] at e
      cases h2 : texts ds with
      | none => rw [h2] at e; cases e
      | some ys => rw [h2] at e; cases e; rw [List.length_cons, List.length_cons, texts_len h2]
    | _ => simp [texts] at e
theorem RpL.strs {K : PySem.W.Frag} {G : Hp} : ∀ xs : List Str, RpL K G (xs.map .str) (xs.map V.str)
  | [] => .nil
  | x :: xs => .cons (.str x) (RpL.strs xs)
theorem m1_of {X : Cx} {o e : Expr} {m : Str} {apos cpos : Pos} (h1 : pl o = true) (h2 : noC0 o = true) (h3 : pl e = true) (h4 : (apos.endLine == cpos.line) = true) : M1 X o m apos e cpos := by
  refine ⟨attr_pl h1 h2, ?_, h4, ?_⟩
  · rw [star_cons h3]; rfl
  · rw [star_cons h3]; rfl
theorem evXs_one {call : Nat → List T → Rs T} {e : E} {ρ : Env} {P : List T → Prop} {PX : Str → Prop} (m : RsP (evXs call true [e] ρ) P PX) : RsP (evX call true e ρ) (fun t => P [t]) PX := by
  simp only [evXs] at m
  exact (RsP.bind m).imp (fun t _ q => q) fun _ q => q
theorem mtS {m : Mt} {t : T} (hm : (match m with | .get => false | _ => true) = true) (h : mtR m t = true) : ∃ x, t = .imm (.str x) := by
  cases m <;> first | cases hm | skip
  all_goals
    cases t with
    | imm d =>
      cases d with
      | str x => exact ⟨x, rfl⟩
      | _ => cases h
    | _ => cases h
/-- what a method with one argument reads -/
theorem mth_imp {K : PySem.W.Frag} {mg : Str → Option Value} {W : WX} {a e : E} {m : Mt} {σ : St} {H : Hp} {G0 H0 : Hp} {ρ τ : Env} {σt : St} {P : T → Prop} {C : V → Hp → Prop} {Q : V → V → Hp → Prop} (R : Ro K mg G0 H0 ρ σ τ σt H)
    (z : RsP (evX call true (.mth a m [e]) ρ) P (PX K mg W G0 H0 ρ σ τ σt H))
    (hc : ∀ t v H1 τ1 σt1, mtR m t = true → Ro K mg G0 H0 ρ σ τ1 σt1 H1 → Hld (ρ ++ τ1) (σ ++ σt1) H1 t v → C v H1)
    (i : ∀ t u v w r H1 τ1 σt1, mtR m t = true → mtT m t [u] = some r → P r → Ro K mg G0 H0 ρ σ τ1 σt1 H1 → Same H H1 → τ <+: τ1 → σt <+: σt1 → Hld (ρ ++ τ1) (σ ++ σt1) H1 t v → Hld (ρ ++ τ1) (σ ++ σt1) H1 u w → Q v w H1) :
    tO K mg W call a σ H fun v H1 => C v H1 ∧ tO K mg W call e σ H1 fun w H2 => Q v w H2 := by
  refine ⟨G0, H0, ρ, τ, σt, R, (RsP.bind (r := evX call true a ρ) z).imp (fun t et z1 => fun v H1 τ1 σt1 R1 s1 p1 q1 h1 => ?_) fun _ q => q⟩
  split at z1
  · next hm =>
    refine ⟨hc t v H1 τ1 σt1 hm R1 h1, G0, H0, ρ, τ1, σt1, R1, (evXs_one (RsP.bind z1)).imp (fun u eu z2 => fun w H2 τ2 σt2 R2 s2 p2 q2 h2 => ?_) fun _ q => q.later R.l2 s1 p1 q1⟩
    obtain ⟨r, hr, p⟩ := RsP.of z2
    exact i t u v w r H2 τ2 σt2 hm hr p R2 (s1.trans s2) (p1.trans p2) (q1.trans q2) (h1.grow s2 p2 q2) h2
  · exact z1.elim
theorem se_mth {a : E} {m : Mt} {es' : List E} (ha : SE mx call k a) (hs : ∀ e ∈ es', SE mx call k e) : SE mx call k (.mth a m es') := fun X W e ok tk h => by
  cases e with
  | Call g es kws cp =>
    cases g with
    | Attribute a' n ap =>
      cases kws with
      | cons => exact Bool.noConfusion h
      | nil =>
        have h : (decide (m.name = n) && decide (es'.length = m.args) && (ap.endLine == cp.line) && noC0 a' && mE mx X.N X.env.scope a a' && mEs mx X.N X.env.scope es' es) = true := h
        simp only [Bool.and_eq_true, decide_eq_true_eq] at h
        obtain ⟨⟨⟨⟨⟨rfl, h2⟩, h3⟩, h4⟩, h5⟩, h6⟩ := h
        have ho := (ha X W a' ok tk h5).2.1
        have hone : m.args = 1 := by cases m <;> rfl
        obtain ⟨e', rfl⟩ := one_of (h2.trans hone)
        match es, h6 with
        | [], h6 => exact Bool.noConfusion h6
        | e :: _ :: _, h6 =>
          have h6 : (mE mx X.N X.env.scope e' e && false) = true := h6
          rw [Bool.and_false] at h6
          cases h6
        | [e], h6 =>
          have h7 : mE mx X.N X.env.scope e' e = true := by
            have h6 : (mE mx X.N X.env.scope e' e && true) = true := h6
            rwa [Bool.and_true] at h6
          have he := (hs e' (List.mem_singleton.mpr rfl) X W e ok tk h7).2.1
          have hst : starEach [e] X.env = [(false, eval e X.env)] := by rw [star_cons (pl_of h7)]; rfl
          have hat : attributeBase a' m.name X.env (eval a' X.env) = eval a' X.env := attr_pl (pl_of h5) h4
          refine of_tE ?_ (fun ρ => rfl) (fun _ => rfl)
          cases m with
          | join =>
            refine peImp (pe_join ho he hst hat h3) fun σ H Q ⟨G0, H0, ρ, τ, σt, R, z⟩ => ?_
            refine mth_imp R (RsP.imp (r := evX call true (.mth a .join [e']) ρ) z (fun _ _ q => q) fun _ q => q) (fun t v H1 τ1 σt1 hm R1 h1 => ?_) fun t u v w r H1 τ1 σt1 hm hr p R1 s1 p1 q1 h1 h2 => ?_
            · obtain ⟨G, F, rr⟩ := R1.rel
              obtain ⟨f, o⟩ := rr.held h1
              obtain ⟨x, rfl⟩ := mtS (m := .join) (by decide) hm
              exact ⟨x, o.str⟩
            · obtain ⟨G, F, rr⟩ := R1.rel
              obtain ⟨f, o⟩ := rr.held h1
              obtain ⟨f', o'⟩ := rr.held h2
              obtain ⟨x, rfl⟩ := mtS (m := .join) (by decide) hm
              simp only [mtT] at hr
              split at hr
              · next b ds hk =>
                split at hr
                · next xs hx =>
                  split at hr
                  · next hz =>
                    cases hr
                    obtain ⟨a, ys, rfl, e1, rp⟩ := o'.kids rr.gh hk
                    have := texts_ok rp hx
                    subst this
                    refine ⟨x, a, xs, o.str, rfl, ?_, hz, ?_⟩
                    · cases b with
                      | true => exact .inl (by simpa using e1)
                      | false => exact .inr (SqT.of (by simpa using e1))
                    · rw [TL.join_eq]
                      exact rr.newI R1.len (.str _) (((p : PN _ _ _ _ _ _ _ _ _ _ _).later R.l2 R1.l2 s1 p1 q1).nw R.l1 R1.l2)
                  · cases hr
                · cases hr
              · cases hr
          | starts =>
            refine peImp (pe_m1 PySem.F.slot_str_startswith PySem.F.type_str_startswith mt_startswith ho he hst hat h3) fun σ H Q ⟨G0, H0, ρ, τ, σt, R, z⟩ => ?_
            refine mth_imp R (RsP.imp (r := evX call true (.mth a .starts [e']) ρ) z (fun _ _ q => q) fun _ q => q) (fun t v H1 τ1 σt1 hm R1 h1 => ?_) fun t u v w r H1 τ1 σt1 hm hr p R1 s1 p1 q1 h1 h2 => ?_
            · obtain ⟨G, F, rr⟩ := R1.rel
              obtain ⟨f, o⟩ := rr.held h1
              obtain ⟨x, rfl⟩ := mtS (m := .starts) (by decide) hm
              exact ⟨x, o.str⟩
            · obtain ⟨G, F, rr⟩ := R1.rel
              obtain ⟨f, o⟩ := rr.held h1
              obtain ⟨f', o'⟩ := rr.held h2
              obtain ⟨x, rfl⟩ := mtS (m := .starts) (by decide) hm
              cases o' with
              | imm rp =>
                cases rp with
                | str y =>
                  cases hr
                  exact ⟨x, y, o.str, rfl, rr.newI R1.len (.bl _) (((p : PN _ _ _ _ _ _ _ _ _ _ _).later R.l2 R1.l2 s1 p1 q1).nw R.l1 R1.l2)⟩
                | _ => cases hr
              | _ => cases hr
          | split =>
            refine peImp (pe_split ho he hst hat h3) fun σ H Q ⟨G0, H0, ρ, τ, σt, R, z⟩ => ?_
            refine mth_imp R (RsP.imp (r := evX call true (.mth a .split [e']) ρ) z (fun _ _ q => q) fun _ q => q) (fun t v H1 τ1 σt1 hm R1 h1 => ?_) fun t u v w r H1 τ1 σt1 hm hr p R1 s1 p1 q1 h1 h2 => ?_
            · obtain ⟨G, F, rr⟩ := R1.rel
              obtain ⟨f, o⟩ := rr.held h1
              obtain ⟨x, rfl⟩ := mtS (m := .split) (by decide) hm
              exact ⟨x, o.str⟩
            · obtain ⟨G, F, rr⟩ := R1.rel
              obtain ⟨f, o⟩ := rr.held h1
              obtain ⟨f', o'⟩ := rr.held h2
              obtain ⟨x, rfl⟩ := mtS (m := .split) (by decide) hm
              cases o' with
              | imm rp =>
                cases rp with
                | str y =>
                  simp only [mtT] at hr
                  split at hr
                  · next hz =>
                    cases hr
                    exact ⟨x, y, o.str, rfl, hz.1, hz.2, fun l hl => rr.newL R1.len (RpL.strs _) (((p : PN _ _ _ _ _ _ _ _ _ _ _).later R.l2 R1.l2 s1 p1 q1).nw R.l1 R1.l2) hl⟩
                  · cases hr
                | _ => cases hr
              | _ => cases hr
          | part =>
            refine peImp (pe_partition ho he hst hat h3) fun σ H Q ⟨G0, H0, ρ, τ, σt, R, z⟩ => ?_
            refine mth_imp R (RsP.imp (r := evX call true (.mth a .part [e']) ρ) z (fun _ _ q => q) fun _ q => q) (fun t v H1 τ1 σt1 hm R1 h1 => ?_) fun t u v w r H1 τ1 σt1 hm hr p R1 s1 p1 q1 h1 h2 => ?_
            · obtain ⟨G, F, rr⟩ := R1.rel
              obtain ⟨f, o⟩ := rr.held h1
              obtain ⟨x, rfl⟩ := mtS (m := .part) (by decide) hm
              exact ⟨x, o.str⟩
            · obtain ⟨G, F, rr⟩ := R1.rel
              obtain ⟨f, o⟩ := rr.held h1
              obtain ⟨f', o'⟩ := rr.held h2
              obtain ⟨x, rfl⟩ := mtS (m := .part) (by decide) hm
              cases o' with
              | imm rp =>
                cases rp with
                | str y =>
                  simp only [mtT] at hr
                  split at hr
                  · next hz =>
                    cases hr
                    exact ⟨x, y, o.str, rfl, hz.1, hz.2, fun l hl => rr.newT R1.len (RpL.strs [_, _, _]) (((p : PN _ _ _ _ _ _ _ _ _ _ _).later R.l2 R1.l2 s1 p1 q1).nw R.l1 R1.l2) hl⟩
                  · cases hr
                | _ => cases hr
              | _ => cases hr
          | strip =>
            refine peImp (pe_m1 PySem.F.slot_str_strip PySem.F.type_str_strip mt_stripChars ho he hst hat h3) fun σ H Q ⟨G0, H0, ρ, τ, σt, R, z⟩ => ?_
            refine mth_imp R (RsP.imp (r := evX call true (.mth a .strip [e']) ρ) z (fun _ _ q => q) fun _ q => q) (fun t v H1 τ1 σt1 hm R1 h1 => ?_) fun t u v w r H1 τ1 σt1 hm hr p R1 s1 p1 q1 h1 h2 => ?_
            · obtain ⟨G, F, rr⟩ := R1.rel
              obtain ⟨f, o⟩ := rr.held h1
              obtain ⟨x, rfl⟩ := mtS (m := .strip) (by decide) hm
              exact ⟨x, o.str⟩
            · obtain ⟨G, F, rr⟩ := R1.rel
              obtain ⟨f, o⟩ := rr.held h1
              obtain ⟨f', o'⟩ := rr.held h2
              obtain ⟨x, rfl⟩ := mtS (m := .strip) (by decide) hm
              cases o' with
              | imm rp =>
                cases rp with
                | str y =>
                  simp only [mtT] at hr
                  split at hr
                  · next hz =>
                    cases hr
                    exact ⟨x, y, o.str, rfl, hz, rr.newI R1.len (.str _) (((p : PN _ _ _ _ _ _ _ _ _ _ _).later R.l2 R1.l2 s1 p1 q1).nw R.l1 R1.l2)⟩
                  · cases hr
                | _ => cases hr
              | _ => cases hr
          | count =>
            refine peImp (pe_m1 PySem.F.slot_str_count PySem.F.type_str_count mt_count ho he hst hat h3) fun σ H Q ⟨G0, H0, ρ, τ, σt, R, z⟩ => ?_
            refine mth_imp R (RsP.imp (r := evX call true (.mth a .count [e']) ρ) z (fun _ _ q => q) fun _ q => q) (fun t v H1 τ1 σt1 hm R1 h1 => ?_) fun t u v w r H1 τ1 σt1 hm hr p R1 s1 p1 q1 h1 h2 => ?_
            · obtain ⟨G, F, rr⟩ := R1.rel
              obtain ⟨f, o⟩ := rr.held h1
              obtain ⟨x, rfl⟩ := mtS (m := .count) (by decide) hm
              exact ⟨x, o.str⟩
            · obtain ⟨G, F, rr⟩ := R1.rel
              obtain ⟨f, o⟩ := rr.held h1
              obtain ⟨f', o'⟩ := rr.held h2
              obtain ⟨x, rfl⟩ := mtS (m := .count) (by decide) hm
              cases o' with
              | imm rp =>
                cases rp with
                | str y =>
                  cases hr
                  exact ⟨x, y, o.str, rfl, rr.newI R1.len (.int _) (((p : PN _ _ _ _ _ _ _ _ _ _ _).later R.l2 R1.l2 s1 p1 q1).nw R.l1 R1.l2)⟩
                | _ => cases hr
              | _ => cases hr
          | get =>
            refine peImp (pe_dget1 (by have := ok.hu; omega) ho he (m1_of (pl_of h5) h4 (pl_of h7) h3)) fun σ H Q ⟨G0, H0, ρ, τ, σt, R, z⟩ => ?_
            refine tO_imp (mth_imp (C := fun v H1 => ∃ a, v = .ref a ∧ IsD H1 a) (Q := fun v w H2 => ∃ a, v = .ref a ∧ ∃ o, DGet H2 a w o ∧ Q (o.getD .non) H2) R (RsP.imp (r := evX call true (.mth a .get [e']) ρ) z (fun _ _ q => q) fun _ q => q) (fun t v H1 τ1 σt1 hm R1 h1 => ?_) fun t u v w r H1 τ1 σt1 hm hr p R1 s1 p1 q1 h1 h2 => ?_) fun v H1 ⟨⟨a, ea, hd⟩, q⟩ => ⟨a, ea, hd, tO_imp q fun w H2 ⟨a', ea', q'⟩ => by rw [ea] at ea'; cases ea'; exact q'⟩
            · obtain ⟨G, F, rr⟩ := R1.rel
              obtain ⟨f, o⟩ := rr.held h1
              unfold mtR at hm
              rw [Bool.or_eq_true] at hm
              rcases hm with hm | hm
              · obtain ⟨kvs, hk⟩ := Option.isSome_iff_exists.mp hm
                obtain ⟨a, ks, rfl, e1, _⟩ := o.dkv rr.gh hk
                exact ⟨a, rfl, .inl ⟨ks, .inl e1⟩⟩
              · obtain ⟨kvs, hk⟩ := Option.isSome_iff_exists.mp hm
                obtain ⟨a, ks, rfl, e1, _⟩ := o.dtv rr.gh hk
                exact ⟨a, rfl, .inr ⟨ks, .inl e1⟩⟩
            · obtain ⟨G, F, rr⟩ := R1.rel
              obtain ⟨f, o⟩ := rr.held h1
              obtain ⟨f', o'⟩ := rr.held h2
              cases u with
              | imm d =>
                have hr : (match dget t d with
                  | some (some r) => some (T.imm r)
                  | some none => some (.imm .none)
                  | none => none) = some r := hr
                cases hg : dget t d with
                | none => rw [hg] at hr; cases hr
                | some og =>
                  rw [hg] at hr
                  obtain ⟨a, ov, rfl, g, h3⟩ := dget_ok rr.gh o o'.rp hg
                  have p' := ((p : PN _ _ _ _ _ _ _ _ _ _ _).later R.l2 R1.l2 s1 p1 q1).nw R.l1 R1.l2
                  rcases h3 with ⟨rfl, rfl⟩ | ⟨x, v, rfl, rfl, h5⟩
                  · cases hr
                    exact ⟨a, rfl, none, g, rr.newI R1.len .non p'⟩
                  · cases hr
                    exact ⟨a, rfl, some v, g, rr.newI R1.len h5 p'⟩
              | _ => cases t <;> cases hr
    | _ => exact Bool.noConfusion h
  | _ => exact Bool.noConfusion h
end Gl

set_option Elab.async false
set_option linter.all false
set_option maxRecDepth 100000
set_option maxHeartbeats 4000000
/-! GlK: walks and comprehensions. -/
namespace Gl
open PySem L2
variable {mx : Mx} {call : Nat → List T → Rs T} {k : Nat}

section
variable {K : PySem.W.Frag} {mg : Str → Option Value} {G0 H0 G H H' : Hp} {F : Nat → List Addr} {ρ ρ' : Env} {σ σ' : St} {t t' : T} {v v' : V}
/-- one slot's own tree is changed, in its own objects -/
theorem RelG.change {j : Nat} {f' : List Addr} (R : RelG K mg G0 H0 G F ρ σ H) (ej : ρ[j]? = some (some t)) (hk : ∀ b, b ∉ F j → ∀ o, H b = some o → H' b = some o) (ho : Own K mg G H' t' v' f') (nd : f'.Nodup)
    (fr : ∀ b ∈ f', G b = none ∧ H0 b = none) (e1 : ρ'[j]? = some (some t')) (e2 : σ'[j]? = some (some v')) (old : ∀ (i : Nat) (u : T), i ≠ j → ρ'[i]? = some (some u) → ρ[i]? = some (some u) ∧ σ'[i]? = σ[i]? ∧ ∀ b ∈ F i, b ∉ f') : Rel K mg G0 H0 ρ' σ' H' := by
  refine ⟨G, fun i => if i = j then f' else F i, fun i u e => ?_, fun i u e => ?_, fun i u e b hb => ?_, fun i l u w n q1 q2 b hb => ?_, fun b o e => ?_, R.g0, R.gx, fun b o e => ?_⟩
  · by_cases hi : i = j
    · subst hi
      rw [e1] at e; cases e
      exact ⟨v', e2, by simpa using ho⟩
    · obtain ⟨a1, a2, a3⟩ := old i u hi e
      obtain ⟨w, q, o⟩ := R.own i u a1
      refine ⟨w, a2.trans q, ?_⟩
      simp only [hi, if_false]
      exact o.keep (Same.refl G) fun b hb ob q => hk b (R.apart i j u t hi a1 ej b hb) ob q
  · by_cases hi : i = j
    · simpa [hi] using nd
    · simp only [hi, if_false]; exact R.nd i u (old i u hi e).1
  · by_cases hi : i = j
    · simp only [hi, if_true] at hb; exact fr b hb
    · simp only [hi, if_false] at hb; exact R.free i u (old i u hi e).1 b hb
  · by_cases hi : i = j
    · by_cases hl : l = j
      · exact absurd (hi.trans hl.symm) n
      · simp only [hi, if_true] at hb
        simp only [hl, if_false]
        exact fun z => (old l w hl q2).2.2 b z hb
    · by_cases hl : l = j
      · simp only [hi, if_false] at hb
        simp only [hl, if_true]
        exact (old i u hi q1).2.2 b hb
      · simp only [hi, if_false] at hb
        simp only [hl, if_false]
        exact R.apart i l u w n (old i u hi q1).1 (old l w hl q2).1 b hb
  · exact hk b (fun z => by have := (R.free j t ej b z).1; rw [e] at this; cases this) o (R.gh b o e)
  · exact hk b (fun z => by have := (R.free j t ej b z).2; rw [e] at this; cases this) o (R.h0 b o e)
/-- a plain value put into a slot -/
theorem RelG.setI' {d : PyData} {x : V} (R : RelG K mg G0 H0 G F ρ σ H) (o : Rp K G d x) (i : Nat) (hl : ρ.length ≤ σ.length) : ∃ F', RelG K mg G0 H0 G F' (ρ.set i (some (.imm d))) (σ.set i (some x)) H := by
  have old : ∀ {l : Nat} {u : T}, (ρ.set i (some (.imm d)))[l]? = some (some u) → l ≠ i → ρ[l]? = some (some u) ∧ (σ.set i (some x))[l]? = σ[l]? := fun {l u} e n => by
    rw [List.getElem?_set_ne (fun z => n z.symm)] at e
    exact ⟨e, List.getElem?_set_ne fun z => n z.symm⟩
  have self : ∀ {u : T}, (ρ.set i (some (.imm d)))[i]? = some (some u) → u = .imm d ∧ (σ.set i (some x))[i]? = some (some x) := fun {u} e => by
    have hi := (List.getElem?_eq_some_iff.mp e).1
    rw [List.length_set] at hi
    rw [List.getElem?_set_self hi] at e
    cases e
    exact ⟨rfl, List.getElem?_set_self (by omega)⟩
  refine ⟨fun l => if l = i then [] else F l, fun l u e => ?_, fun l u e => ?_, fun l u e b hb => ?_, fun l m u w n q1 q2 b hb => ?_, R.gh, R.g0, R.gx, R.h0⟩
  · by_cases hi : l = i
    · subst hi
      obtain ⟨rfl, e2⟩ := self e
      exact ⟨x, e2, by simpa using Own.imm o⟩
    · obtain ⟨a1, a2⟩ := old e hi
      obtain ⟨w, q, ow⟩ := R.own l u a1
      exact ⟨w, a2.trans q, by simpa [hi] using ow⟩
  · by_cases hi : l = i
    · simp [hi]
    · simp only [hi, if_false]; exact R.nd l u (old e hi).1
  · by_cases hi : l = i
    · simp [hi] at hb
    · simp only [hi, if_false] at hb; exact R.free l u (old e hi).1 b hb
  · by_cases hi : l = i
    · simp [hi] at hb
    · simp only [hi, if_false] at hb
      by_cases hm : m = i
      · simp [hm]
      · simp only [hm, if_false]
        exact R.apart l m u w n (old q1 hi).1 (old q2 hm).1 b hb
theorem RelG.setI {d : PyData} {x : V} (R : RelG K mg G0 H0 G F ρ σ H) (o : Rp K G d x) (i : Nat) (hl : ρ.length ≤ σ.length) : Rel K mg G0 H0 (ρ.set i (some (.imm d))) (σ.set i (some x)) H :=
  let ⟨F', r⟩ := R.setI' o i hl; ⟨G, F', r⟩
end

/-! ### what is walked -/
def Wk (K : PySem.W.Frag) (mg : Str → Option Value) (J : It) (t : T) (v : V) (ds : List PyData) : Prop := ∀ G H f, Same G H → Own K mg G H t v f →
  (∀ i, i < ds.length → J.go i H) ∧ (∀ i x H', i < ds.length → J.yld i H x H' → H' = H ∧ ∃ d, ds[i]? = some d ∧ Rp K G d x) ∧ ∀ i, ds.length ≤ i → J.stop i H
section
variable (K : PySem.W.Frag) (mg : Str → Option Value) (W : WX)
def iW (r : Env → Rs (T × List PyData)) : TI := fun σ H R => ∃ G0 H0 ρ τ σt, Ro K mg G0 H0 ρ σ τ σt H ∧
  RsP (r ρ) (fun p => ∀ v J H', Ro K mg G0 H0 ρ σ (τ ++ [some p.1]) (σt ++ [some v]) H' → Same H H' → Wk K mg J p.1 v p.2 → R J H') (PX K mg W G0 H0 ρ σ τ σt H)
end
def srcR (call : Nat → List T → Rs T) (src : E) (ρ : Env) : Rs (T × List PyData) := (evX call false src ρ).bind fun t => match srcT t with
  | some ds => .ok (t, ds)
  | none => .no
def rngR (call : Nat → List T → Rs T) (lo : Option E) (hi : E) (ρ : Env) : Rs (T × List PyData) := (evO call lo ρ).bind fun l => (evX call true hi ρ).bind fun h => match h with
  | .imm (.int n) => match rngD (l.getD 0) n with
    | some ds => .ok (.imm .none, ds)
    | none => .no
  | _ => .no
theorem srcT_cases {t : T} {ds : List PyData} (h : srcT t = some ds) : (∃ x, t = .imm (.str x) ∧ ds = signs x) ∨ ∃ b, t.kids = some (b, ds) := by
  unfold srcT at h
  split at h
  · cases h; exact .inl ⟨_, rfl, rfl⟩
  · split at h
    · next b es hk => cases h; exact .inr ⟨b, hk⟩
    · cases h
theorem wk_str {K : PySem.W.Frag} {mg : Str → Option Value} {x : Str} {v : V} : Wk K mg (Its x) (.imm (.str x)) v (signs x) := by
  intro G H f s o
  have hl : (signs x).length = x.cps.size := by unfold signs; simp
  refine ⟨fun i h => (show i < x.cps.size by omega), fun i w H' h ⟨e, c, hc, ew⟩ => ⟨e, .str ⟨#[c]⟩, ?_, ?_⟩, fun i h => (show x.cps.size ≤ i by omega)⟩
  · unfold signs
    rw [List.getElem?_map]
    have : x.cps.toList[i]? = some c := by rw [Array.getElem?_toList]; exact hc
    rw [this]; rfl
  · subst ew; exact .str _
theorem wk_list {K : PySem.W.Frag} {mg : Str → Option Value} {t : T} {a : Addr} {ds : List PyData} (hk : t.kids = some (true, ds)) : Wk K mg (Itl K a) t (.ref a) ds := by
  intro G H f s o
  obtain ⟨b, xs, e, e1, r⟩ := o.kids s hk
  cases e
  have e1 : SqL K H a xs := by simpa using e1
  refine ⟨fun i h => ⟨xs, xs[i]'(by rw [← r.length]; exact h), e1, by simp⟩, fun i w H' h ⟨e, q⟩ => ⟨e, ?_⟩, fun i h => ⟨xs, e1, by rw [← r.length]; exact h⟩⟩
  obtain ⟨d, hd, rp⟩ := r.getV (q xs e1)
  exact ⟨d, hd, rp⟩
theorem wk_tup {K : PySem.W.Frag} {mg : Str → Option Value} {t : T} {a : Addr} {ds : List PyData} (hk : t.kids = some (false, ds)) : Wk K mg (Itt K a) t (.ref a) ds := by
  intro G H f s o
  obtain ⟨b, xs, e, e1, r⟩ := o.kids s hk
  cases e
  have e1 : SqT K H a xs := SqT.of (by simpa using e1)
  refine ⟨fun i h => ⟨xs, xs[i]'(by rw [← r.length]; exact h), e1, by simp⟩, fun i w H' h ⟨e, q⟩ => ⟨e, ?_⟩, fun i h => ⟨xs, e1, by rw [← r.length]; exact h⟩⟩
  obtain ⟨d, hd, rp⟩ := r.getV (q xs e1)
  exact ⟨d, hd, rp⟩
theorem pi_or {X : Cx} {tg e : Expr} {a b : TI} (ha : PI X tg e a) (hb : PI X tg e b) : PI X tg e (fun σ H R => a σ H R ∨ b σ H R) :=
  ⟨fun pins s σ H R I h => h.elim (ha.run pins s σ H R I) (hb.run pins s σ H R I)⟩
theorem piImp {X : Cx} {tg e : Expr} {t t' : TI} (h : PI X tg e t) (i : ∀ σ H Q, t' σ H Q → t σ H Q) : PI X tg e t' := ⟨fun pins s σ H Q I q => h.run pins s σ H Q I (i _ _ _ q)⟩
theorem pi_src {X : Cx} {W : WX} {tg e : Expr} {src : E} (h : PE X e (tE X.K X.mg W call src)) : PI X tg e (iW X.K X.mg W (srcR call src)) := by
  refine piImp (pi_or (pi_list h) (pi_or (pi_tup h) (pi_str h))) fun σ H Q ⟨G0, H0, ρ, τ, σt, R, m⟩ => ?_
  unfold srcR at m
  have m1 := RsP.bind m
  cases ht : evX call false src ρ with
  | no => rw [ht] at m1; exact m1.elim
  | ex c => rw [ht] at m1; exact .inl ⟨G0, H0, ρ, τ, σt, R, by rw [ht]; exact m1⟩
  | ok t =>
    rw [ht] at m1
    have m1 : RsP (match srcT t with | some ds => Rs.ok (t, ds) | none => Rs.no) _ _ := m1
    split at m1
    · next ds hd =>
      rcases srcT_cases hd with ⟨x, rfl, rfl⟩ | ⟨b, hk⟩
      · refine .inr (.inr ⟨G0, H0, ρ, τ, σt, R, ?_⟩)
        rw [ht]
        intro v H' R' s
        obtain ⟨G, F, r⟩ := R'.rel
        obtain ⟨f, o⟩ := r.held (Hld.last (H := H') R.l1 R.l2)
        exact ⟨x, o.str, m1 v (Its x) H' R' s wk_str⟩
      · cases b with
        | true =>
          refine .inl ⟨G0, H0, ρ, τ, σt, R, ?_⟩
          rw [ht]
          intro v H' R' s
          obtain ⟨G, F, r⟩ := R'.rel
          obtain ⟨f, o⟩ := r.held (Hld.last (H := H') R.l1 R.l2)
          obtain ⟨a, xs, rfl, e1, _⟩ := o.kids r.gh hk
          exact ⟨a, rfl, ⟨xs, by simpa using e1⟩, m1 _ (Itl X.K a) H' R' s (wk_list hk)⟩
        | false =>
          refine .inr (.inl ⟨G0, H0, ρ, τ, σt, R, ?_⟩)
          rw [ht]
          intro v H' R' s
          obtain ⟨G, F, r⟩ := R'.rel
          obtain ⟨f, o⟩ := r.held (Hld.last (H := H') R.l1 R.l2)
          obtain ⟨a, xs, rfl, e1, _⟩ := o.kids r.gh hk
          exact ⟨a, rfl, ⟨xs, SqT.of (by simpa using e1)⟩, m1 _ (Itt X.K a) H' R' s (wk_tup hk)⟩
    · exact m1.elim
theorem wk_rng {K : PySem.W.Frag} {mg : Str → Option Value} {lo hi : Int} {ds : List PyData} {t : T} {v : V} (h : rngD lo hi = some ds) : Wk K mg (Itr lo (hi - lo).toNat) t v ds ∧ (-(2 ^ 62) ≤ lo ∧ lo < 2 ^ 62 ∧ -(2 ^ 62) ≤ hi ∧ hi < 2 ^ 62) := by
  unfold rngD at h
  split at h
  · next hb =>
    cases h
    refine ⟨fun G H f s o => ?_, by omega⟩
    have hl : ((List.range (hi - lo).toNat).map fun (k : Nat) => PyData.int (lo + (k : Int))).length = (hi - lo).toNat := by simp
    refine ⟨fun i q => (show i < (hi - lo).toNat by omega), fun i w H' q ⟨e, ew⟩ => ⟨e, .int (lo + i), ?_, ?_⟩, fun i q => (show (hi - lo).toNat ≤ i by omega)⟩
    · rw [hl] at q
      rw [List.getElem?_map, List.getElem?_range q]; rfl
    · subst ew; exact .int _
  · cases h
/-- with a dummy behind -/
theorem Ro.dummy {K : PySem.W.Frag} {mg : Str → Option Value} {G0 H0 H : Hp} {ρ : Env} {σ : St} {τ τ' : Env} {σt σt' : St} (R : Ro K mg G0 H0 ρ σ τ' σt' H) (l2 : τ.length = σt.length) (p : τ <+: τ') (q : σt <+: σt') :
    Ro K mg G0 H0 ρ σ (τ ++ [some (.imm .none)]) (σt ++ [some .non]) H := by
  obtain ⟨G, F, r⟩ := R.rel
  have r2 := r.pushI R.len .non
  rw [List.append_assoc, List.append_assoc] at r2
  exact ⟨R.l1, by simp [l2], r2.mid R.l1 l2 R.l2 p q⟩
theorem pi_rng1 {X : Cx} {W : WX} {tg : Expr} {r : Str} {rp cp : Pos} {hi : E} {hi' : Expr} (ok : OkX mx call k X) (tk : Takes X W) (hr : r = "range") (hg : glB X.env.scope r = true) (hhi : SE mx call k hi)
    (h : mE mx X.N X.env.scope hi hi' = true) : PI X tg (.Call (.Name r rp) [hi'] [] cp) (iW X.K X.mg W (rngR call none hi)) := by
  subst hr
  have H1 := (hhi X W hi' ok tk h).2.1
  have hst : starEach [hi'] X.env = [(false, eval hi' X.env)] := by rw [star_cons (pl_of h)]; rfl
  refine piImp (pi_range1 (glB_ok hg) (ok.md.bl _ (by decide)) (pa_cons H1 pa_nil (star_cons (pl_of h))) hst) fun σ H Q ⟨G0, H0, ρ, τ, σt, R, m⟩ => ?_
  refine ⟨G0, H0, ρ, τ, σt, R, (RsP.bind (r := evX call true hi ρ) (show RsP ((evX call true hi ρ).bind _) _ _ from m)).imp (fun t et m1 => fun v H1 τ1 σt1 R1 s1 p1 q1 h1 => ?_) fun _ q => q⟩
  split at m1
  · next _ n =>
    split at m1
    · next ds hd =>
      obtain ⟨G, F, rr⟩ := R1.rel
      obtain ⟨f, o⟩ := rr.held h1
      obtain ⟨wk, b⟩ := wk_rng (K := X.K) (mg := X.mg) (t := .imm .none) (v := .non) hd
      have := m1 .non _ H1 (R1.dummy R.l2 p1 q1) s1 wk
      refine ⟨n, by rw [o.int], b.2.2.1, b.2.2.2, ?_⟩
      simpa using this
    · exact m1.elim
  · exact m1.elim
theorem pi_rng2 {X : Cx} {W : WX} {tg : Expr} {r : Str} {rp cp : Pos} {l hi : E} {lo' hi' : Expr} (ok : OkX mx call k X) (tk : Takes X W) (hr : r = "range") (hg : glB X.env.scope r = true) (hl : SE mx call k l) (hhi : SE mx call k hi)
    (h : (mE mx X.N X.env.scope l lo' && mE mx X.N X.env.scope hi hi') = true) : PI X tg (.Call (.Name r rp) [lo', hi'] [] cp) (iW X.K X.mg W (rngR call (some l) hi)) := by
  subst hr
  rw [Bool.and_eq_true] at h
  have H1 := (hl X W lo' ok tk h.1).2.1
  have H2 := (hhi X W hi' ok tk h.2).2.1
  have hst2 : starEach [hi'] X.env = [(false, eval hi' X.env)] := by rw [star_cons (pl_of h.2)]; rfl
  have hst : starEach [lo', hi'] X.env = [(false, eval lo' X.env), (false, eval hi' X.env)] := by rw [star_cons (pl_of h.1), hst2]
  refine piImp (pi_range2 (glB_ok hg) (ok.md.bl _ (by decide)) (pa_cons H1 (pa_cons H2 pa_nil (star_cons (pl_of h.2))) (star_cons (pl_of h.1))) hst hst2) fun σ H Q ⟨G0, H0, ρ, τ, σt, R, m⟩ => ?_
  have m0 := RsP.bind m
  simp only [evO] at m0
  refine ⟨G0, H0, ρ, τ, σt, R, (RsP.bind m0).imp (fun u eu m1 => fun v H1 τ1 σt1 R1 s1 p1 q1 h1 => ?_) fun _ q => q⟩
  cases u with
  | imm du =>
    cases du with
    | int i =>
      refine ⟨G0, H0, ρ, τ1, σt1, R1, (RsP.bind (r := evX call true hi ρ) m1).imp (fun t et m2 => fun v2 H2 τ2 σt2 R2 s2 p2 q2 h2 => ?_) fun _ q => q.later R.l2 s1 p1 q1⟩
      split at m2
      · next _ n =>
        split at m2
        · next ds hd =>
          obtain ⟨G, F, rr⟩ := R2.rel
          obtain ⟨f, o⟩ := rr.held (h1.grow s2 p2 q2)
          obtain ⟨f2, o2⟩ := rr.held h2
          obtain ⟨wk, b⟩ := wk_rng (K := X.K) (mg := X.mg) (t := .imm .none) (v := .non) hd
          have := m2 .non _ H2 (R2.dummy R.l2 (p1.trans p2) (q1.trans q2)) (s1.trans s2) wk
          exact ⟨i, n, by rw [o.int, o2.int], b, this⟩
        · exact m2.elim
      · exact m2.elim
    | _ => exact m1.elim
  | _ => exact m1.elim
end Gl

set_option Elab.async false
set_option linter.all false
set_option maxRecDepth 100000
set_option maxHeartbeats 4000000
/-! GlL: comprehensions; all expressions. -/
namespace Gl
open PySem L2
variable {mx : Mx} {call : Nat → List T → Rs T} {k : Nat}

def lcStep (call : Nat → List T → Rs T) (i : Nat) (elt : E) (c : Option E) (ρ : Env) (d : PyData) : Rs (Option PyData) :=
  (evC call c (ρ.set i (some (.imm d)))).bind fun b => if b then (evX call false elt (ρ.set i (some (.imm d)))).bind immOf else .ok none
def lcAll (r : Env → Rs (T × List PyData)) (call : Nat → List T → Rs T) (i : Nat) (elt : E) (c : Option E) (ρ : Env) : Rs T :=
  if ρ.length ≤ i then .no else (r ρ).bind fun p => (lcGo (lcStep call i elt c ρ) p.2).bind fun r => if r.length ≤ sizeLine then .ok (.L r) else .no
theorem evX_lc {pk : Bool} {i : Nat} {src elt : E} {c : Option E} {ρ : Env} : evX call pk (.lc i src elt c) ρ = lcAll (srcR call src) call i elt c ρ := by
  simp only [evX, lcAll, srcR]
  split
  · rfl
  cases evX call false src ρ with
  | ok t =>
    simp only [Rs.bind]
    cases srcT t <;> rfl
  | _ => rfl
theorem evX_lcR {pk : Bool} {i : Nat} {lo : Option E} {hi elt : E} {c : Option E} {ρ : Env} : evX call pk (.lcR i lo hi elt c) ρ = lcAll (rngR call lo hi) call i elt c ρ := by
  simp only [evX, lcAll, rngR]
  split
  · rfl
  cases evO call lo ρ with
  | ok l =>
    simp only [Rs.bind]
    cases evX call true hi ρ with
    | ok t =>
      cases t with
      | imm d =>
        cases d with
        | int n => dsimp only; cases rngD (l.getD 0) n <;> rfl
        | _ => rfl
      | _ => rfl
    | _ => rfl
  | _ => rfl
theorem lcGo_cons {f : PyData → Rs (Option PyData)} {d : PyData} {ds r : List PyData} (h : lcGo f (d :: ds) = .ok r) : ∃ o r', f d = .ok o ∧ lcGo f ds = .ok r' ∧ r = o.toList ++ r' := by
  simp only [lcGo] at h
  cases h1 : f d with
  | ok o =>
    rw [h1] at h
    cases h2 : lcGo f ds with
    | ok r' => rw [h2] at h; cases h; exact ⟨o, r', rfl, rfl, rfl⟩
    | ex c => rw [h2] at h; cases h
    | no => rw [h2] at h; cases h
  | ex c => rw [h1] at h; cases h
  | no => rw [h1] at h; cases h
theorem lcGo_ex {f : PyData → Rs (Option PyData)} : ∀ {ds : List PyData} {c : Str}, lcGo f ds ≠ .ex c
  | [], c, h => by cases h
  | d :: ds, c, h => by
    simp only [lcGo] at h
    split at h
    · split at h <;> cases h
    · cases h
def W0 : WX := fun _ _ _ _ => False
def tC' (K : PySem.W.Frag) (mg : Str → Option Value) (call : Nat → List T → Rs T) : Option E → TT
  | none => tYes
  | some c => tT K mg W0 call c
theorem L_app {acc : List PyData} {d : PyData} : (T.L (acc ++ [d])) = .node .lst (acc.map T.imm ++ [.imm d]) := by unfold T.L; rw [List.map_append]; rfl
/-- a plain item appended to a list of one's own -/
theorem RelG.app {K : PySem.W.Frag} {mg : Str → Option Value} {G0 H0 G H : Hp} {F : Nat → List Addr} {ρ ρ' : Env} {σ σ' : St} {j : Nat} {acc : List PyData} {d : PyData} {D : Addr} {y : V} (R : RelG K mg G0 H0 G F ρ σ H) (ej : ρ[j]? = some (some (.L acc))) (ev : σ[j]? = some (some (.ref D))) (o : Rp K G d y)
    (e1 : ρ'[j]? = some (some (.L (acc ++ [d])))) (e2 : σ'[j]? = some (some (.ref D))) (old : ∀ (i : Nat) (u : T), i ≠ j → ρ'[i]? = some (some u) → ρ[i]? = some (some u) ∧ σ'[i]? = σ[i]?) :
    ∃ vs, H D = some (.lst vs) ∧ vs.length = acc.length ∧ Rel K mg G0 H0 ρ' σ' (upd H D (.lst (vs ++ [y]))) := by
  obtain ⟨w, q, ow⟩ := R.own j _ ej
  rw [ev] at q; cases q
  have fr := R.free j _ ej
  have ap := fun (i : Nat) (u : T) (n : i ≠ j) (e : ρ[i]? = some (some u)) => R.apart i j u _ n e ej
  generalize hF : F j = fj at ow fr ap
  cases ow with
  | node x r it =>
    rename_i vs ex f
    obtain ⟨x1, x2⟩ := x
    obtain ⟨r1, r2⟩ := r.imms (imms_map acc)
    subst x2 r2
    refine ⟨vs, x1, by rw [← r1.length], ?_⟩
    have keep : ∀ b, b ∉ F j → ∀ ob, H b = some ob → upd H D (.lst (vs ++ [y])) b = some ob := fun b hb ob e => by
      have : b ≠ D := fun z => hb (by rw [hF, z]; exact List.mem_cons_self)
      rw [upd_ne this]; exact e
    refine R.change (t' := .L (acc ++ [d])) (v' := .ref D) (f' := [D]) ej keep ?_ (by simp) (fun b hb => fr b (by rw [List.mem_singleton.mp hb]; exact List.mem_cons_self)) e1 e2 fun i u n e => ?_
    · unfold T.L
      exact .node (k := .lst) (ex := []) (f := []) (show _ ∧ _ from ⟨upd_same, rfl⟩) (OwnL.ofImms (r1.append (.cons o .nil))) (fun z => nomatch z)
    · obtain ⟨a1, a2⟩ := old i u n e
      refine ⟨a1, a2, fun b hb z => ?_⟩
      rw [List.mem_singleton] at z
      exact ap i u n a1 b hb (by rw [z]; exact List.mem_cons_self)
theorem get_mid {α : Type} (l m : List α) (a : α) (r : List α) : (l ++ (m ++ a :: r))[l.length + m.length]? = some a := by
  rw [← List.append_assoc, List.getElem?_append_right (by simp)]
  simp
section
variable {α : Type} {a b x : List α} {l n : Nat}
theorem getB (h1 : a.length ≤ l) (h2 : l < a.length + b.length) : (a ++ (b ++ x))[l]? = b[l - a.length]? := by
  rw [List.getElem?_append_right h1, List.getElem?_append_left (by omega)]
theorem getC : (a ++ (b ++ x))[a.length + b.length + n]? = x[n]? := by
  rw [← List.append_assoc, List.getElem?_append_right (by simp)]
  congr 1
  simp
end
section
variable {K : PySem.W.Frag} {mg : Str → Option Value} {G0 H0 H : Hp} {ρ τ : Env} {σ σt : St} {t t2 : Option T} {v v2 : Option V} {i : Nat}
theorem three (l p q : Nat) : l < p ∨ (p ≤ l ∧ l < p + q) ∨ ∃ n, l = p + q + n := by
  by_cases h1 : l < p
  · exact .inl h1
  · by_cases h2 : l < p + q
    · exact .inr (.inl ⟨by omega, h2⟩)
    · exact .inr (.inr ⟨l - (p + q), by omega⟩)
theorem join_some {α : Type} {o : Option (Option α)} {u : α} (h : o.join = some u) : o = some (some u) := by
  cases o with
  | none => cases h
  | some x => cases x with
    | none => cases h
    | some y => cases h; rfl
/-- a slot kept behind the temporaries -/
theorem Rel.hide (R : Rel K mg G0 H0 (ρ ++ (τ ++ [t])) (σ ++ (σt ++ [v])) H) (l1 : ρ.length = σ.length) (l2 : τ.length = σt.length) (hi : i < ρ.length) :
    Rel K mg G0 H0 (ρ.set i none ++ (τ ++ [t, ρ[i]?.join])) (σ.set i none ++ (σt ++ [v, σ[i]?.join])) H := by
  have lr : (ρ.set i none).length = ρ.length := List.length_set
  have ls : (σ.set i none).length = ρ.length := by rw [List.length_set, l1]
  have out : ∀ {l : Nat} {u : T}, (ρ.set i none ++ (τ ++ [t, ρ[i]?.join]))[l]? = some (some u) → l ≠ i := fun {l u} e z => by
    subst z
    rw [List.getElem?_append_left (by omega), List.getElem?_set_self hi] at e
    cases e
  have bd : ∀ {l : Nat} {u : T}, (ρ.set i none ++ (τ ++ [t, ρ[i]?.join]))[l]? = some (some u) → l < ρ.length + τ.length + 2 := fun {l u} e => by
    have := (List.getElem?_eq_some_iff.mp e).1
    simp at this; omega
  refine R.pick (fun l => if l = ρ.length + τ.length + 1 then i else l) (fun l u e => ?_) fun l l' u u' e e' z => ?_
  · have hne := out e
    have hb := bd e
    rcases three l ρ.length τ.length with h | ⟨h1, h2⟩ | ⟨n, rfl⟩
    · rw [List.getElem?_append_left (by omega), List.getElem?_set_ne (fun z => hne z.symm)] at e
      rw [if_neg (by omega), List.getElem?_append_left h, List.getElem?_append_left (by omega), List.getElem?_append_left (by omega), List.getElem?_set_ne (fun z => hne z.symm)]
      exact ⟨e, rfl⟩
    · rw [getB (by omega) (by omega), lr] at e
      rw [if_neg (by omega), getB (by omega) (by omega), getB (by omega) (by omega), getB (by omega) (by omega), ls, ← l1]
      exact ⟨e, rfl⟩
    · have e' := e
      rw [← lr, getC] at e
      have es : (σ.set i none ++ (σt ++ [v, σ[i]?.join]))[ρ.length + τ.length + n]? = [v, σ[i]?.join][n]? := by rw [← ls, l2, getC]
      rw [es]
      match n, hb, e with
      | 0, _, e =>
        rw [if_neg (by omega), getC, l1, l2, getC]
        exact ⟨e, rfl⟩
      | 1, _, e =>
        rw [if_pos rfl, List.getElem?_append_left hi, List.getElem?_append_left (by omega)]
        have e2 : ρ[i]?.join = some u := by simpa using e
        refine ⟨join_some e2, ?_⟩
        have : i < σ.length := by omega
        simp [List.getElem?_eq_getElem this]
      | n + 2, hb, _ => omega
  · have h1 := out e
    have h2 := out e'
    by_cases a : l = ρ.length + τ.length + 1 <;> by_cases b : l' = ρ.length + τ.length + 1 <;> simp only [a, b, if_true, if_false] at z
    · omega
    · exact absurd z.symm h2
    · exact absurd z h1
    · exact z
/-- .. and brought back -/
theorem Rel.unhide (R : Rel K mg G0 H0 (ρ.set i none ++ (τ ++ [t, ρ[i]?.join, t2])) (σ.set i none ++ (σt ++ [v, σ[i]?.join, v2])) H) (l1 : ρ.length = σ.length) (l2 : τ.length = σt.length) (hi : i < ρ.length) :
    Rel K mg G0 H0 (ρ ++ (τ ++ [t2])) (σ ++ (σt ++ [v2])) H := by
  have lr : (ρ.set i none).length = ρ.length := List.length_set
  have ls : (σ.set i none).length = ρ.length := by rw [List.length_set, l1]
  have bd : ∀ {l : Nat} {u : T}, (ρ ++ (τ ++ [t2]))[l]? = some (some u) → l < ρ.length + τ.length + 1 := fun {l u} e => by
    have := (List.getElem?_eq_some_iff.mp e).1
    simp at this; omega
  have gA : ∀ n, (ρ.set i none ++ (τ ++ [t, ρ[i]?.join, t2]))[ρ.length + τ.length + n]? = [t, ρ[i]?.join, t2][n]? := fun n => by rw [← lr, getC]
  have gB : ∀ n, (σ.set i none ++ (σt ++ [v, σ[i]?.join, v2]))[ρ.length + τ.length + n]? = [v, σ[i]?.join, v2][n]? := fun n => by rw [← ls, l2, getC]
  refine R.pick (fun l => if l = i then ρ.length + τ.length + 1 else if l = ρ.length + τ.length then ρ.length + τ.length + 2 else l) (fun l u e => ?_) fun l l' u u' e e' z => ?_
  · have hb := bd e
    by_cases hli : l = i
    · subst hli
      rw [List.getElem?_append_left hi] at e
      rw [if_pos rfl, gA, gB, List.getElem?_append_left (by omega)]
      refine ⟨by simp [e], ?_⟩
      have : l < σ.length := by omega
      simp [List.getElem?_eq_getElem this]
    · rw [if_neg hli]
      rcases three l ρ.length τ.length with h | ⟨h1, h2⟩ | ⟨n, rfl⟩
      · rw [List.getElem?_append_left h] at e
        rw [if_neg (by omega), List.getElem?_append_left (by omega), List.getElem?_append_left (by omega), List.getElem?_append_left (by omega), List.getElem?_set_ne (fun z => hli z.symm), List.getElem?_set_ne (fun z => hli z.symm)]
        exact ⟨e, rfl⟩
      · rw [getB h1 h2] at e
        rw [if_neg (by omega), getB (by omega) (by omega), getB (by omega) (by omega), getB (by omega) (by omega), ls, lr, ← l1]
        exact ⟨e, rfl⟩
      · have hn : n = 0 := by omega
        subst hn
        rw [getC] at e
        rw [if_pos (by omega), gA, gB, l1, l2, getC]
        exact ⟨by simpa using e, rfl⟩
  · have b1 := bd e
    have b2 := bd e'
    split at z <;> split at z <;> (try split at z) <;> (try split at z) <;> omega
end

theorem set_app {α : Type} {a : List α} {i l : Nat} {b c : α} {X : List α} (h : l ≠ i) : (a.set i c ++ X)[l]? = (a.set i b ++ X)[l]? := by
  by_cases hl : l < a.length
  · rw [List.getElem?_append_left (by simpa using hl), List.getElem?_append_left (by simpa using hl), List.getElem?_set_ne (fun z => h z.symm), List.getElem?_set_ne (fun z => h z.symm)]
  · rw [List.getElem?_append_right (by simpa using hl), List.getElem?_append_right (by simpa using hl), List.length_set, List.length_set]
theorem last_ne {α : Type} {A t : List α} {a b c c' : α} {l : Nat} (h : l ≠ A.length + t.length + 2) : (A ++ (t ++ [a, b, c]))[l]? = (A ++ (t ++ [a, b, c']))[l]? := by
  rcases three l A.length t.length with h1 | ⟨h1, h2⟩ | ⟨n, rfl⟩
  · rw [List.getElem?_append_left h1, List.getElem?_append_left h1]
  · rw [getB h1 h2, getB h1 h2]
  · rw [getC, getC]
    match n with
    | 0 => rfl
    | 1 => rfl
    | 2 => exact absurd rfl h
    | n + 3 => rfl
theorem pre_get {α : Type} {A B C : List α} {l : Nat} {x : α} (e : (A ++ B)[l]? = some x) : (A ++ (B ++ C))[l]? = some x := by
  rw [← List.append_assoc, List.getElem?_append_left (List.getElem?_eq_some_iff.mp e).1]; exact e
theorem pre_lt {α : Type} {A B C : List α} {l : Nat} (h : l < (A ++ B).length) : (A ++ B)[l]? = (A ++ (B ++ C))[l]? := by
  rw [← List.append_assoc, List.getElem?_append_left h]
theorem RsP.ok_of {α : Type} {r : Rs α} {a : α} {P : α → Prop} {PX : Str → Prop} (e : r = .ok a) (h : P a) : RsP r P PX := by subst e; exact h
theorem Rs.bind_ok {α β : Type} {r : Rs α} {f : α → Rs β} {b : β} (h : r.bind f = .ok b) : ∃ a, r = .ok a ∧ f a = .ok b := by
  cases r with
  | ok a => exact ⟨a, rfl, h⟩
  | ex c => cases h
  | no => cases h
theorem evC_some {call : Nat → List T → Rs T} {c : E} {ρ : Env} : evC call (some c) ρ = (evX call true c ρ).bind fun t => .of (truT t) := by simp only [evC]
section
variable {K : PySem.W.Frag} {mg : Str → Option Value} {G0 H0 H : Hp} {ρ τ : Env} {σ σt : St} {t t' : T} {v : V}
/-- the last temporary frozen -/
theorem Ro.freezeT (R : Ro K mg G0 H0 ρ σ (τ ++ [some t]) (σt ++ [some v]) H) (h : t.fr = some t') : Ro K mg G0 H0 ρ σ (τ ++ [some t']) (σt ++ [some v]) H := by
  obtain ⟨G, F, r⟩ := R.rel
  have a1 : (ρ ++ (τ ++ [some t]))[ρ.length + τ.length + 0]? = some (some t) := getC
  have := r.freeze (i := ρ.length + τ.length + 0) a1 h
  refine ⟨R.l1, by have := R.l2; simpa using this, ?_⟩
  have e : (ρ ++ (τ ++ [some t])).set (ρ.length + τ.length + 0) (some t') = ρ ++ (τ ++ [some t']) := by
    rw [List.set_append_right _ _ (by omega), List.set_append_right _ _ (by omega)]
    congr 2
    have : ρ.length + τ.length + 0 - ρ.length - τ.length = 0 := by omega
    rw [this]; rfl
  rw [e] at this
  exact this
end
theorem Ro.freezeTs {K : PySem.W.Frag} {mg : Str → Option Value} {G0 H0 H : Hp} {ρ : Env} {σ : St} : ∀ {ts : List T} {vs : List V} {τ : Env} {σt : St}, vs.length = ts.length → τ.length = σt.length → Ro K mg G0 H0 ρ σ (τ ++ ts.map some) (σt ++ vs.map some) H → Ro K mg G0 H0 ρ σ (τ ++ (ts.map frzE).map some) (σt ++ vs.map some) H
  | [], [], τ, σt, _, _, R => R
  | [], _ :: _, _, _, h, _, _ => by cases h
  | _ :: _, [], _, _, h, _, _ => by cases h
  | t :: ts, v :: vs, τ, σt, h, l2, R => by
    have h' : vs.length = ts.length := by simpa using h
    have step : Ro K mg G0 H0 ρ σ (τ ++ some (frzE t) :: ts.map some) (σt ++ some v :: vs.map some) H := by
      unfold frzE
      cases hf : t.fr with
      | none => exact R
      | some t' =>
        obtain ⟨G, F, r⟩ := R.rel
        have a1 : (ρ ++ (τ ++ some t :: ts.map some))[ρ.length + τ.length + 0]? = some (some t) := getC
        have := r.freeze (i := ρ.length + τ.length + 0) a1 hf
        refine ⟨R.l1, by simp [l2, h'], ?_⟩
        have e : (ρ ++ (τ ++ some t :: ts.map some)).set (ρ.length + τ.length + 0) (some t') = ρ ++ (τ ++ some t' :: ts.map some) := by
          rw [List.set_append_right _ _ (by omega), List.set_append_right _ _ (by omega)]
          congr 2
          have : ρ.length + τ.length + 0 - ρ.length - τ.length = 0 := by omega
          rw [this]; rfl
        have this : Rel K mg G0 H0 (List.set (ρ ++ (τ ++ some t :: ts.map some)) (ρ.length + τ.length + 0) (some t')) (σ ++ (σt ++ some v :: vs.map some)) H := this
        rw [e] at this
        exact this
    have := Ro.freezeTs (ts := ts) (vs := vs) (τ := τ ++ [some (frzE t)]) (σt := σt ++ [some v]) h' (by simp [l2]) (by rw [List.append_assoc, List.append_assoc]; exact step)
    rw [List.append_assoc, List.append_assoc] at this
    exact this
theorem se_lst {es' : List E} (hs : SEs mx call k es') : SE mx call k (.lst es') := fun X W e ok tk h => by
  cases e with
  | List es pos =>
    have h : (mEs mx X.N X.env.scope es' es && decide (es'.length < 1000)) = true := h
    simp only [Bool.and_eq_true, decide_eq_true_eq] at h
    refine of_tE (peImp (pe_lst (hs X W es ok tk h.1).1) fun σ H Q ⟨G0, H0, ρ, τ, σt, R, m⟩ => ?_) (fun ρ => rfl) (fun _ => rfl)
    refine ⟨G0, H0, ρ, τ, σt, R, (RsP.bind m).imp (fun ts ets q => ?_) fun _ q => q⟩
    intro vs H1 hv R1 s1
    have hlen : ts.length = es'.length := evXs_len ets
    refine ⟨by rw [hv, hlen]; exact Nat.le_of_lt (small1000 (Nat.le_of_lt h.2)), fun p hp => ?_⟩
    obtain ⟨G, F, r⟩ := (R1.freezeTs (vs := vs) hv R.l2).rel
    rw [← List.append_assoc, ← List.append_assoc] at r
    refine q _ _ ⟨R.l1, by simp [R.l2], ?_⟩ (s1.trans (same_upd hp))
    rw [← List.append_assoc, ← List.append_assoc]
    exact r.mkNode R.len (by rw [List.length_map]; exact hv) hp (show _ ∧ _ from ⟨upd_same, rfl⟩) fun z => nomatch z
  | _ => exact Bool.noConfusion h

theorem tLc_of {K : PySem.W.Frag} {mg : Str → Option Value} {W : WX} {r : Env → Rs (T × List PyData)} {i : Nat} {elt : E} {c : Option E} {σ : St} {H : Hp} {Q : VK} {G0 H0 : Hp} {ρ τ : Env} {σt : St} (R : Ro K mg G0 H0 ρ σ τ σt H)
    (m : RsP (lcAll r call i elt c ρ) (fun t => PN K mg G0 H0 ρ σ τ σt H t Q) (PX K mg W G0 H0 ρ σ τ σt H)) : tLc (iW K mg W r) (gName i) (tC' K mg call c) (tE K mg W0 call elt) [i] σ H Q := by
  unfold lcAll at m
  split at m
  · exact m.elim
  next hi =>
  have hi : i < ρ.length := by omega
  refine ⟨G0, H0, ρ, τ, σt, R, (RsP.bind m).imp (fun p ep m1 => fun v J H1 R1 s1 wk D hD => ?_) fun _ q => q⟩
  obtain ⟨t, ds⟩ := p
  have m1 := RsP.bind m1
  cases hr : lcGo (lcStep call i elt c ρ) ds with
  | no => rw [hr] at m1; exact m1.elim
  | ex c => exact absurd hr lcGo_ex
  | ok rs =>
    rw [hr] at m1
    have m1 : RsP (if rs.length ≤ sizeLine then Rs.ok (T.L rs) else .no) (fun t => PN K mg G0 H0 ρ σ τ σt H t Q) (PX K mg W G0 H0 ρ σ τ σt H) := m1
    split at m1
    rotate_left
    · exact m1.elim
    next hz =>
    have m1 : PN K mg G0 H0 ρ σ τ σt H (.L rs) Q := m1
    have l1 := R.l1
    have l2 := R.l2
    have hiσ : i < σ.length := by omega
    -- the block's state: P acc H
    let st : List PyData → Hp → Prop := fun acc H' => Same H1 H' ∧ Rel K mg G0 H0 (ρ.set i none ++ (τ ++ [some t, ρ[i]?.join, some (.L acc)])) (σ.set i none ++ (σt ++ [some v, σ[i]?.join, some (.ref D)])) H'
    have st0 : st [] (upd H1 D (.lst [])) := by
      refine ⟨same_upd hD, ?_⟩
      obtain ⟨G, F, rg⟩ := R1.rel.hide l1 l2 hi
      have := rg.pushN (k := .lst) (ts := []) (vs := []) (by simp [l1, l2]) hD (show _ ∧ _ from ⟨upd_same, rfl⟩) .nil
      simpa [T.L] using this
    let Wt : Nat → Hp → Prop := fun n H' => n ≤ ds.length ∧ ∃ acc rest, lcGo (lcStep call i elt c ρ) (ds.drop n) = .ok rest ∧ acc ++ rest = rs ∧ st acc H'
    refine ⟨fun n mm H' => mm = ds.length - n ∧ Wt n H', ⟨ds.length - 0, rfl, Nat.zero_le _, [], rs, by simpa using hr, rfl, st0⟩, ?_⟩
    rintro n mm H' ⟨rfl, hn, acc, rest, hrest, hacc, ss, rel⟩
    obtain ⟨G, F, rg⟩ := rel
    have lr : (ρ.set i none).length = ρ.length := List.length_set
    have ls : (σ.set i none).length = σ.length := List.length_set
    have gT : (ρ.set i none ++ (τ ++ [some t, ρ[i]?.join, some (.L acc)]))[ρ.length + τ.length + 0]? = some (some t) := by rw [← lr, getC]; rfl
    obtain ⟨v', qv, ow⟩ := rg.own _ t gT
    have ev : v' = v := by
      rw [l1, l2, ← ls, getC] at qv
      simpa using qv.symm
    subst ev
    obtain ⟨w1, w2, w3⟩ := wk G H' _ rg.gh ow
    by_cases hlt : n < ds.length
    rotate_left
    · -- the end
      refine .inl ⟨w3 n (by show ds.length ≤ n; omega), ?_⟩
      have : ds.drop n = [] := List.drop_eq_nil_of_le (by omega)
      rw [this] at hrest
      cases hrest
      rw [List.append_nil] at hacc
      subst hacc
      exact m1 (.ref D) H' ⟨l1, by simp [l2], (show Rel K mg G0 H0 _ _ H' from ⟨G, F, rg⟩).unhide l1 l2 hi⟩ (s1.trans ss)
    · refine .inr ⟨w1 n hlt, Wt (n + 1), fun H2 h2 => ⟨ds.length - (n + 1), by omega, rfl, h2⟩, fun x H2 hy => ?_⟩
      obtain ⟨rfl, d, hd, rp⟩ := w2 n x H2 hlt hy
      have hdrop : ds.drop n = d :: ds.drop (n + 1) := by
        rw [List.drop_eq_getElem_cons hlt]
        congr 1
        have := List.getElem?_eq_getElem hlt
        rw [hd] at this
        exact (Option.some.inj this).symm
      rw [hdrop] at hrest
      obtain ⟨o, rest', ho, hrest', rfl⟩ := lcGo_cons hrest
      show gName i x (wipe σ [i]) H2 _
      show wipe ((wipe σ [i]).set i (some x)) [i] = wipe σ [i] ∧ _
      have e1 : wipe σ [i] = σ.set i none := rfl
      have e2 : (wipe σ [i]).set i (some x) = σ.set i (some x) := by rw [e1, List.set_set]
      rw [e2]
      refine ⟨show (σ.set i (some x)).set i none = σ.set i none from List.set_set .., ?_⟩
      -- the turn's own state
      have R2 : Ro K mg G0 H0 (ρ.set i (some (.imm d))) (σ.set i (some x)) (τ ++ [some t, ρ[i]?.join, some (.L acc)]) (σt ++ [some v', σ[i]?.join, some (.ref D)]) H2 := by
        refine ⟨by simp [l1], by simp [l2], ?_⟩
        have := rg.setI rp i (by simp [l1, l2])
        rw [List.set_append_left _ _ (by omega), List.set_append_left _ _ (by omega), List.set_set, List.set_set] at this
        exact this
      have kp : ∀ {H3 : Hp} {τ3 : Env} {σt3 : St}, Ro K mg G0 H0 (ρ.set i (some (.imm d))) (σ.set i (some x)) τ3 σt3 H3 → Same H2 H3 → (τ ++ [some t, ρ[i]?.join, some (.L acc)]) <+: τ3 → (σt ++ [some v', σ[i]?.join, some (.ref D)]) <+: σt3 →
          st acc H3 := fun {H3 τ3 σt3} R3 s3 p3 q3 => by
        refine ⟨ss.trans s3, ?_⟩
        have r3 := R3.rel.pre R3.l1 (τ := τ ++ [some t, ρ[i]?.join, some (.L acc)]) (σt := σt ++ [some v', σ[i]?.join, some (.ref D)]) (by simp [l2]) p3 q3
        refine r3.weak fun l u e => ?_
        by_cases hl : l = i
        · subst hl
          rw [List.getElem?_append_left (by omega), List.getElem?_set_self hi] at e
          cases e
        · exact ⟨(set_app hl).symm.trans e, set_app hl⟩
      -- what is behind the test
      have fin : ∀ {b : Bool} {H3 : Hp} {τ3 : Env} {σt3 : St}, Ro K mg G0 H0 (ρ.set i (some (.imm d))) (σ.set i (some x)) τ3 σt3 H3 → Same H2 H3 → (τ ++ [some t, ρ[i]?.join, some (.L acc)]) <+: τ3 → (σt ++ [some v', σ[i]?.join, some (.ref D)]) <+: σt3 →
          (if b = true then (evX call false elt (ρ.set i (some (.imm d)))).bind immOf else .ok none) = .ok o →
          if b = true then tE K mg W0 call elt (σ.set i (some x)) H3 fun y H4 => ∃ acc', H4 D = some (.lst acc') ∧ acc'.length < sizeLine ∧ Wt (n + 1) (upd H4 D (.lst (acc' ++ [y]))) else Wt (n + 1) H3 := fun {b H3 τ3 σt3} R3 s3 p3 q3 hb => by
        cases b with
        | false =>
          simp only [Bool.false_eq_true, if_false] at hb ⊢
          cases hb
          exact ⟨hlt, acc, rest', hrest', by simpa using hacc, kp R3 s3 p3 q3⟩
        | true =>
          simp only [if_true] at hb ⊢
          obtain ⟨te, hte, him⟩ := Rs.bind_ok hb
          unfold immOf at him
          split at him
          · next e hfr =>
            cases him
            refine ⟨G0, H0, _, τ3, σt3, R3, RsP.ok_of hte ?_⟩
            intro y H4 R4 s4
            have R4 := R4.freezeT hfr
            obtain ⟨sA, relA⟩ := kp R4 (s3.trans s4) (p3.trans (List.prefix_append ..)) (q3.trans (List.prefix_append ..))
            -- the list, and the new item
            obtain ⟨G4, F4, r4⟩ := R4.rel
            have hx : Rp K G4 e y := by
              obtain ⟨w, qw, ow4⟩ := r4.own ((ρ.set i (some (.imm d))).length + τ3.length + 0) (.imm e) (by rw [getC]; rfl)
              have : (σ.set i (some x) ++ (σt3 ++ [some y]))[(ρ.set i (some (.imm d))).length + τ3.length + 0]? = some (some y) := by rw [R4.l1, R3.l2, getC]; rfl
              rw [this] at qw
              cases qw
              exact ow4.rp
            obtain ⟨τx, rfl⟩ := p3
            obtain ⟨σx, rfl⟩ := q3
            have gL : (ρ.set i (some (.imm d)) ++ (τ ++ [some t, ρ[i]?.join, some (T.L acc)] ++ τx ++ [some (.imm e)]))[ρ.length + τ.length + 2]? = some (some (T.L acc)) := by
              rw [← List.length_set (as := ρ) (i := i) (a := some (T.imm d)), List.append_assoc, List.append_assoc, getC]; rfl
            have gV : (σ.set i (some x) ++ (σt ++ [some v', σ[i]?.join, some (V.ref D)] ++ σx ++ [some y]))[ρ.length + τ.length + 2]? = some (some (V.ref D)) := by
              rw [l1, l2, ← List.length_set (as := σ) (i := i) (a := some x), List.append_assoc, List.append_assoc, getC]; rfl
            have gA : ∀ z n, (ρ.set i none ++ (τ ++ [some t, ρ[i]?.join, z]))[ρ.length + τ.length + n]? = [some t, ρ[i]?.join, z][n]? := fun z n => by rw [← lr, getC]
            have gB : ∀ z n, (σ.set i none ++ (σt ++ [some v', σ[i]?.join, z]))[ρ.length + τ.length + n]? = [some v', σ[i]?.join, z][n]? := fun z n => by rw [l1, l2, ← ls, getC]
            obtain ⟨vs, hv1, hv2, hv3⟩ := RelG.app (ρ' := ρ.set i none ++ (τ ++ [some t, ρ[i]?.join, some (.L (acc ++ [e]))])) (σ' := σ.set i none ++ (σt ++ [some v', σ[i]?.join, some (.ref D)])) r4 gL gV hx (gA _ 2) (gB _ 2) fun l u nl e5 => by
              by_cases hl : l = i
              · subst hl
                rw [List.getElem?_append_left (by omega), List.getElem?_set_self hi] at e5
                cases e5
              · rw [last_ne (by rw [lr]; exact nl) (c' := some (T.L acc))] at e5
                have e6 := (set_app hl (b := some (T.imm d))).symm.trans e5
                refine ⟨?_, ?_⟩
                · rw [List.append_assoc (bs := τx)]; exact pre_get e6
                · rw [List.append_assoc (bs := σx), set_app hl (b := some x)]
                  have hlt2 : l < (σ.set i (some x) ++ (σt ++ [some v', σ[i]?.join, some (V.ref D)])).length := by
                    have := (List.getElem?_eq_some_iff.mp e6).1
                    simp only [List.length_append, List.length_set] at this ⊢
                    simp at this ⊢
                    omega
                  exact pre_lt hlt2
            refine ⟨vs, hv1, ?_, hlt, acc ++ [e], rest', hrest', by rw [← hacc]; simp, ?_, hv3⟩
            · rw [hv2]
              have := congrArg List.length hacc
              simp at this
              omega
            · exact fun b o q => by rw [upd_ne (ne_of_none q hD)]; exact sA b o q
          · cases him
      have ho2 : (evC call c (ρ.set i (some (.imm d)))).bind (fun b => if b = true then (evX call false elt (ρ.set i (some (.imm d)))).bind immOf else .ok none) = .ok o := ho
      obtain ⟨b, hb, hbo⟩ := Rs.bind_ok ho2
      cases c with
      | none =>
        simp only [evC] at hb
        cases hb
        exact fin R2 (Same.refl H2) List.prefix_rfl List.prefix_rfl hbo
      | some c =>
        rw [evC_some] at hb
        exact ⟨G0, H0, _, _, _, R2, RsP.ok_of hb fun H3 τ3 σt3 R3 s3 p3 q3 => fin R3 s3 p3 q3 hbo⟩

theorem lclB_ok {sc : Scope} {x : Str} (h : lclB sc x = true) : sc.names.lookup x = some .local := by
  unfold lclB at h
  split at h
  · assumption
  · cases h
theorem lc_parts {X : Cx} {W : WX} {i : Nat} {x : Str} {xp : Pos} {elt : E} {c : Option E} {elt' : Expr} {ifs : List Expr} {scope : Scope} (ok : OkX mx call k X) (h0 : mx.hot = false) (hx : X.N[i]? = some x) (hl : lclB (relS scope X.env.scope) x = true) (he : SE mx call k elt) (hc : SO mx call k c)
    (h1 : mE mx X.N (relS scope X.env.scope) elt elt' = true) (h2 : mC mx X.N (relS scope X.env.scope) c ifs = true) (s : Shared) (H : Hp) (C : Addr) (cl : List (Str × Addr)) (fp : List Addr) :
    PG (X.blk s H scope (compEnvC scope cl C X.env) fp) (.Name x xp) (gName i) ∧ PTs (X.blk s H scope (compEnvC scope cl C X.env) fp) ifs (tC' X.K X.mg call c) ∧ PE (X.blk s H scope (compEnvC scope cl C X.env) fp) elt' (tE X.K X.mg W0 call elt) := by
  have ok' : OkX mx call k (X.blk s H scope (compEnvC scope cl C X.env) fp) := ⟨ok.nd, ok.calm, ok.room, ok.un, ok.md, fun z => by rw [h0] at z; cases z⟩
  refine ⟨pg_name ok.nd hx (.inl (lclB_ok hl)) (.inr (lclB_ok hl)), ?_, (he _ W0 elt' ok' takes0 h1).1⟩
  match c, ifs, hc, h2 with
  | none, [], _, _ => exact pts_nil
  | some c, [c'], hc, h2 => exact pts_one (hc.2 c rfl _ W0 c' ok' takes0 h2).2.2
  | none, _ :: _, _, h2 => exact Bool.noConfusion h2
  | some _, [], _, h2 => exact Bool.noConfusion h2
  | some _, _ :: _ :: _, _, h2 => exact Bool.noConfusion h2
theorem pe_lcAny {X : Cx} {W : WX} {r : Env → Rs (T × List PyData)} {i : Nat} {x : Str} {xp pos : Pos} {elt : E} {c : Option E} {elt' iter : Expr} {ifs : List Expr} {scope : Scope} (ok : OkX mx call k X) (h0 : mx.hot = false) (hx : X.N[i]? = some x) (hb : blkC X.N X.env.scope scope [(x, i)] = true)
    (hl : lclB (relS scope X.env.scope) x = true) (he : SE mx call k elt) (hc : SO mx call k c) (h1 : mE mx X.N (relS scope X.env.scope) elt elt' = true) (h2 : mC mx X.N (relS scope X.env.scope) c ifs = true)
    (hi : PI X (.Name x xp) iter (iW X.K X.mg W r)) (hs : pl iter = true) :
    PE X (.ListComp elt' [⟨.Name x xp, iter, ifs, 0⟩] scope pos) (fun σ H Q => ∃ G0 H0 ρ τ σt, Ro X.K X.mg G0 H0 ρ σ τ σt H ∧ RsP (lcAll r call i elt c ρ) (fun t => PN X.K X.mg G0 H0 ρ σ τ σt H t Q) (PX X.K X.mg W G0 H0 ρ σ τ σt H)) := by
  have P := fun s H C cl fp => lc_parts (W := W) (xp := xp) ok h0 hx hl he hc h1 h2 s H C cl fp
  exact peImp (pe_lc (own := [(x, i)]) (ok.calm h0) ok.nd hi (blkOk_by hb) (fun s H C cl fp => (P s H C cl fp).1) (fun s H C cl fp => (P s H C cl fp).2.1) (fun s H C cl fp => (P s H C cl fp).2.2) (fold_pl hs)) fun σ H Q ⟨G0, H0, ρ, τ, σt, R, m⟩ => tLc_of R m
theorem se_lc {i : Nat} {src elt : E} {c : Option E} (hsrc : SE mx call k src) (he : SE mx call k elt) (hc : SO mx call k c) : SE mx call k (.lc i src elt c) := fun X W e ok tk h => by
  cases e with
  | ListComp elt' gs scope pos =>
    match gs, h with
    | [⟨.Name x xp, src', ifs, 0⟩], h =>
      have h : (!mx.hot && decide (X.N[i]? = some x) && blkC X.N X.env.scope scope [(x, i)] && lclB (relS scope X.env.scope) x && mE mx X.N X.env.scope src src' && mE mx X.N (relS scope X.env.scope) elt elt' && mC mx X.N (relS scope X.env.scope) c ifs) = true := h
      simp only [Bool.and_eq_true, Bool.not_eq_true', decide_eq_true_eq] at h
      obtain ⟨⟨⟨⟨⟨⟨h0, h1⟩, h2⟩, h3⟩, h4⟩, h5⟩, h6⟩ := h
      refine of_tE (peImp (pe_lcAny (W := W) ok h0 h1 h2 h3 he hc h5 h6 (pi_src (hsrc X W src' ok tk h4).1) (pl_of h4)) fun σ H Q ⟨G0, H0, ρ, τ, σt, R, m⟩ => ⟨G0, H0, ρ, τ, σt, R, by rw [evX_lc] at m; exact m⟩) (fun ρ => by rw [evX_lc, evX_lc]) (fun _ => rfl)
  | _ => exact Bool.noConfusion h
theorem se_lcR1 {i : Nat} {hi elt : E} {c : Option E} (hhi : SE mx call k hi) (he : SE mx call k elt) (hc : SO mx call k c) : SE mx call k (.lcR i (none) hi elt c) := fun X W e ok tk h => by
  cases e with
  | ListComp elt' gs scope pos =>
    match gs, h with
    | [⟨.Name x xp, .Call (.Name r rp) [hi'] [] cp, ifs, 0⟩], h =>
      have h : (!mx.hot && decide (X.N[i]? = some x) && decide (r = "range") && glB X.env.scope r && blkC X.N X.env.scope scope [(x, i)] && lclB (relS scope X.env.scope) x &&
        mE mx X.N X.env.scope hi hi' && mE mx X.N (relS scope X.env.scope) elt elt' && mC mx X.N (relS scope X.env.scope) c ifs) = true := h
      rw [Bool.and_eq_true, Bool.and_eq_true, Bool.and_eq_true, Bool.and_eq_true, Bool.and_eq_true, Bool.and_eq_true, Bool.and_eq_true, Bool.and_eq_true, decide_eq_true_eq, decide_eq_true_eq, Bool.not_eq_true'] at h
      obtain ⟨⟨⟨⟨⟨⟨⟨⟨h0, h1⟩, hr⟩, hg⟩, h2⟩, h3⟩, h4⟩, h5⟩, h6⟩ := h
      refine of_tE (peImp (pe_lcAny (W := W) ok h0 h1 h2 h3 he hc h5 h6 (pi_rng1 ok tk hr hg hhi h4) rfl) fun σ H Q ⟨G0, H0, ρ, τ, σt, R, m⟩ => ⟨G0, H0, ρ, τ, σt, R, by rw [evX_lcR] at m; exact m⟩) (fun ρ => by rw [evX_lcR, evX_lcR]) (fun _ => rfl)
  | _ => exact Bool.noConfusion h
theorem se_lcR2 {i : Nat} {lo hi elt : E} {c : Option E} (hlo : SE mx call k lo) (hhi : SE mx call k hi) (he : SE mx call k elt) (hc : SO mx call k c) : SE mx call k (.lcR i (some lo) hi elt c) := fun X W e ok tk h => by
  cases e with
  | ListComp elt' gs scope pos =>
    match gs, h with
    | [⟨.Name x xp, .Call (.Name r rp) [lo', hi'] [] cp, ifs, 0⟩], h =>
      have h : (!mx.hot && decide (X.N[i]? = some x) && decide (r = "range") && glB X.env.scope r && blkC X.N X.env.scope scope [(x, i)] && lclB (relS scope X.env.scope) x &&
        (mE mx X.N X.env.scope lo lo' && mE mx X.N X.env.scope hi hi') && mE mx X.N (relS scope X.env.scope) elt elt' && mC mx X.N (relS scope X.env.scope) c ifs) = true := h
      rw [Bool.and_eq_true, Bool.and_eq_true, Bool.and_eq_true, Bool.and_eq_true, Bool.and_eq_true, Bool.and_eq_true, Bool.and_eq_true, Bool.and_eq_true, decide_eq_true_eq, decide_eq_true_eq, Bool.not_eq_true'] at h
      obtain ⟨⟨⟨⟨⟨⟨⟨⟨h0, h1⟩, hr⟩, hg⟩, h2⟩, h3⟩, h4⟩, h5⟩, h6⟩ := h
      refine of_tE (peImp (pe_lcAny (W := W) ok h0 h1 h2 h3 he hc h5 h6 (pi_rng2 ok tk hr hg hlo hhi h4) rfl) fun σ H Q ⟨G0, H0, ρ, τ, σt, R, m⟩ => ⟨G0, H0, ρ, τ, σt, R, by rw [evX_lcR] at m; exact m⟩) (fun ρ => by rw [evX_lcR, evX_lcR]) (fun _ => rfl)
  | _ => exact Bool.noConfusion h
theorem se_bop {c : Bool} {es' : List E} (hs : SEs mx call k es') : SE mx call k (.bop c es') := fun X W e ok tk h => by
  cases e with
  | BoolOp op es pos =>
    have h : (decide (op = (if c then .And else .Or)) && mEs mx X.N X.env.scope es' es) = true := h
    rw [Bool.and_eq_true, decide_eq_true_eq] at h
    obtain ⟨rfl, hq⟩ := h
    cases es' with
    | nil =>
      have none : ∀ {pk ρ}, evX call pk (.bop c []) ρ = .no := by intro pk ρ; simp only [evX, evB]
      refine ⟨⟨fun pins s σ H Q I ⟨G0, H0, ρ, τ, σt, R, m⟩ => ?_⟩, ⟨fun pins s σ H Q I ⟨G0, H0, ρ, τ, σt, R, m⟩ => ?_⟩, ⟨fun pins s σ H Q I ⟨G0, H0, ρ, τ, σt, R, m⟩ => ?_⟩⟩ <;> (rw [none] at m; exact m.elim)
    | cons e0 es0 =>
      obtain ⟨_, _, z⟩ := hs X W es ok tk hq
      obtain ⟨z1, z2⟩ := z (List.cons_ne_nil _ _) c pos
      have b1 : PE X (.BoolOp (if c then .And else .Or) es pos) (tE X.K X.mg W call (.bop c (e0 :: es0))) := peImp z1 fun σ H Q ⟨G0, H0, ρ, τ, σt, R, m⟩ => ⟨G0, H0, ρ, τ, σt, R, m⟩
      refine ⟨b1, peImp b1 fun σ H Q ⟨G0, H0, ρ, τ, σt, R, m⟩ => ⟨G0, H0, ρ, τ, σt, R, RsP.imp (r := evX call false (.bop c (e0 :: es0)) ρ) m (fun t _ q => q.pn R.l1 R.l2) fun _ q => q⟩, ?_⟩
      exact (pwImp z2 fun σ H Q ⟨G0, H0, ρ, τ, σt, R, m⟩ => ⟨G0, H0, ρ, τ, σt, R, m⟩).pt
  | _ => exact Bool.noConfusion h
/-! ### all expressions -/
mutual
theorem se_all : ∀ e : E, SE mx call k e
  | .var i => se_var i
  | .cst d => se_cst d
  | .glb x d => se_glb x d
  | .tup es => se_tup (ses_all es).1
  | .lst es => se_lst (ses_all es).1
  | .dnK => se_dnK
  | .dnT => se_dnT
  | .bin op a b => se_bin (se_all a) (se_all b)
  | .neg a => se_neg (se_all a)
  | .not a => se_not (se_all a)
  | .bop c es => se_bop (ses_all es).1
  | .cmp op a b => se_cmp (se_all a) (se_all b)
  | .chn o1 o2 a b c => se_chn (se_all a) (se_all b) (se_all c)
  | .idx a i => se_idx (se_all a) (se_all i)
  | .slc a lo hi => se_slc (se_all a) (so_all lo) (so_all hi)
  | .sls a lo hi k => se_sls (se_all a) (so_all lo) (so_all hi)
  | .call f es => se_call (ses_all es).2
  | .bi b es => se_bi (ses_all es).1
  | .isi a c => se_isi (se_all a)
  | .eis i tbl => se_eis
  | .mth a m es => se_mth (se_all a) (ses_all es).2
  | .lcR i none hi elt c => se_lcR1 (se_all hi) (se_all elt) (so_all c)
  | .lcR i (some lo) hi elt c => se_lcR2 (se_all lo) (se_all hi) (se_all elt) (so_all c)
  | .lc i src elt c => se_lc (se_all src) (se_all elt) (so_all c)
theorem ses_all : ∀ es : List E, SEs mx call k es ∧ ∀ e ∈ es, SE mx call k e
  | [] => ⟨ses_nil, fun e h => nomatch h⟩
  | e :: es => ⟨ses_cons (se_all e) (ses_all es).1, fun e' h => (List.mem_cons.mp h).elim (fun q => q ▸ se_all e) ((ses_all es).2 e')⟩
theorem so_all : ∀ o : Option E, SO mx call k o
  | none => so_none
  | some e => so_some (se_all e)
end
end Gl

set_option Elab.async false
set_option linter.all false
set_option maxRecDepth 100000
set_option maxHeartbeats 4000000
/-! GlM: statements: the small syntax, the evaluator, the checker. -/
namespace Gl
open PySem L2

inductive LM0 where | pop | rev | clr
inductive Tg where | non | one (i : Nat) | many (is : List Nat)
inductive LM1 where | popI | ext
inductive S where
  | asg (i : Nat) (e : E)
  | upk (is : List Nat) (e : E)
  | aug (i : Nat) (op : Operator) (e : E)
  | app (i : Nat) (e : E)
  | put (i : Nat) (k e : E)
  /-- x.pop(), x.reverse(), x.clear() -/
  | lm0 (m : LM0) (i : Nat)
  /-- x.pop(e), x.extend(e) -/
  | lm1 (m : LM1) (i : Nat) (e : E)
  /-- x.insert(a, b) -/
  | ins (i : Nat) (a b : E)
  | ret (e : E)
  | iff (c : E) (a b : List S)
  | fr (i : Nat) (src : E) (body : List S)
  | frT (is : List Nat) (src : E) (body : List S)
  | frR (i : Nat) (lo : Option E) (hi : E) (body : List S)
  | whl (c : E) (body : List S)
  | exp (e : E)
  /-- raise C('..') -/
  | rse (c : Str)
  /-- try: body, except (as nm): for each clause what it catches, and its suite -/
  | tryE (nm : Option Nat) (body : List S) (tbls : List (List (Str × Bool))) (suites : List (List S))
  | fz (i : Nat)
  /-- ghost: slot i holds a node at a known address; s changes it in place -/
  | pn (i : Nat) (s : S)
  /-- a call to which slot i is handed as argument j, to be changed -/
  | cio (tg : Tg) (f : Nat) (es : List E) (j i : Nat)
  /-- the end of a def that was handed slot j -/
  | retP (e : E) (j : Nat)

/-- how a statement ends -/
inductive O where
  | nx (ρ : Env)
  | rt (t : T)
  | ex (c : Str) (ρ : Env)
  | no

def O.of {α : Type} (r : Rs α) (ρ : Env) (f : α → O) : O :=
  match r with
  | .ok a => f a
  | .ex c => .ex c ρ
  | .no => .no
def upkGo : List Nat → List PyData → Env → Option Env
  | [], [], ρ => some ρ
  | i :: is, d :: ds, ρ => upkGo is ds (ρ.set i (some (.imm d)))
  | _, _, _ => none
def upkT (is : List Nat) (t : T) (ρ : Env) : Option Env :=
  match t with
  | .imm (.tuple ds) => upkGo is ds ρ
  | _ => none
def forGo (f : PyData → Env → O) : List PyData → Env → O
  | [], ρ => .nx ρ
  | d :: ds, ρ => match f d ρ with
    | .nx ρ' => forGo f ds ρ'
    | o => o
def whGo (c : Env → Rs Bool) (b : Env → O) : Nat → Env → O
  | 0, _ => .no
  | n + 1, ρ => match c ρ with
    | .ok true => match b ρ with
      | .nx ρ' => whGo c b n ρ'
      | o => o
    | .ok false => .nx ρ
    | .ex x => .ex x ρ
    | .no => .no
def appT (t x : T) : Option T :=
  match t with
  | .node .lst ts => match x.fr with
    | some x' => if ts.length < sizeLine then some (.node .lst (ts ++ [x'])) else none
    | none => none
  | _ => none
def LM0.nm : LM0 → Str
  | .pop => "pop" | .rev => "reverse" | .clr => "clear"
def LM1.nm : LM1 → Str
  | .popI => "pop" | .ext => "extend"
def lm0T : LM0 → List PyData → Option (List PyData)
  | .pop, ds => if ds = [] then none else some ds.dropLast
  | .rev, ds => some ds.reverse
  | .clr, _ => some []
def lstOf : T → Option (List PyData)
  | .imm (.list zs) => some zs
  | .node .lst ts => imms ts
  | _ => none
def lm1T : LM1 → List PyData → T → Option (List PyData)
  | .popI, ds, x => match x with
    | .imm (.int k) => if 0 ≤ k ∧ k < ds.length ∧ k.natAbs < 4611686018427387904 then some (ds.eraseIdx k.toNat) else none
    | _ => none
  | .ext, ds, x => match lstOf x with
    | some zs => if ds.length + zs.length ≤ sizeLine then some (ds ++ zs) else none
    | none => none
def insT (ds : List PyData) (a b : T) : Option (List PyData) :=
  match a, b with
  | .imm (.int k), .imm d => if 0 ≤ k ∧ k.natAbs < 4611686018427387904 ∧ ds.length < sizeLine then some (ds.take k.toNat ++ [d] ++ ds.drop k.toNat) else none
  | _, _ => none
/-- the list in a slot, of plain items -/
def lmG (o : Option (Option T)) (k : List PyData → O) : O :=
  match o with
  | some (some (.node .lst ts)) => match imms ts with
    | some ds => k ds
    | none => .no
  | _ => .no
def lmS (i : Nat) (ρ : Env) : Option (List PyData) → O
  | some ds => .nx (ρ.set i (some (T.L ds)))
  | none => .no
/-- a dict's keys and values behind a store: where the key is there, the value is plain -/
def putD {κ : Type} [DecidableEq κ] (ks : List κ) (ts : List T) (k : κ) (x : T) : Option (List κ × List T) :=
  if ks.length = ts.length ∧ ts.length < sizeLine then
    if k ∈ ks then (match x with
      | .imm d => some (ks, List.zipWith (fun k' t => if k' = k then .imm d else t) ks ts)
      | _ => none)
    else some (ks ++ [k], ts ++ [x])
  else none
def putT (t : T) (k : PyData) (x : T) : Option T :=
  match t with
  | .node .lst ts => match k with
    | .int i => match ixD ts.length i with
      | some j => some (.node .lst (ts.set j x))
      | none => none
    | _ => none
  | .node (.dK ks) ts => match toKey k with
    | some a => match putD ks ts a x with
      | some (ks', ts') => some (.node (.dK ks') ts')
      | none => none
    | none => none
  | .node (.dT ks) ts => match k with
    | .tuple ds => match toKeys ds with
      | some a => match putD ks ts a x with
        | some (ks', ts') => some (.node (.dT ks') ts')
        | none => none
      | none => none
    | _ => none
  | _ => none
def augT (op : Operator) (a b : T) : Option T :=
  match op, a, b with
  | .Add, .imm (.int i), .imm (.int j) => some (.imm (.int (i + j)))
  | .Sub, .imm (.int i), .imm (.int j) => some (.imm (.int (i - j)))
  | _, _, _ => none
def retR (call : Nat → List T → Rs T) (e : E) (ρ : Env) : Rs T :=
  match e with
  | .var i => match ρ[i]? with
    | some (some t) => .ok t
    | _ => .no
  | e => evX call false e ρ

/-- in an except suite: no calls; the refusal at a of the class c is the one that is held -/
def heldC (a : Nat) (c : Str) : Nat → List T → Rs T := fun f ts => if f = HX then (match ts with | [.exc a' c'] => if a' = a ∧ c' = c then .ok (.imm .none) else .no | _ => .no) else .no
open Classical in
/-- the same at every address -/
noncomputable def allA (f : Nat → O) : O := if ∀ a, f a = f 0 then f 0 else .no
def setN (nm : Option Nat) (t : Option T) (ρ : Env) : Env := match nm with | some i => ρ.set i t | none => ρ
def endO (nm : Option Nat) : O → O
  | .nx ρ => .nx (setN nm none ρ)
  | .rt t => .rt t
  | _ => .no
/-- a call with one argument that is handed over -/
def callIO (call : Nat → List T → Rs T) (f : Nat) (ts : List T) (j : Nat) (p : T) : Rs T := if (ts.set j (.imm .none)).all T.plain then call f (ts.set j p) else .no
def tgO : Tg → T → Env → O
  | .non, _, ρ => .nx ρ
  | .one x, t, ρ => .nx (ρ.set x (some t))
  | .many is, t, ρ => match upkT is t ρ with | some ρ' => .nx ρ' | none => .no
def ioO (tg : Tg) (ρ : Env) (i : Nat) (w : Kind → List T → T) (a : Nat) (r : Rs T) : O :=
  match r with
  | .ok (.io t (.pin a' k ts)) => if a' = a then tgO tg t (ρ.set i (some (w k ts))) else .no
  | .ex c => .ex c (ρ.set i none)
  | _ => .no
section
variable (call : Nat → List T → Rs T) (fl : Nat)
def evT (c : E) (ρ : Env) : Rs Bool := (evX call true c ρ).bind fun t => .of (truT t)
end
mutual
noncomputable def evS (call : Nat → List T → Rs T) (fl : Nat) : S → Env → O
  | .asg i e, ρ => .of (evX call false e ρ) ρ fun t => .nx (ρ.set i (some t))
  | .upk is e, ρ => .of (evX call true e ρ) ρ fun t => match upkT is t ρ with | some ρ' => .nx ρ' | none => .no
  | .aug i op e, ρ => match ρ[i]? with
    | some (some a) => .of (evX call true e ρ) ρ fun b => match augT op a b with | some t => .nx (ρ.set i (some t)) | none => .no
    | _ => .no
  | .app i e, ρ => match ρ[i]? with
    | some (some (.node .lst ts)) => .of (evX call false e ρ) ρ fun x => match appT (.node .lst ts) x with | some t => .nx (ρ.set i (some t)) | none => .no
    | _ => .no
  | .put i k e, ρ => match ρ[i]? with
    | some (some a) => .of (evX call false e ρ) ρ fun x => .of (evX call true k ρ) ρ fun k => match k with
      | .imm d => match putT a d x with | some t => .nx (ρ.set i (some t)) | none => .no
      | _ => .no
    | _ => .no
  | .lm0 m i, ρ => lmG ρ[i]? fun ds => lmS i ρ (lm0T m ds)
  | .lm1 m i e, ρ => lmG ρ[i]? fun ds => .of (evX call true e ρ) ρ fun x => lmS i ρ (lm1T m ds x)
  | .ins i a b, ρ => lmG ρ[i]? fun ds => .of (evX call true a ρ) ρ fun x => .of (evX call true b ρ) ρ fun y => lmS i ρ (insT ds x y)
  | .ret e, ρ => .of (retR call e ρ) ρ .rt
  | .iff c a b, ρ => .of (evT call c ρ) ρ fun t => match t with | true => evSs call fl a ρ | false => evSs call fl b ρ
  | .fr i src body, ρ => .of (srcR call src ρ) ρ fun p => forGo (fun d ρ => evSs call fl body (ρ.set i (some (.imm d)))) p.2 ρ
  | .frT is src body, ρ => .of (srcR call src ρ) ρ fun p => forGo (fun d ρ => match upkT is (.imm d) ρ with | some ρ' => evSs call fl body ρ' | none => .no) p.2 ρ
  | .frR i lo hi body, ρ => .of (rngR call lo hi ρ) ρ fun p => forGo (fun d ρ => evSs call fl body (ρ.set i (some (.imm d)))) p.2 ρ
  | .whl c body, ρ => whGo (evT call c) (evSs call fl body) fl ρ
  | .exp e, ρ => .of (evX call true e ρ) ρ fun _ => .nx ρ
  | .fz i, ρ => match ρ[i]? with
    | some (some t) => match t.fr with | some t' => .nx (ρ.set i (some t')) | none => .no
    | _ => .no
  | .rse c, ρ => .ex c ρ
  | .pn i s, ρ => match ρ[i]? with
    | some (some (.pin a k ts)) => (match evS call fl s (ρ.set i (some (.node k ts))) with
      | .nx ρ' => (match ρ'[i]? with
        | some (some (.node k' ts')) => .nx (ρ'.set i (some (.pin a k' ts')))
        | _ => .no)
      | .ex c ρ' => .ex c (ρ'.set i none)
      | _ => .no)
    | _ => .no
  | .cio tg f es j i, ρ => .of (evAs call es ρ) ρ fun xs => match ρ[i]? with
    | some (some (.pin a k ts)) => ioO tg ρ i (fun k ts => .pin a k ts) a (callIO call f xs j (.pin a k ts))
    | some (some (.node k ts)) => allA fun a => ioO tg ρ i .node a (callIO call f xs j (.pin a k ts))
    | _ => .no
  | .retP e j, ρ => .of (evX call false e ρ) ρ fun t => match ρ[j]? with
    | some (some (.pin a k ts)) => if t.isV then .rt (.io t (.pin a k ts)) else .no
    | _ => .no
  | .tryE nm body tbls suites, ρ => match evSs call fl body ρ with
    | .ex c ρ' => evHs fl nm c suites tbls ρ'
    | o => o
noncomputable def evHs (fl : Nat) (nm : Option Nat) (c : Str) : List (List S) → List (List (Str × Bool)) → Env → O
  | [], [], ρ => .ex c ρ
  | s :: ss, t :: ts, ρ => match look t c with
    | some true => allA fun a => endO nm (evSs (heldC a c) fl s (setN nm (some (.exc a c)) ρ))
    | some false => evHs fl nm c ss ts ρ
    | none => .no
  | _, _, _ => .no
noncomputable def evSs (call : Nat → List T → Rs T) (fl : Nat) : List S → Env → O
  | [], ρ => .nx ρ
  | s :: ss, ρ => match evS call fl s ρ with
    | .nx ρ' => evSs call fl ss ρ'
    | o => o
end

/-! ### the checker -/
def nmsB (N : List Str) (sc : Scope) : List Nat → List Expr → Bool
  | [], [] => true
  | i :: is, .Name x _ :: es => decide (N[i]? = some x) && locB sc x && nmsB N sc is es
  | _, _ => false
/-- no swap at name = e -/
def swB (sc : Scope) (y : Str) (py : Pos) (l : Nat) : Expr → Bool
  | .ListComp _ _ scope pos => (match sc.kind with | .function => true | _ => false) && (match sc.names.lookup y with | some .local => true | _ => false) && (py.line == pos.line) && !(scope.names.any fun (n, k) => n == y && (k == .local || k == .cell))
  | _ => false
def celB (sc : Scope) (x : Str) : Bool := match sc.names.lookup x with | some .cell => true | _ => false
def noTup : Expr → Bool
  | .Tuple .. => false
  | _ => true
def tgB (N : List Str) (sc : Scope) (i : Nat) : Expr → Bool
  | .Name x _ => decide (N[i]? = some x) && locB sc x
  | _ => false
def tgsB (N : List Str) (sc : Scope) (is : List Nat) : Expr → Bool
  | .Tuple es _ _ => nmsB N sc is es
  | _ => false
def nmB (N : List Str) (sc : Scope) : Option Nat → Option Str → Bool
  | none, none => true
  | some i, some n => decide (N[i]? = some n) && lclB sc n
  | _, _ => false
/-- a statement that sets no name -/
def inPl : S → Bool
  | .app .. => true
  | .put .. => true
  | .lm0 .. => true
  | .lm1 .. => true
  | .ins .. => true
  | _ => false
def varAt (es : List E) (j i : Nat) : Bool := match es[j]? with | some (.var i') => decide (i' = i) | _ => false
def ioB (N : List Str) (sc : Scope) : Tg → Expr → Bool
  | .one x, t => tgB N sc x t
  | .many is, t => tgsB N sc is t
  | .non, _ => false
mutual
def mS (mx : Mx) (N : List Str) (sc : Scope) : S → Stmt → Bool
  | .asg i e, .Assign ts v pos => match ts with
    | [.Name x p] => decide (N[i]? = some x) && locB sc x && mE mx N sc e v && (noLc v || celB sc x || swB sc x p pos.line v)
    | _ => false
  | .upk is e, .Assign ts v pos => match ts with
    | [.Tuple es _ _] => !mx.hot && nmsB N sc is es && mE mx N sc e v && noLc v && noTup v
    | _ => false
  | .aug i op e, .AugAssign t op' v _ => match t with
    | .Name x _ => decide (op = op') && decide (N[i]? = some x) && locB sc x && mE mx N sc e v
    | _ => false
  | .app i e, .Expr v _ => match v with
    | .Call (.Attribute (.Name x xp) m ap) [a] [] cp => decide (m = "append") && decide (N[i]? = some x) && visB sc x && okN x && (ap.endLine == cp.line) && mE mx N sc e a
    | _ => false
  | .put i k e, .Assign ts v _ => match ts with
    | [.Subscript (.Name x _) k' _] => decide (N[i]? = some x) && visB sc x && okN x && mE mx N sc k k' && mE mx N sc e v && noLc v
    | _ => false
  | .lm0 m i, .Expr v _ => match v with
    | .Call (.Attribute (.Name x xp) n ap) [] [] cp => decide (n = m.nm) && decide (N[i]? = some x) && visB sc x && okN x && (ap.endLine == cp.line)
    | _ => false
  | .lm1 m i e, .Expr v _ => match v with
    | .Call (.Attribute (.Name x xp) n ap) [a] [] cp => decide (n = m.nm) && decide (N[i]? = some x) && visB sc x && okN x && (ap.endLine == cp.line) && mE mx N sc e a
    | _ => false
  | .ins i e e2, .Expr v _ => match v with
    | .Call (.Attribute (.Name x xp) n ap) [a, b] [] cp => decide (n = "insert") && decide (N[i]? = some x) && visB sc x && okN x && (ap.endLine == cp.line) && (mE mx N sc e a && mE mx N sc e2 b)
    | _ => false
  | .ret e, .Return v _ => match v with
    | some v => mE mx N sc e v
    | none => false
  | .iff c a b, .If c' a' b' _ => mE mx N sc c c' && mSs mx N sc a a' && mSs mx N sc b b'
  | .fr i src body, .For tg it body' els _ => !mx.hot && els.isEmpty && tgB N sc i tg && mE mx N sc src it && mSs mx N sc body body'
  | .frT is src body, .For tg it body' els _ => !mx.hot && els.isEmpty && tgsB N sc is tg && mE mx N sc src it && mSs mx N sc body body'
  | .frR i none hi body, .For tg (.Call (.Name r _) [hi'] [] _) body' els _ => !mx.hot && els.isEmpty && tgB N sc i tg && (decide (r = "range") && glB sc r && mE mx N sc hi hi') && mSs mx N sc body body'
  | .frR i (some lo) hi body, .For tg (.Call (.Name r _) [lo', hi'] [] _) body' els _ => !mx.hot && els.isEmpty && tgB N sc i tg && (decide (r = "range") && glB sc r && (mE mx N sc lo lo' && mE mx N sc hi hi')) && mSs mx N sc body body'
  | .whl c body, .While c' body' els _ => !mx.hot && els.isEmpty && mE mx N sc c c' && mSs mx N sc body body'
  | .exp e, .Expr v _ => mE mx N sc e v && noLc v
  | .rse c, .Raise e none _ => match e with
    | some (.Call (.Name x _) [.Constant (.str _) _ _] [] _) => !mx.hot && decide (c = x) && glB sc x && okN x && decide (x ∈ mx.cls)
    | _ => false
  | .pn i s, st => inPl s && mS mx N sc s st
  | .cio tg f es j i, .Assign ts v _ => match ts with
    | [t] => ioB N sc tg t && mE mx N sc (.call f es) v && varAt es j i && noLc v && noTup v
    | _ => false
  | .cio .non f es j i, .Expr v _ => mE mx N sc (.call f es) v && varAt es j i && noLc v
  | .retP e _, .Return v _ => match v with
    | some v => mE mx N sc e v
    | none => false
  | .tryE nm body tbls suites, .Try b hs [] [] _ => !mx.hot && mSs mx N sc body b && mHs mx N sc nm suites tbls hs && (nm.isNone || decide (hs.length = 1)) && !hs.isEmpty
  | _, _ => false
def mHs (mx : Mx) (N : List Str) (sc : Scope) (nm : Option Nat) : List (List S) → List (List (Str × Bool)) → List ExceptHandler → Bool
  | [], [], [] => true
  | s :: ss, t :: ts, .ExceptHandler (some (.Name x _)) n suite _ :: hs => glB sc x && okN x && nmB N sc nm n && !t.isEmpty && t.all (fun p => decide ((p.1, x, p.2) ∈ mx.exm) && decide (p.1 ∈ mx.cls)) && !suite.isEmpty && mSs { mx with hot := true } N sc s suite && mHs mx N sc nm ss ts hs
  | _, _, _ => false
def mSs (mx : Mx) (N : List Str) (sc : Scope) : List S → List Stmt → Bool
  | [], [] => true
  | .fz _ :: ss, sts => mSs mx N sc ss sts
  | s :: ss, st :: sts => mS mx N sc s st && mSs mx N sc ss sts
  | _, _ => false
end

/-! ### readings -/
section
variable (K : PySem.W.Frag) (mg : Str → Option Value) (W : WX)
def OutP (D : Ends) (G0 H0 : Hp) (τ : Env) (σt : St) : O → Prop
  | .nx ρ' => ∀ σ' H', Ro K mg G0 H0 ρ' σ' τ σt H' → D.nx σ' H'
  | .rt t => ∀ v H', RelR K mg G0 H0 t v H' → D.rt v H'
  | .ex c ρ' => ∀ σ' H' C, Ro K mg G0 H0 ρ' σ' τ σt H' → mg c = some (.ref C) → W (.ref C) none σ' H'
  | .no => False
/-- .. where the names stay as they are -/
def OutQ (D : Ends) (G0 H0 : Hp) (σ : St) (τ : Env) (σt : St) : O → Prop
  | .nx ρ' => ∀ H', Ro K mg G0 H0 ρ' σ τ σt H' → D.nx σ H'
  | .rt t => ∀ v H', RelR K mg G0 H0 t v H' → D.rt v H'
  | .ex c ρ' => ∀ σ' H' C, Ro K mg G0 H0 ρ' σ' τ σt H' → mg c = some (.ref C) → W (.ref C) none σ' H'
  | .no => False
def tSq (call : Nat → List T → Rs T) (fl : Nat) (s : S) : TS := fun D σ H => ∃ G0 H0 ρ τ σt, Ro K mg G0 H0 ρ σ τ σt H ∧ OutQ K mg W D G0 H0 σ τ σt (evS call fl s ρ)
def tS (call : Nat → List T → Rs T) (fl : Nat) (ss : List S) : TS := fun D σ H => ∃ G0 H0 ρ τ σt, Ro K mg G0 H0 ρ σ τ σt H ∧ OutP K mg W D G0 H0 τ σt (evSs call fl ss ρ)
def tS1 (call : Nat → List T → Rs T) (fl : Nat) (s : S) : TS := fun D σ H => ∃ G0 H0 ρ τ σt, Ro K mg G0 H0 ρ σ τ σt H ∧ OutP K mg W D G0 H0 τ σt (evS call fl s ρ)
end
structure OkS (mx : Mx) (call : Nat → List T → Rs T) (k : Nat) (X : Cx) : Prop where
  ok : OkX mx call k X
  pass : mx.hot = false → PassesOwn (model X.prog X.w) X.A X.env X.xe
  stk : X.stack = X.env :: X.outer
  frame : X.env.frame = some X.env.locals
  fnT : ∀ x, X.fn x = true
def SP1 (mx : Mx) (call : Nat → List T → Rs T) (fl k : Nat) (s : S) : Prop := ∀ (X : Cx) (W : WX) (st : Stmt), OkS mx call k X → Takes X W → mS mx X.N X.env.scope s st = true → PS X st (tS1 X.K X.mg W call fl s)
def SPq (mx : Mx) (call : Nat → List T → Rs T) (fl k : Nat) (s : S) : Prop := ∀ (X : Cx) (W : WX) (st : Stmt), OkS mx call k X → Takes X W → mS mx X.N X.env.scope s st = true → PS X st (tSq X.K X.mg W call fl s)
def SPs (mx : Mx) (call : Nat → List T → Rs T) (fl k : Nat) (ss : List S) : Prop := ∀ (X : Cx) (W : WX) (sts : List Stmt), OkS mx call k X → Takes X W → mSs mx X.N X.env.scope ss sts = true → PSs X sts (tS X.K X.mg W call fl ss)
theorem psImp {X : Cx} {e : Stmt} {t t' : TS} (h : PS X e t) (i : ∀ D σ H, t' D σ H → t D σ H) : PS X e t' := ⟨fun pins s σ H D I q => h.run pins s σ H D I (i _ _ _ q)⟩
theorem pssImp {X : Cx} {e : List Stmt} {t t' : TS} (h : PSs X e t) (i : ∀ D σ H, t' D σ H → t D σ H) : PSs X e t' := ⟨fun pins s σ H D I q => h.run pins s σ H D I (i _ _ _ q)⟩
theorem ps_or {X : Cx} {e : Stmt} {a b : TS} (ha : PS X e a) (hb : PS X e b) : PS X e (fun D σ H => a D σ H ∨ b D σ H) := ⟨fun pins s σ H D I h => h.elim (ha.run pins s σ H D I) (hb.run pins s σ H D I)⟩
theorem SPq.sp {mx : Mx} {call : Nat → List T → Rs T} {fl k : Nat} {s : S} (h : SPq mx call fl k s) : SP1 mx call fl k s := fun X W st ok tk e => psImp (h X W st ok tk e) fun D σ H ⟨G0, H0, ρ, τ, σt, R, m⟩ => ⟨G0, H0, ρ, τ, σt, R, by
  cases ho : evS call fl s ρ with
  | nx ρ' => rw [ho] at m; exact fun H' R' => m σ H' R'
  | rt t => rw [ho] at m; exact m
  | ex c ρ' => rw [ho] at m; exact m
  | no => rw [ho] at m; exact m⟩
theorem O.rsQ {K : PySem.W.Frag} {mg : Str → Option Value} {W : WX} {D : Ends} {G0 H0 H : Hp} {ρ τ : Env} {σ σt : St} {α : Type} {r : Rs α} {f : α → O} (h : OutQ K mg W D G0 H0 σ τ σt (O.of r ρ f)) :
    RsP r (fun a => OutQ K mg W D G0 H0 σ τ σt (f a)) (PX K mg W G0 H0 ρ σ τ σt H) := by
  cases r with
  | ok a => exact h
  | ex c => exact fun H' C R s e => h σ H' C R e
  | no => exact h
/-- from an expression's reading to a statement's: the outcome -/
theorem O.rsP {K : PySem.W.Frag} {mg : Str → Option Value} {W : WX} {D : Ends} {G0 H0 H : Hp} {ρ τ : Env} {σ σt : St} {α : Type} {r : Rs α} {f : α → O} (h : OutP K mg W D G0 H0 τ σt (O.of r ρ f)) :
    RsP r (fun a => OutP K mg W D G0 H0 τ σt (f a)) (PX K mg W G0 H0 ρ σ τ σt H) := by
  cases r with
  | ok a => exact h
  | ex c => exact fun H' C R s e => h σ H' C R e
  | no => exact h
end Gl

set_option Elab.async false
set_option linter.all false
set_option maxRecDepth 100000
set_option maxHeartbeats 4000000
/-! GlN: the checker of statements is right. -/
namespace Gl
open PySem L2
variable {mx : Mx} {call : Nat → List T → Rs T} {fl k : Nat}

section
variable {K : PySem.W.Frag} {mg : Str → Option Value} {W : WX} {G0 H0 G H H' : Hp} {F : Nat → List Addr} {ρ ρ' τ τ' : Env} {σ σ' σt σt' : St} {t t' : T} {v v' : V}
theorem Ro.back (R : Ro K mg G0 H0 ρ σ τ' σt' H) (l2 : τ.length = σt.length) (p : τ <+: τ') (q : σt <+: σt') : Ro K mg G0 H0 ρ σ τ σt H := ⟨R.l1, l2, R.rel.pre R.l1 l2 p q⟩
theorem OutP.later {D : Ends} {o : O} (h : OutP K mg W D G0 H0 τ σt o) (l2 : τ.length = σt.length) (p : τ <+: τ') (q : σt <+: σt') : OutP K mg W D G0 H0 τ' σt' o := by
  cases o with
  | nx ρ' => exact fun σ' H' R => h σ' H' (R.back l2 p q)
  | rt t => exact h
  | ex c ρ' => exact fun σ' H' C R e => h σ' H' C (R.back l2 p q) e
  | no => exact h
theorem set_at {α : Type} {a : List α} {i : Nat} {c : α} {X : List α} (h : i < a.length) : (a.set i c ++ X)[i]? = some c := by
  rw [List.getElem?_append_left (by simpa using h), List.getElem?_set_self h]
theorem set_un {α : Type} {a : List α} {i l : Nat} {c : α} {X : List α} (h : l ≠ i) : (a.set i c ++ X)[l]? = (a ++ X)[l]? := by
  by_cases hl : l < a.length
  · rw [List.getElem?_append_left (by simpa using hl), List.getElem?_append_left hl, List.getElem?_set_ne (fun z => h z.symm)]
  · rw [List.getElem?_append_right (by simpa using hl), List.getElem?_append_right (by omega), List.length_set]
/-- the last temporary put into a slot -/
theorem Ro.put (R : Ro K mg G0 H0 ρ σ (τ ++ [some t]) (σt ++ [some v]) H) (l2 : τ.length = σt.length) (i : Nat) : Ro K mg G0 H0 (ρ.set i (some t)) (σ.set i (some v)) τ σt H := by
  have l1 := R.l1
  refine ⟨by simp [l1], l2, ?_⟩
  by_cases hi : i < ρ.length
  rotate_left
  · rw [List.set_eq_of_length_le (by omega), List.set_eq_of_length_le (by omega)]
    exact R.rel.pre l1 l2 (List.prefix_append ..) (List.prefix_append ..)
  refine R.rel.pick (fun l => if l = i then ρ.length + τ.length else l) (fun l u e => ?_) fun l l' u u' e e' z => ?_
  · by_cases hl : l = i
    · subst hl
      rw [set_at hi] at e
      cases e
      rw [if_pos rfl, set_at (by omega)]
      have a1 : (ρ ++ (τ ++ [some t]))[ρ.length + τ.length + 0]? = some (some t) := getC
      have a2 : (σ ++ (σt ++ [some v]))[ρ.length + τ.length + 0]? = some (some v) := by rw [l1, l2]; exact getC
      exact ⟨a1, a2.symm⟩
    · rw [if_neg hl, set_un hl]
      rw [set_un hl] at e
      refine ⟨pre_get e, ?_⟩
      have := (List.getElem?_eq_some_iff.mp e).1
      exact pre_lt (by simp only [List.length_append] at this ⊢; omega)
  · have b1 : ∀ {l : Nat} {u : T}, (ρ.set i (some t) ++ τ)[l]? = some (some u) → l < ρ.length + τ.length := fun e => by
      have := (List.getElem?_eq_some_iff.mp e).1
      simpa using this
    have h1 := b1 e
    have h2 := b1 e'
    by_cases a1 : l = i <;> by_cases a2 : l' = i <;> simp only [a1, a2, if_true, if_false] at z ⊢ <;> omega
theorem Ro.freeze {i : Nat} (R : Ro K mg G0 H0 ρ σ τ σt H) (e : ρ[i]? = some (some t)) (h : t.fr = some t') : Ro K mg G0 H0 (ρ.set i (some t')) σ τ σt H := by
  obtain ⟨G, F, r⟩ := R.rel
  have hi := (List.getElem?_eq_some_iff.mp e).1
  have := r.freeze (i := i) (by rw [List.getElem?_append_left hi]; exact e) h
  rw [List.set_append_left _ _ hi] at this
  exact ⟨by rw [List.length_set]; exact R.l1, R.l2, this⟩
end

/-! ### lists of statements -/
theorem sps_nil : SPs mx call fl k [] := fun X W sts ok tk h => by
  cases sts with
  | nil => exact pssImp pss_nil fun D σ H ⟨G0, H0, ρ, τ, σt, R, m⟩ => by simp only [evSs] at m; exact m σ H R
  | cons => exact Bool.noConfusion h
theorem sps_fz {i : Nat} {ss : List S} (hs : SPs mx call fl k ss) : SPs mx call fl k (.fz i :: ss) := fun X W sts ok tk h => by
  have h : mSs mx X.N X.env.scope ss sts = true := by
    cases sts <;> exact h
  refine pssImp (hs X W sts ok tk h) fun D σ H ⟨G0, H0, ρ, τ, σt, R, m⟩ => ?_
  simp only [evSs, evS] at m
  cases e : ρ[i]? with
  | none => rw [e] at m; exact m.elim
  | some o =>
    cases o with
    | none => rw [e] at m; exact m.elim
    | some t =>
      rw [e] at m
      dsimp only at m
      cases hf : t.fr with
      | none => rw [hf] at m; exact m.elim
      | some t' => rw [hf] at m; exact ⟨G0, H0, _, τ, σt, R.freeze e hf, m⟩
def notFz : S → Bool
  | .fz _ => false
  | _ => true
theorem sps_cons {s : S} {ss : List S} (hz : notFz s = true) (h1 : SP1 mx call fl k s) (hs : SPs mx call fl k ss) : SPs mx call fl k (s :: ss) := fun X W sts ok tk h => by
  cases sts with
  | nil => cases s <;> first | exact Bool.noConfusion h | exact Bool.noConfusion hz
  | cons st sts =>
    have h : (mS mx X.N X.env.scope s st && mSs mx X.N X.env.scope ss sts) = true := by
      cases s <;> first | exact h | exact Bool.noConfusion hz
    rw [Bool.and_eq_true] at h
    refine pssImp (pss_cons (h1 X W st ok tk h.1) (hs X W sts ok tk h.2)) fun D σ H ⟨G0, H0, ρ, τ, σt, R, m⟩ => ⟨G0, H0, ρ, τ, σt, R, ?_⟩
    simp only [evSs] at m
    cases e : evS call fl s ρ with
    | nx ρ' => rw [e] at m; exact fun σ' H' R' => ⟨G0, H0, ρ', τ, σt, R', m⟩
    | rt t => rw [e] at m; exact m
    | ex c ρ' => rw [e] at m; exact m
    | no => rw [e] at m; exact m.elim

theorem swaps_cel {e : Expr} {x : Str} {p : Pos} {l : Nat} {env : PySem.Env} (hp : pl e = true) (h : celB env.scope x = true) : swapsWith e (some (.Name x p)) l env = pure false := by
  have h : env.kindOf x = some .cell := by
    unfold celB at h
    split at h <;> first | assumption | cases h
  cases e with
  | ListComp elt gs scope pos =>
    unfold swapsWith
    simp only [h]
    have : (some NameKind.cell == some NameKind.local) = false := by decide
    simp only [this, Bool.and_false, Bool.false_and]
  | _ => first | rfl | cases hp
/-! ### assignments -/
theorem sp_asg {i : Nat} {e : E} : SP1 mx call fl k (.asg i e) := fun X W st ok tk h => by
  cases st with
  | Assign ts v pos =>
    match ts, h with
    | [.Name x p], h =>
      have h : (decide (X.N[i]? = some x) && locB X.env.scope x && mE mx X.N X.env.scope e v && (noLc v || celB X.env.scope x || swB X.env.scope x p pos.line v)) = true := h
      rw [Bool.and_eq_true, Bool.and_eq_true, Bool.and_eq_true, Bool.or_eq_true, Bool.or_eq_true, decide_eq_true_eq] at h
      obtain ⟨⟨⟨h1, h2⟩, h3⟩, h4⟩ := h
      rcases h4 with h4 | h4
      · refine psImp (ps_set ok.ok.nd h1 (locB_ok h2) (se_all e X W v ok.ok tk h3).1 (h4.elim (swaps_pl (pl_of h3)) (swaps_cel (pl_of h3))) (.inl (ok.fnT x))) fun D σ H ⟨G0, H0, ρ, τ, σt, R, m⟩ => ?_
        simp only [evS] at m
        exact ⟨G0, H0, ρ, τ, σt, R, (O.rsP m).imp (fun t _ q => fun v H1 R1 s => q _ H1 (R1.put R.l2 i)) fun _ q => q⟩
      · cases v with
        | ListComp elt' gs scope lpos =>
          have h4 : ((match X.env.scope.kind with | .function => true | _ => false) && (match X.env.scope.names.lookup x with | some .local => true | _ => false) && (p.line == lpos.line) && !(scope.names.any fun (n, k) => n == x && (k == .local || k == .cell))) = true := h4
          rw [Bool.and_eq_true, Bool.and_eq_true, Bool.and_eq_true, Bool.not_eq_true'] at h4
          obtain ⟨⟨⟨k1, k2⟩, k3⟩, k4⟩ := h4
          have hl : X.env.scope.names.lookup x = some .local := by split at k2 <;> first | assumption | cases k2
          have hk : X.env.scope.kind = .function := by split at k1 <;> first | assumption | cases k1
          have fin : ∀ (r : Env → Rs (T × List PyData)) (j : Nat) (elt : E) (c : Option E) (y : Str) (yp : Pos) (iter : Expr) (ifs : List Expr), mx.hot = false → X.N[j]? = some y → blkC X.N X.env.scope scope [(y, j)] = true → lclB (relS scope X.env.scope) y = true →
              mE mx X.N (relS scope X.env.scope) elt elt' = true → mC mx X.N (relS scope X.env.scope) c ifs = true → PI X (.Name y yp) iter (iW X.K X.mg W r) → pl iter = true → gs = [⟨.Name y yp, iter, ifs, 0⟩] → (∀ ρ, evX call false e ρ = lcAll r call j elt c ρ) →
              PS X (.Assign [.Name x p] (.ListComp elt' gs scope lpos) pos) (tS1 X.K X.mg W call fl (.asg i e)) := fun r j elt c y yp iter ifs a0 a1 a2 a3 a4 a5 a6 a7 a8 a9 => by
            subst a8
            have P := fun s H C cl fp => lc_parts (W := W) (xp := yp) ok.ok a0 a1 a3 (se_all elt) (so_all c) a4 a5 s H C cl fp
            refine psImp (ps_setLc (own := [(y, j)]) (ok.ok.calm a0) ok.ok.nd h1 hl (sw_true hk hl k3 k4) a6 (blkOk_by a2) (fun s H C cl fp => (P s H C cl fp).1) (fun s H C cl fp => (P s H C cl fp).2.1) (fun s H C cl fp => (P s H C cl fp).2.2) (fold_pl a7)) fun D σ H ⟨G0, H0, ρ, τ, σt, R, m⟩ => ?_
            simp only [evS, a9] at m
            exact tLc_of R ((O.rsP m).imp (fun t _ q => fun v H1 R1 s => q _ H1 (R1.put R.l2 i)) fun _ q => q)
          cases e with
          | lc j src elt c =>
            match gs, h3, fin with
            | [⟨.Name y yp, src', ifs, 0⟩], h3, fin =>
              have h3 : (!mx.hot && decide (X.N[j]? = some y) && blkC X.N X.env.scope scope [(y, j)] && lclB (relS scope X.env.scope) y && mE mx X.N X.env.scope src src' && mE mx X.N (relS scope X.env.scope) elt elt' && mC mx X.N (relS scope X.env.scope) c ifs) = true := h3
              rw [Bool.and_eq_true, Bool.and_eq_true, Bool.and_eq_true, Bool.and_eq_true, Bool.and_eq_true, Bool.and_eq_true, decide_eq_true_eq, Bool.not_eq_true'] at h3
              obtain ⟨⟨⟨⟨⟨⟨b0, b1⟩, b2⟩, b3⟩, b4⟩, b5⟩, b6⟩ := h3
              exact fin _ _ _ _ _ _ _ _ b0 b1 b2 b3 b5 b6 (pi_src (se_all src X W src' ok.ok tk b4).1) (pl_of b4) rfl fun ρ => evX_lc
          | lcR j lo hi elt c =>
            cases lo with
            | none =>
              match gs, h3, fin with
              | [⟨.Name y yp, .Call (.Name r rp) [hi'] [] cp, ifs, 0⟩], h3, fin =>
                have h3 : (!mx.hot && decide (X.N[j]? = some y) && decide (r = "range") && glB X.env.scope r && blkC X.N X.env.scope scope [(y, j)] && lclB (relS scope X.env.scope) y && mE mx X.N X.env.scope hi hi' && mE mx X.N (relS scope X.env.scope) elt elt' && mC mx X.N (relS scope X.env.scope) c ifs) = true := h3
                rw [Bool.and_eq_true, Bool.and_eq_true, Bool.and_eq_true, Bool.and_eq_true, Bool.and_eq_true, Bool.and_eq_true, Bool.and_eq_true, Bool.and_eq_true, decide_eq_true_eq, decide_eq_true_eq, Bool.not_eq_true'] at h3
                obtain ⟨⟨⟨⟨⟨⟨⟨⟨b0, b1⟩, hr⟩, hg⟩, b2⟩, b3⟩, b4⟩, b5⟩, b6⟩ := h3
                exact fin _ _ _ _ _ _ _ _ b0 b1 b2 b3 b5 b6 (pi_rng1 ok.ok tk hr hg (se_all hi) b4) rfl rfl fun ρ => evX_lcR
            | some lo =>
              match gs, h3, fin with
              | [⟨.Name y yp, .Call (.Name r rp) [lo', hi'] [] cp, ifs, 0⟩], h3, fin =>
                have h3 : (!mx.hot && decide (X.N[j]? = some y) && decide (r = "range") && glB X.env.scope r && blkC X.N X.env.scope scope [(y, j)] && lclB (relS scope X.env.scope) y && (mE mx X.N X.env.scope lo lo' && mE mx X.N X.env.scope hi hi') && mE mx X.N (relS scope X.env.scope) elt elt' && mC mx X.N (relS scope X.env.scope) c ifs) = true := h3
                rw [Bool.and_eq_true, Bool.and_eq_true, Bool.and_eq_true, Bool.and_eq_true, Bool.and_eq_true, Bool.and_eq_true, Bool.and_eq_true, Bool.and_eq_true, decide_eq_true_eq, decide_eq_true_eq, Bool.not_eq_true'] at h3
                obtain ⟨⟨⟨⟨⟨⟨⟨⟨b0, b1⟩, hr⟩, hg⟩, b2⟩, b3⟩, b4⟩, b5⟩, b6⟩ := h3
                exact fin _ _ _ _ _ _ _ _ b0 b1 b2 b3 b5 b6 (pi_rng2 ok.ok tk hr hg (se_all lo) (se_all hi) b4) rfl rfl fun ρ => evX_lcR
          | _ => exact Bool.noConfusion h3
        | _ => exact Bool.noConfusion h4
  | _ => exact Bool.noConfusion h
end Gl

set_option Elab.async false
set_option linter.all false
set_option maxRecDepth 100000
set_option maxHeartbeats 4000000
/-! GlO: the other statements. -/
namespace Gl
open PySem L2
variable {mx : Mx} {call : Nat → List T → Rs T} {fl k : Nat}

section
variable {K : PySem.W.Frag} {mg : Str → Option Value} {W : WX} {G0 H0 G H H' : Hp} {F : Nat → List Addr} {ρ ρ' τ τ' : Env} {σ σ' σt σt' : St} {t t' x : T} {v v' y : V} {i : Nat}
/-! ### tests and ends -/
theorem sp_iff {c : E} {a b : List S} (ha : SPs mx call fl k a) (hb : SPs mx call fl k b) : SP1 mx call fl k (.iff c a b) := fun X W st ok tk h => by
  cases st with
  | If c' a' b' pos =>
    have h : (mE mx X.N X.env.scope c c' && mSs mx X.N X.env.scope a a' && mSs mx X.N X.env.scope b b') = true := h
    rw [Bool.and_eq_true, Bool.and_eq_true] at h
    refine psImp (ps_if (se_all c X W c' ok.ok tk h.1.1).2.2 (ha X W a' ok tk h.1.2) (hb X W b' ok tk h.2)) fun D σ H ⟨G0, H0, ρ, τ, σt, R, m⟩ => ?_
    simp only [evS] at m
    refine ⟨G0, H0, ρ, τ, σt, R, (O.rsP m).imp (fun d _ q => fun H1 τ1 σt1 R1 s p1 q1 => ?_) fun _ q => q⟩
    cases d with
    | true => rw [if_pos rfl]; exact ⟨G0, H0, ρ, τ, σt, R1.back R.l2 p1 q1, q⟩
    | false => rw [if_neg Bool.false_ne_true]; exact ⟨G0, H0, ρ, τ, σt, R1.back R.l2 p1 q1, q⟩
  | _ => exact Bool.noConfusion h
theorem sp_exp {e : E} : SP1 mx call fl k (.exp e) := fun X W st ok tk h => by
  cases st with
  | Expr v pos =>
    have h : (mE mx X.N X.env.scope e v && noLc v) = true := h
    rw [Bool.and_eq_true] at h
    refine psImp (ps_expr (se_all e X W v ok.ok tk h.1).2.1 (swaps_pl (pl_of h.1) h.2)) fun D σ H ⟨G0, H0, ρ, τ, σt, R, m⟩ => ?_
    simp only [evS] at m
    exact ⟨G0, H0, ρ, τ, σt, R, (O.rsP m).imp (fun d _ q => fun v H1 τ1 σt1 R1 s p1 q1 _ => q _ H1 (R1.back R.l2 p1 q1)) fun _ q => q⟩
  | _ => exact Bool.noConfusion h
theorem Rel.one {j : Nat} (R : Rel K mg G0 H0 ρ σ H) (e1 : ρ[j]? = some (some t)) (e2 : σ[j]? = some (some v)) : Rel K mg G0 H0 [some t] [some v] H := by
  refine R.pick (fun _ => j) (fun i u e => ?_) fun i i' u u' e e' _ => ?_
  · match i, e with
    | 0, e => cases e; exact ⟨e1, e2.symm⟩
  · match i, i', e, e' with
    | 0, 0, _, _ => rfl
theorem sp_ret {e : E} : SP1 mx call fl k (.ret e) := fun X W st ok tk h => by
  cases st with
  | Return ov pos =>
    cases ov with
    | none => exact Bool.noConfusion h
    | some v =>
      have h : mE mx X.N X.env.scope e v = true := h
      by_cases hv : ∃ i, e = .var i
      · obtain ⟨i, rfl⟩ := hv
        cases v with
        | Name x xp =>
          have h : (decide (X.N[i]? = some x) && visB X.env.scope x && okN x) = true := h
          simp only [Bool.and_eq_true, decide_eq_true_eq] at h
          obtain ⟨⟨h1, h2⟩, h3⟩ := h
          refine psImp (ps_ret (pe_var h1 (visB_ok h2) (okN_1 h3) (okN_2 h3))) fun D σ H ⟨G0, H0, ρ, τ, σt, R, m⟩ => ?_
          simp only [evS, retR] at m
          cases e : ρ[i]? with
          | none => rw [e] at m; exact m.elim
          | some o =>
            cases o with
            | none => rw [e] at m; exact m.elim
            | some t =>
              rw [e] at m
              obtain ⟨a1, v, a2, a3⟩ := R.get e
              exact ⟨v, a2, m v H (RelR.of (R.rel.one a1 a3))⟩
        | _ => exact Bool.noConfusion h
      · have hr : ∀ ρ, retR call e ρ = evX call false e ρ := fun ρ => by
          cases e <;> first | rfl | exact absurd ⟨_, rfl⟩ hv
        refine psImp (ps_ret (se_all e X W v ok.ok tk h).1) fun D σ H ⟨G0, H0, ρ, τ, σt, R, m⟩ => ?_
        simp only [evS, hr] at m
        refine ⟨G0, H0, ρ, τ, σt, R, (O.rsP m).imp (fun t _ q => fun v H1 R1 s => q v H1 ?_) fun _ q => q⟩
        have a1 : (ρ ++ (τ ++ [some t]))[ρ.length + τ.length + 0]? = some (some t) := getC
        have a2 : (σ ++ (σt ++ [some v]))[ρ.length + τ.length + 0]? = some (some v) := by rw [R.l1, R.l2]; exact getC
        exact RelR.of (R1.rel.one a1 a2)
  | _ => exact Bool.noConfusion h
theorem Rel.two {j l : Nat} (R : Rel K mg G0 H0 ρ σ H) (e1 : ρ[j]? = some (some t)) (e2 : σ[j]? = some (some v)) (e3 : ρ[l]? = some (some t')) (e4 : σ[l]? = some (some v')) (n : j ≠ l) : Rel K mg G0 H0 [some t, some t'] [some v, some v'] H := by
  refine R.pick (fun i => if i = 0 then j else l) (fun i u e => ?_) fun i i' u u' e e' z => ?_
  · match i, e with
    | 0, e => cases e; exact ⟨e1, e2.symm⟩
    | 1, e => cases e; exact ⟨e3, e4.symm⟩
  · match i, i', e, e', z with
    | 0, 0, _, _, _ => rfl
    | 1, 1, _, _, _ => rfl
    | 0, 1, _, _, z => exact absurd z n
    | 1, 0, _, _, z => exact absurd z.symm n
theorem sp_retP {e : E} {j : Nat} : SP1 mx call fl k (.retP e j) := fun X W st ok tk h => by
  cases st with
  | Return ov pos =>
    cases ov with
    | none => exact Bool.noConfusion h
    | some v =>
      have h : mE mx X.N X.env.scope e v = true := h
      refine psImp (ps_ret (se_all e X W v ok.ok tk h).1) fun D σ H ⟨G0, H0, ρ, τ, σt, R, m⟩ => ?_
      simp only [evS] at m
      refine ⟨G0, H0, ρ, τ, σt, R, (O.rsP m).imp (fun t _ q => fun v H1 R1 s => ?_) fun _ q => q⟩
      split at q
      · next a kd us hj =>
        split at q
        · next hv =>
          obtain ⟨b1, vb, b2, b3⟩ := R1.get hj
          have a1 : (ρ ++ (τ ++ [some t]))[ρ.length + τ.length + 0]? = some (some t) := getC
          have a2 : (σ ++ (σt ++ [some v]))[ρ.length + τ.length + 0]? = some (some v) := by rw [R.l1, R.l2]; exact getC
          have hjl := (List.getElem?_eq_some_iff.mp hj).1
          have ev : vb = .ref a := by
            obtain ⟨G, F, r⟩ := R1.rel
            obtain ⟨w, qw, o⟩ := r.own j _ b1
            rw [b3] at qw
            cases qw
            cases o
            rfl
          subst ev
          refine q v H1 ⟨fun u p z => ?_, fun z => nomatch z⟩
          cases z
          exact ⟨a, kd, us, rfl, R1.rel.two a1 a2 b1 b3 (by omega)⟩
        · exact q.elim
      · exact q.elim
  | _ => exact Bool.noConfusion h

/-! ### names as a target -/
theorem setR {d : PyData} {x : V} (R : RelG K mg G0 H0 G F (ρ ++ τ) (σ ++ σt) H) (l1 : ρ.length = σ.length) (l2 : τ.length = σt.length) (o : Rp K G d x) (i : Nat) : ∃ F', RelG K mg G0 H0 G F' (ρ.set i (some (.imm d)) ++ τ) (σ.set i (some x) ++ σt) H := by
  by_cases hi : i < ρ.length
  · obtain ⟨F', r⟩ := R.setI' o i (by simp [l1, l2])
    rw [List.set_append_left _ _ hi, List.set_append_left _ _ (by omega)] at r
    exact ⟨F', r⟩
  · rw [List.set_eq_of_length_le (by omega), List.set_eq_of_length_le (by omega)]
    exact ⟨F, R⟩
def gNames : List Nat → TGs
  | [] => gNil
  | i :: is => gCons (gName i) (gNames is)
theorem pgs_of {X : Cx} (hN : X.N.Nodup) (hf : ∀ x, X.fn x = true) : ∀ {is : List Nat} {es : List Expr}, nmsB X.N X.env.scope is es = true → PGs X es (gNames is) ∧ (assignEach es X.env).length = is.length ∧ (assignEach es X.env).findIdx? (·.1) = none
  | [], [], _ => ⟨pgs_nil, rfl, rfl⟩
  | [], _ :: _, h => Bool.noConfusion h
  | _ :: _, [], h => Bool.noConfusion h
  | i :: is, e :: es, h => by
    cases e with
    | Name x p =>
      have h : (decide (X.N[i]? = some x) && locB X.env.scope x && nmsB X.N X.env.scope is es) = true := h
      rw [Bool.and_eq_true, Bool.and_eq_true, decide_eq_true_eq] at h
      obtain ⟨⟨h1, h2⟩, h3⟩ := h
      obtain ⟨a1, a2, a3⟩ := pgs_of hN hf h3
      refine ⟨pgs_cons (pg_name hN h1 (locB_ok h2) (.inl (hf x))) a1 rfl, ?_, ?_⟩
      · show ((false, assign (.Name x p) X.env) :: assignEach es X.env).length = _
        rw [List.length_cons, a2]; rfl
      · show ((false, assign (.Name x p) X.env) :: assignEach es X.env).findIdx? (·.1) = none
        rw [List.findIdx?_cons, a3]; rfl
    | _ => exact Bool.noConfusion h
theorem upk_ok : ∀ {is : List Nat} {ds : List PyData} {vs : List V} {ρ : Env} {σ : St} {F : Nat → List Addr} {Q : St → Hp → Prop}, RelG K mg G0 H0 G F (ρ ++ τ) (σ ++ σt) H → ρ.length = σ.length → τ.length = σt.length → RpL K G ds vs → upkGo is ds ρ = some ρ' →
    (∀ σ', Ro K mg G0 H0 ρ' σ' τ σt H → Q σ' H) → gNames is vs σ H Q
  | [], [], vs, ρ, σ, F, Q, R, l1, l2, r, e, q => by cases r; cases e; exact ⟨rfl, q σ ⟨l1, l2, G, F, R⟩⟩
  | [], _ :: _, vs, ρ, σ, F, Q, R, l1, l2, r, e, q => by cases e
  | _ :: _, [], vs, ρ, σ, F, Q, R, l1, l2, r, e, q => by cases e
  | i :: is, d :: ds, vs, ρ, σ, F, Q, R, l1, l2, r, e, q => by
    cases r with
    | cons h r =>
      rename_i v vs
      obtain ⟨F', R'⟩ := setR R l1 l2 h i
      exact ⟨v, vs, rfl, upk_ok R' (by simp [l1]) l2 r e q⟩
theorem upkT_ok (R : Ro K mg G0 H0 ρ σ τ' σt' H) (l2 : τ.length = σt.length) (p : τ <+: τ') (q : σt <+: σt') (hh : Hld (ρ ++ τ') (σ ++ σt') H t v) {is : List Nat} (e : upkT is t ρ = some ρ') {Q : St → Hp → Prop} (z : ∀ σ', Ro K mg G0 H0 ρ' σ' τ σt H → Q σ' H) :
    gTup K is.length (gNames is) v σ H Q := by
  obtain ⟨G, F, r⟩ := R.rel
  obtain ⟨f, o⟩ := r.held hh
  cases t with
  | imm d =>
    cases d with
    | tuple ds =>
      have e : upkGo is ds ρ = some ρ' := e
      cases o with
      | imm rp =>
        cases rp with
        | tup hb rr =>
          rename_i a xs
          have hl : ∀ {is : List Nat} {ds : List PyData} {ρ ρ' : Env}, upkGo is ds ρ = some ρ' → ds.length = is.length := by
            intro is
            induction is with
            | nil => intro ds ρ ρ' e; cases ds with
              | nil => rfl
              | cons => cases e
            | cons i is ih => intro ds ρ ρ' e; cases ds with
              | nil => cases e
              | cons d ds => exact congrArg (· + 1) (ih (ds := ds) e)
          refine ⟨a, xs, rfl, SqT.of (r.gh _ _ hb), by rw [← rr.length, hl e], ?_⟩
          exact upk_ok r R.l1 R.l2 rr e fun σ' R' => z σ' (R'.back l2 p q)
    | _ => cases e
  | _ => cases e
theorem sole_pl {e t : Expr} {l : Nat} {env : PySem.Env} (h : pl e = true) (h2 : noLc e = true) : swapsWithSole [t] e l env = pure false := by
  unfold swapsWithSole
  exact swaps_pl h h2
theorem augT_inv {op : Operator} {a b t : T} (e : augT op a b = some t) : ∃ i j, a = .imm (.int i) ∧ b = .imm (.int j) ∧ ((op = .Add ∧ t = .imm (.int (i + j))) ∨ (op = .Sub ∧ t = .imm (.int (i - j)))) := by
  unfold augT at e
  split at e
  · cases e; exact ⟨_, _, rfl, rfl, .inl ⟨rfl, rfl⟩⟩
  · cases e; exact ⟨_, _, rfl, rfl, .inr ⟨rfl, rfl⟩⟩
  · cases e
theorem sp_upk {is : List Nat} {e : E} : SP1 mx call fl k (.upk is e) := fun X W st ok tk h => by
  cases st with
  | Assign ts v pos =>
    match ts, h with
    | [.Tuple es kk p], h =>
      have h : (!mx.hot && nmsB X.N X.env.scope is es && mE mx X.N X.env.scope e v && noLc v && noTup v) = true := h
      rw [Bool.and_eq_true, Bool.and_eq_true, Bool.and_eq_true, Bool.and_eq_true, Bool.not_eq_true'] at h
      obtain ⟨⟨⟨⟨h0, h1⟩, h2⟩, h3⟩, h4⟩ := h
      obtain ⟨a1, a2, a3⟩ := pgs_of ok.ok.nd ok.fnT h1
      refine psImp (ps_asg (se_all e X W v ok.ok tk h2).2.1 (pg_tup (ok.ok.calm h0) a1 a2 a3) (sole_pl (pl_of h2) h3) ?_ rfl) fun D σ H ⟨G0, H0, ρ, τ, σt, R, m⟩ => ?_
      · have hp := pl_of h2
        cases v <;> first | rfl | exact Bool.noConfusion hp | exact Bool.noConfusion h4
      simp only [evS] at m
      refine ⟨G0, H0, ρ, τ, σt, R, (O.rsP m).imp (fun t _ q => fun v H1 τ1 σt1 R1 s p1 q1 h1 => ?_) fun _ q => q⟩
      split at q
      · next ρ' hu => exact upkT_ok R1 R.l2 p1 q1 h1 hu fun σ' R' => q σ' H1 R'
      · exact q.elim
  | _ => exact Bool.noConfusion h
theorem sp_aug {i : Nat} {op : Operator} {e : E} : SP1 mx call fl k (.aug i op e) := fun X W st ok tk h => by
  cases st with
  | AugAssign tg op' v pos =>
    cases tg with
    | Name x p =>
      have h : (decide (op = op') && decide (X.N[i]? = some x) && locB X.env.scope x && mE mx X.N X.env.scope e v) = true := h
      rw [Bool.and_eq_true, Bool.and_eq_true, Bool.and_eq_true, decide_eq_true_eq, decide_eq_true_eq] at h
      obtain ⟨⟨⟨rfl, h1⟩, h2⟩, h3⟩ := h
      have go : ∀ {f : Int → Int → Int}, PIp X op (ipI f) → (∀ a b t, augT op a b = some t → ∃ i j, a = .imm (.int i) ∧ b = .imm (.int j) ∧ t = .imm (.int (f i j))) → PS X (.AugAssign (.Name x p) op v pos) (tS1 X.K X.mg W call fl (.aug i op e)) := fun {f} hp hf => by
        refine psImp (ps_aug ok.ok.nd h1 (locB_ok h2) (se_all e X W v ok.ok tk h3).2.1 hp (.inl (ok.fnT x))) fun D σ H ⟨G0, H0, ρ, τ, σt, R, m⟩ => ?_
        simp only [evS] at m
        cases e1 : ρ[i]? with
        | none => rw [e1] at m; exact m.elim
        | some o =>
          cases o with
          | none => rw [e1] at m; exact m.elim
          | some a =>
            rw [e1] at m
            obtain ⟨a1, va, a2, a3⟩ := R.get e1
            refine ⟨va, a2, G0, H0, ρ, τ, σt, R, (O.rsP m).imp (fun b _ q => fun vb H1 τ1 σt1 R1 s p1 q1 h1 => ?_) fun _ q => q⟩
            split at q
            · next t ht =>
              obtain ⟨ii, jj, rfl, rfl, rfl⟩ := hf _ _ _ ht
              obtain ⟨G, F, r⟩ := R1.rel
              obtain ⟨fb, ob⟩ := r.held h1
              obtain ⟨b1, vb', b2, b3⟩ := R1.get e1
              rw [a2] at b2
              cases b2
              obtain ⟨w, qw, oa⟩ := r.own i _ b1
              rw [b3] at qw
              cases qw
              refine ⟨ii, jj, oa.int, ob.int, ?_⟩
              obtain ⟨F', r'⟩ := setR r R1.l1 R1.l2 (.int (f ii jj)) i
              exact q _ H1 (Ro.back ⟨by simp [R1.l1], R1.l2, G, F', r'⟩ R.l2 p1 q1)
            · exact q.elim
      have nv1 : (∀ a b, augT op a b = none) → PS X (.AugAssign (.Name x p) op v pos) (tS1 X.K X.mg W call fl (.aug i op e)) := fun hn => by
        refine psImp (ps_aug ok.ok.nd h1 (locB_ok h2) (se_all e X W v ok.ok tk h3).2.1 (ti := fun _ _ _ _ => False) (fun _ _ _ _ _ _ _ _ _ _ _ _ h => h.elim) (.inl (ok.fnT x))) fun D σ H ⟨G0, H0, ρ, τ, σt, R, m⟩ => ?_
        simp only [evS] at m
        cases e1 : ρ[i]? with
        | none => rw [e1] at m; exact m.elim
        | some o =>
          cases o with
          | none => rw [e1] at m; exact m.elim
          | some a =>
            rw [e1] at m
            obtain ⟨a1, va, a2, a3⟩ := R.get e1
            refine ⟨va, a2, G0, H0, ρ, τ, σt, R, (O.rsP m).imp (fun b _ q => fun vb H1 τ1 σt1 R1 s p1 q1 h1 => ?_) fun _ q => q⟩
            rw [hn] at q
            exact q
      cases op with
      | Add =>
        refine go ip_add fun a b t e => ?_
        obtain ⟨i, j, h1, h2, h3⟩ := augT_inv e
        rcases h3 with ⟨_, h3⟩ | ⟨h3, _⟩
        · exact ⟨i, j, h1, h2, h3⟩
        · cases h3
      | Sub =>
        refine go ip_sub fun a b t e => ?_
        obtain ⟨i, j, h1, h2, h3⟩ := augT_inv e
        rcases h3 with ⟨h3, _⟩ | ⟨_, h3⟩
        · cases h3
        · exact ⟨i, j, h1, h2, h3⟩
      | _ => exact nv1 fun a b => rfl
    | _ => exact Bool.noConfusion h
  | _ => exact Bool.noConfusion h
end
end Gl

set_option Elab.async false
set_option linter.all false
set_option maxRecDepth 100000
set_option maxHeartbeats 4000000
/-! GlP: append, stores, loops; all statements. -/
namespace Gl
open PySem L2
variable {mx : Mx} {call : Nat → List T → Rs T} {fl k : Nat}

section
variable {K : PySem.W.Frag} {mg : Str → Option Value} {W : WX} {G0 H0 G H H' : Hp} {F : Nat → List Addr} {ρ ρ' τ τ' : Env} {σ σ' σt σt' : St} {t t' x : T} {v v' y : V} {i : Nat}
theorem OwnL.append : ∀ {ts us : List T} {vs ws : List V} {f g : List Addr}, OwnL K mg G H ts vs f → OwnL K mg G H us ws g → OwnL K mg G H (ts ++ us) (vs ++ ws) (f ++ g)
  | _, _, _, _, _, _, .nil, r => r
  | _, _, _, _, _, _, .cons h t, r => by rw [List.append_assoc]; exact .cons h (OwnL.append t r)
theorem Own.sing {f : List Addr} (o : Own K mg G H t v f) : OwnL K mg G H [t] [v] f := by
  have := OwnL.cons o (.nil (K := K) (mg := mg) (G := G) (H := H))
  rwa [List.append_nil] at this
theorem OwnL.set : ∀ {ts : List T} {vs : List V} {f g : List Addr} {j : Nat}, OwnL K mg G H ts vs f → Own K mg G H x y g → (f ++ g).Nodup → ∃ f', OwnL K mg G H (ts.set j x) (vs.set j y) f' ∧ f'.Nodup ∧ ∀ b ∈ f', b ∈ f ++ g
  | [], _, _, _, _, .nil, o, nd => ⟨[], .nil, List.nodup_nil, fun b hb => nomatch hb⟩
  | _ :: _, _, _, g, 0, .cons (f := f1) (g := f2) h r, o, nd => by
    refine ⟨g ++ f2, .cons o r, ?_, fun b hb => ?_⟩
    · rw [List.append_assoc, List.nodup_append] at nd
      obtain ⟨_, nd2, _⟩ := nd
      rw [List.nodup_append] at nd2 ⊢
      exact ⟨nd2.2.1, nd2.1, fun a ha b hb e => nd2.2.2 b hb a ha e.symm⟩
    · rcases List.mem_append.mp hb with hb | hb
      · exact List.mem_append_right _ hb
      · exact List.mem_append_left _ (List.mem_append_right _ hb)
  | _ :: _, _, _, g, j + 1, .cons (f := f1) (g := f2) h r, o, nd => by
    have nd0 := nd
    rw [List.append_assoc, List.nodup_append] at nd
    obtain ⟨f', r', nd', sub⟩ := OwnL.set (j := j) r o nd.2.1
    refine ⟨f1 ++ f', .cons h r', List.nodup_append.mpr ⟨nd.1, nd', fun a ha b hb e => nd.2.2 a ha b (sub b hb) e⟩, fun b hb => ?_⟩
    rcases List.mem_append.mp hb with hb | hb
    · exact List.mem_append_left _ (List.mem_append_left _ hb)
    · rw [List.append_assoc]; exact List.mem_append_right _ (sub b hb)
/-- the last temporary goes into the node in slot i -/
theorem RelG.absorb {kd kd' : Kind} {ts ts' : List T} {vs' : List V} {a : Addr} {ob : HO} (R : RelG K mg G0 H0 G F (ρ ++ (τ ++ [some x])) (σ ++ (σt ++ [some y])) H) (l1 : ρ.length = σ.length) (l2 : τ.length = σt.length)
    (e : ρ[i]? = some (some (.node kd ts))) (ev : σ[i]? = some (some (.ref a))) (hk : ∀ c fs, kd ≠ .obj c fs)
    (it' : kd' = .tup → imms ts' = none)
    (hs : ∀ vs, Sh mg H kd a vs [] → (Sh mg (upd H a ob) kd' a vs' []) ∧ ∀ f g, OwnL K mg G (upd H a ob) ts vs f → Own K mg G (upd H a ob) x y g → (f ++ g).Nodup → ∃ f', OwnL K mg G (upd H a ob) ts' vs' f' ∧ f'.Nodup ∧ ∀ b ∈ f', b ∈ f ++ g) :
    Rel K mg G0 H0 (ρ.set i (some (.node kd' ts')) ++ τ) (σ ++ σt) (upd H a ob) := by
  have hi := (List.getElem?_eq_some_iff.mp e).1
  have e1 : (ρ ++ (τ ++ [some x]))[i]? = some (some (.node kd ts)) := by rw [List.getElem?_append_left hi]; exact e
  have ex1 : (ρ ++ (τ ++ [some x]))[ρ.length + τ.length + 0]? = some (some x) := getC
  obtain ⟨va, qa, oa⟩ := R.own i _ e1
  obtain ⟨vx, qx, ox⟩ := R.own _ _ ex1
  have ea : va = .ref a := by
    rw [List.getElem?_append_left (by omega), ev] at qa
    cases qa; rfl
  have exy : vx = y := by
    have : (σ ++ (σt ++ [some y]))[ρ.length + τ.length + 0]? = some (some y) := by rw [l1, l2]; exact getC
    rw [this] at qx; cases qx; rfl
  subst ea exy
  have ndi := R.nd i _ e1
  have ndx := R.nd _ _ ex1
  have fri := R.free i _ e1
  have frx := R.free _ _ ex1
  have apx := R.apart i (ρ.length + τ.length + 0) _ _ (by omega) e1 ex1
  have api := fun (l : Nat) (u : T) (n : l ≠ i) (q : (ρ ++ (τ ++ [some x]))[l]? = some (some u)) => R.apart l i u _ n q e1
  have aptx := fun (l : Nat) (u : T) (n : l ≠ ρ.length + τ.length + 0) (q : (ρ ++ (τ ++ [some x]))[l]? = some (some u)) => R.apart l _ u _ n q ex1
  have chg := fun t' v' f' ρ' σ' => R.change (t' := t') (v' := v') (f' := f') (ρ' := ρ') (σ' := σ') (H' := upd H a ob) e1
  generalize F i = fi at oa ndi fri apx api chg
  generalize F (ρ.length + τ.length + 0) = gx at ox ndx frx apx aptx
  cases oa with
  | node sh r it =>
    rename_i vs ex f
    have hex : ex = [] := by cases kd <;> first | exact sh.2 | exact absurd rfl (hk _ _)
    subst hex
    obtain ⟨s1, s2⟩ := hs vs sh
    have na : a ∉ f := fun z => (List.nodup_cons.mp ndi).1 (by simpa using z)
    have nax : a ∉ gx := fun z => apx a List.mem_cons_self z
    have keep : ∀ b, b ≠ a → ∀ o, H b = some o → upd H a ob b = some o := fun b hb o q => by rw [upd_ne hb]; exact q
    have r' := r.keep (Same.refl G) (H' := upd H a ob) fun b hb o q => keep b (fun z => na (z ▸ hb)) o q
    have ox' := ox.keep (Same.refl G) (H' := upd H a ob) fun b hb o q => keep b (fun z => nax (z ▸ hb)) o q
    have ndfg : (f ++ gx).Nodup := List.nodup_append.mpr ⟨by simpa using (List.nodup_cons.mp ndi).2, ndx, fun b hb c hc e => apx b (List.mem_cons_of_mem _ (by simpa using hb)) (e ▸ hc)⟩
    obtain ⟨f', o', nd', sub⟩ := s2 f gx r' ox' ndfg
    have sub2 : ∀ b ∈ f', b ∈ f ∨ b ∈ gx := fun b hb => List.mem_append.mp (sub b hb)
    have na' : a ∉ f' := fun z => (sub2 a z).elim na nax
    refine chg (.node kd' ts') (.ref a) (a :: ([] ++ f')) _ _ (fun b hb o q => keep b (fun z => hb (z ▸ List.mem_cons_self)) o q) (.node s1 o' it') (List.nodup_cons.mpr ⟨by simpa using na', by simpa using nd'⟩) (fun b hb => ?_) (set_at hi) ?_ fun l u n q => ?_
    · rcases List.mem_cons.mp hb with z | z
      · subst z; exact fri b List.mem_cons_self
      · rcases sub2 b (by simpa using z) with z | z
        · exact fri b (List.mem_cons_of_mem _ (by simpa using z))
        · exact frx b z
    · rw [List.getElem?_append_left (by omega)]; exact ev
    · rw [set_un n] at q
      have hl := (List.getElem?_eq_some_iff.mp q).1
      have q2 := pre_get (C := [some x]) q
      refine ⟨q2, pre_lt (by simp only [List.length_append] at hl ⊢; omega), fun b hb z => ?_⟩
      rcases List.mem_cons.mp z with z | z
      · subst z; exact api l u n q2 b hb List.mem_cons_self
      · rcases sub2 b (by simpa using z) with z | z
        · exact api l u n q2 b hb (List.mem_cons_of_mem _ (by simpa using z))
        · exact aptx l u (by simp only [List.length_append] at hl; omega) q2 b hb z
theorem Ro.absorb {kd kd' : Kind} {ts ts' : List T} {vs' : List V} {a : Addr} {ob : HO} (R : Ro K mg G0 H0 ρ σ (τ ++ [some x]) (σt ++ [some y]) H) (l2 : τ.length = σt.length)
    (e : ρ[i]? = some (some (.node kd ts))) (ev : σ[i]? = some (some (.ref a))) (hk : ∀ c fs, kd ≠ .obj c fs)
    (it' : kd' = .tup → imms ts' = none)
    (hs : ∀ G vs, Sh mg H kd a vs [] → (Sh mg (upd H a ob) kd' a vs' []) ∧ ∀ f g, OwnL K mg G (upd H a ob) ts vs f → Own K mg G (upd H a ob) x y g → (f ++ g).Nodup → ∃ f', OwnL K mg G (upd H a ob) ts' vs' f' ∧ f'.Nodup ∧ ∀ b ∈ f', b ∈ f ++ g) :
    Ro K mg G0 H0 (ρ.set i (some (.node kd' ts'))) σ τ σt (upd H a ob) := by
  obtain ⟨G, F, r⟩ := R.rel
  exact ⟨by rw [List.length_set]; exact R.l1, l2, r.absorb R.l1 l2 e ev hk it' (hs G)⟩
/-- the node in slot i, as it lies -/
theorem Ro.node {kd : Kind} {ts : List T} (R : Ro K mg G0 H0 ρ σ τ σt H) (e : ρ[i]? = some (some (.node kd ts))) (hk : ∀ c fs, kd ≠ .obj c fs) : ∃ a vs, σ[i]? = some (some (.ref a)) ∧ Sh mg H kd a vs [] ∧ ts.length = vs.length := by
  obtain ⟨a1, va, a2, a3⟩ := R.get e
  obtain ⟨G, F, r⟩ := R.rel
  obtain ⟨w, qw, o⟩ := r.own i _ a1
  rw [a3] at qw
  cases qw
  generalize F i = fi at o
  cases o with
  | node sh r it =>
    rename_i a vs ex f
    have hex : ex = [] := by cases kd <;> first | exact sh.2 | exact absurd rfl (hk _ _)
    subst hex
    exact ⟨_, _, a2, sh, r.length⟩
theorem sq_app {i : Nat} {e : E} : SPq mx call fl k (.app i e) := fun X W st ok tk h => by
  cases st with
  | Expr v pos =>
    match v, h with
    | .Call (.Attribute (.Name x xp) m ap) [a] [] cp, h =>
      have h : (decide (m = "append") && decide (X.N[i]? = some x) && visB X.env.scope x && okN x && (ap.endLine == cp.line) && mE mx X.N X.env.scope e a) = true := h
      rw [Bool.and_eq_true, Bool.and_eq_true, Bool.and_eq_true, Bool.and_eq_true, Bool.and_eq_true, decide_eq_true_eq, decide_eq_true_eq] at h
      obtain ⟨⟨⟨⟨⟨rfl, h1⟩, h2⟩, h3⟩, h4⟩, h5⟩ := h
      have he := (se_all e X W a ok.ok tk h5).1
      have hst : starEach [a] X.env = (false, eval a X.env) :: starEach [] X.env := star_cons (pl_of h5)
      refine psImp (ps_expr (pe_bm F.plainAttrs_list F.slot_list_append F.type_list_append mt_append (pe_var h1 (visB_ok h2) (okN_1 h3) (okN_2 h3)) (pa_cons he pa_nil hst) (attr_pl rfl rfl) (by rw [hst]; rfl) h4 hst rfl) rfl) fun D σ H ⟨G0, H0, ρ, τ, σt, R, m⟩ => ?_
      simp only [evS] at m
      cases e1 : ρ[i]? with
      | none => rw [e1] at m; exact m.elim
      | some o =>
        cases o with
        | none => rw [e1] at m; exact m.elim
        | some t =>
          rw [e1] at m
          cases t with
          | node kd ts =>
            cases kd with
            | lst =>
              obtain ⟨p, vs, b1, b2, b3⟩ := R.node e1 (fun _ _ z => nomatch z)
              refine ⟨.ref p, b1, .inl ⟨rfl, vs, SqL.of b2.1⟩, G0, H0, ρ, τ, σt, R, (O.rsQ m).imp (fun u _ q => fun y H1 R1 s => ?_) fun _ q => q⟩
              split at q
              · next t' ht =>
                simp only [appT] at ht
                cases hx : u.fr with
                | none => rw [hx] at ht; cases ht
                | some u' =>
                rw [hx] at ht
                dsimp only at ht
                have R1 := R1.freezeT hx
                split at ht
                · next hz =>
                  cases ht
                  obtain ⟨p', vs', c1, c2, c3⟩ := R1.node e1 (fun _ _ z => nomatch z)
                  rw [b1] at c1
                  cases c1
                  refine ⟨p, vs', y, rfl, rfl, c2.1, by rw [← c3]; exact hz, ?_⟩
                  refine q _ (R1.absorb R.l2 (kd' := .lst) (vs' := vs' ++ [y]) e1 b1 (fun _ _ z => nomatch z) (fun z => nomatch z) fun G vs2 hsh => ⟨⟨upd_same, rfl⟩, fun f g of og nd => ?_⟩)
                  have : vs2 = vs' := by have := hsh.1; rw [c2.1] at this; cases this; rfl
                  subst this
                  exact ⟨f ++ g, of.append og.sing, nd, fun b hb => hb⟩
                · cases ht
              · exact q.elim
            | _ => exact m.elim
          | _ => exact m.elim
  | _ => exact Bool.noConfusion h

/-! ### stores -/
theorem zipW_imm {d : PyData} (o : Rp K G d y) {κ : Type} [DecidableEq κ] (k : κ) : ∀ {ks : List κ} {ts : List T} {vs : List V} {f : List Addr}, OwnL K mg G H ts vs f → f.Nodup → ks.length = ts.length →
    ∃ f', OwnL K mg G H (List.zipWith (fun k' t => if k' = k then T.imm d else t) ks ts) (List.zipWith (fun k' v => if k' = k then y else v) ks vs) f' ∧ f'.Nodup ∧ ∀ b ∈ f', b ∈ f
  | [], [], _, _, .nil, _, _ => ⟨[], .nil, List.nodup_nil, fun b hb => nomatch hb⟩
  | [], _ :: _, _, _, _, _, h => by cases h
  | _ :: _, [], _, _, _, _, h => by cases h
  | k' :: ks, t :: ts, _, _, .cons (f := f1) (g := f2) h r, nd, hl => by
    rw [List.nodup_append] at nd
    obtain ⟨f', r', nd', sub⟩ := zipW_imm o k r nd.2.1 (by simpa using hl)
    by_cases hk : k' = k
    · refine ⟨f', ?_, nd', fun b hb => List.mem_append_right _ (sub b hb)⟩
      simp only [List.zipWith_cons_cons, hk, if_true]
      exact .cons (f := []) (.imm o) r'
    · refine ⟨f1 ++ f', ?_, List.nodup_append.mpr ⟨nd.1, nd', fun a ha b hb e => nd.2.2 a ha b (sub b hb) e⟩, fun b hb => (List.mem_append.mp hb).elim (List.mem_append_left _) fun z => List.mem_append_right _ (sub b z)⟩
      simp only [List.zipWith_cons_cons, hk, if_false]
      exact .cons h r'
theorem putK_at {κ : Type} [DecidableEq κ] {k : κ} {y : V} : ∀ (kvs : List (κ × V)), (kvs.map fun kv => if kv.1 = k then (kv.1, y) else kv).map (·.1) = kvs.map (·.1) ∧
    (kvs.map fun kv => if kv.1 = k then (kv.1, y) else kv).map (·.2) = List.zipWith (fun k' v => if k' = k then y else v) (kvs.map (·.1)) (kvs.map (·.2))
  | [] => ⟨rfl, rfl⟩
  | p :: r => by
    obtain ⟨h1, h2⟩ := putK_at (k := k) (y := y) r
    simp only [List.map_cons, List.zipWith_cons_cons]
    rw [h1, h2]
    by_cases h : p.1 = k <;> simp [h]
theorem putK_len {κ : Type} [DecidableEq κ] {ks : List κ} {kvs : List (κ × V)} {k : κ} {ts : List T} {x : T} {ks' : List κ} {ts' : List T} (e : putD ks ts k x = some (ks', ts')) (hks : kvs.map (·.1) = ks) {vs : List V} (hvs : kvs.map (·.2) = vs) :
    kvs.length < sizeLine ∧ ∃ vs', (putK kvs k y).map (·.1) = ks' ∧ (putK kvs k y).map (·.2) = vs' ∧
      ∀ (G : Hp) f g, OwnL K mg G H ts vs f → Own K mg G H x y g → (f ++ g).Nodup → ∃ f', OwnL K mg G H ts' vs' f' ∧ f'.Nodup ∧ ∀ b ∈ f', b ∈ f ++ g := by
  unfold putD at e
  split at e
  rotate_left
  · cases e
  next hl =>
  refine ⟨by have := congrArg List.length hks; simp at this; omega, ?_⟩
  have hany : (kvs.any fun kv => decide (kv.1 = k)) = decide (k ∈ ks) := by
    rw [← hks, Bool.eq_iff_iff]
    simp
  by_cases hm : k ∈ ks
  · rw [if_pos hm] at e
    cases x with
    | imm d =>
      cases e
      have hp : putK kvs k y = kvs.map fun kv => if kv.1 = k then (kv.1, y) else kv := by unfold putK; rw [hany, decide_eq_true hm, if_pos rfl]
      obtain ⟨h1, h2⟩ := putK_at (k := k) (y := y) kvs
      refine ⟨_, by rw [hp, h1, hks], by rw [hp], fun G f g of og nd => ?_⟩
      rw [h2, hks, hvs]
      rw [List.nodup_append] at nd
      obtain ⟨f', a1, a2, a3⟩ := zipW_imm og.rp k of nd.1 hl.1
      exact ⟨f', a1, a2, fun b hb => List.mem_append_left _ (a3 b hb)⟩
    | _ => cases e
  · rw [if_neg hm] at e
    cases e
    have hp : putK kvs k y = kvs ++ [(k, y)] := by unfold putK; rw [hany, decide_eq_false hm, if_neg Bool.false_ne_true]
    refine ⟨vs ++ [y], by rw [hp, List.map_append, hks]; rfl, by rw [hp, List.map_append, hvs]; rfl, fun G f g of og nd => ⟨f ++ g, of.append og.sing, nd, fun b hb => hb⟩⟩
theorem assign_pl {o k' : Expr} {sp : Pos} {env : PySem.Env} (h : pl k' = true) : ∀ v, assign (.Subscript o k' sp) env v = (do
      let ov ← holding [v] (eval o env)
      let iv ← holding [v, ov] (eval k' env)
      standAt sp
      holding [v, ov, iv] (setItem ov iv v)
      release [v, ov, iv] []) := by
  intro v
  cases k' <;> first | rfl | cases h
theorem sq_put {i : Nat} {ke e : E} : SPq mx call fl k (.put i ke e) := fun X W st ok tk h => by
  cases st with
  | Assign ts v pos =>
    match ts, h with
    | [.Subscript (.Name x xp) k' sp], h =>
      have h : (decide (X.N[i]? = some x) && visB X.env.scope x && okN x && mE mx X.N X.env.scope ke k' && mE mx X.N X.env.scope e v && noLc v) = true := h
      rw [Bool.and_eq_true, Bool.and_eq_true, Bool.and_eq_true, Bool.and_eq_true, Bool.and_eq_true, decide_eq_true_eq] at h
      obtain ⟨⟨⟨⟨⟨h1, h2⟩, h3⟩, h4⟩, h5⟩, h6⟩ := h
      have he := (se_all e X W v ok.ok tk h5).1
      have hk := (se_all ke X W k' ok.ok tk h4).2.1
      have hn : PE X (.Name x xp) (tVar i) := pe_var h1 (visB_ok h2) (okN_1 h3) (okN_2 h3)
      refine psImp (ps_or (ps_asg he (pg_sub hn hk set_list (assign_pl (pl_of h4))) (sole_pl (pl_of h5) h6)) (ps_dput (by have := ok.ok.hu; omega) hn hk he (swaps_pl (pl_of h5) h6))) fun D σ H ⟨G0, H0, ρ, τ, σt, R, m⟩ => ?_
      simp only [evS] at m
      cases e1 : ρ[i]? with
      | none => rw [e1] at m; exact m.elim
      | some o =>
        cases o with
        | none => rw [e1] at m; exact m.elim
        | some t =>
          rw [e1] at m
          have m : OutQ X.K X.mg W D G0 H0 σ τ σt (.of (evX call false e ρ) ρ fun x => .of (evX call true ke ρ) ρ fun k => match k with
            | .imm d => match putT t d x with | some t => .nx (ρ.set i (some t)) | none => .no
            | _ => .no) := m
          -- the value, the container, the key
          have go : ∀ {Q : V → V → V → Hp → Prop}, (∀ va, σ[i]? = some (some va) → ∀ x d t' y w H2, putT t d x = some t' → Ro X.K X.mg G0 H0 ρ σ (τ ++ [some x]) (σt ++ [some y]) H2 → (∃ G, Same G H2 ∧ Rp X.K G d w) →
              (∀ H3, Ro X.K X.mg G0 H0 (ρ.set i (some t')) σ τ σt H3 → D.nx σ H3) → Q y va w H2) →
              tE X.K X.mg W call e σ H fun y H1 => tVar i σ H1 fun va H1' => tO X.K X.mg W call ke σ H1' fun w H2 => Q y va w H2 := fun {Q} z => by
            refine ⟨G0, H0, ρ, τ, σt, R, (O.rsQ m).imp (fun x _ q => fun y H1 R1 s1 => ?_) fun _ q => q⟩
            obtain ⟨a1, va, a2, a3⟩ := R1.get e1
            refine ⟨va, a2, G0, H0, ρ, _, _, R1, (O.rsQ (H := H) (σ := σ) q).imp (fun kt _ q2 => fun w H2 τ2 σt2 R2 s2 p2 q2' h2 => ?_) fun _ q => q.later R.l2 s1 (List.prefix_append ..) (List.prefix_append ..)⟩
            cases kt with
            | imm d =>
              cases ht : putT t d x with
              | none => simp only [ht] at q2; exact q2.elim
              | some t' =>
                simp only [ht] at q2
                obtain ⟨G, F, r⟩ := R2.rel
                obtain ⟨fk, ok'⟩ := r.held h2
                exact z va a2 x d t' y w H2 ht (R2.back (by simp [R.l2]) p2 q2') ⟨G, r.gh, ok'.rp⟩ fun H3 R3' => q2 _ R3'
            | _ => exact q2.elim
          have nonode : (∀ d x, putT t d x = none) → ∀ {Q : V → V → V → Hp → Prop}, tE X.K X.mg W call e σ H fun y H1 => tVar i σ H1 fun va H1' => tO X.K X.mg W call ke σ H1' fun w H2 => Q y va w H2 := fun hn {Q} => go fun va ev x d t' y w H2 hp _ _ _ => by
            rw [hn] at hp; cases hp
          cases t with
          | node kd ts =>
            cases kd with
            | lst =>
              refine .inl (go fun va ev x d t' y w H2 hp R2 ⟨G, gh, rp⟩ q => ?_)
              cases d with
              | int n =>
                simp only [putT] at hp
                split at hp
                · next j hj =>
                  cases hp
                  cases rp
                  obtain ⟨p, vs, b1, b2, b3⟩ := R2.node e1 (fun _ _ z => nomatch z)
                  rw [ev] at b1
                  cases b1
                  refine ⟨p, vs, n, j, rfl, rfl, b2.1, by rw [← ixD_eq, ← b3]; exact hj, q _ (R2.absorb R.l2 (kd' := .lst) (vs' := vs.set j y) e1 ev (fun _ _ z => nomatch z) (fun z => nomatch z) fun G vs2 hsh => ⟨⟨upd_same, rfl⟩, fun f g of og nd => ?_⟩)⟩
                  have : vs2 = vs := by have := hsh.1; rw [b2.1] at this; cases this; rfl
                  subst this
                  exact of.set og nd
                · cases hp
              | _ => cases hp
            | dK ks =>
              refine .inr (go fun va ev x d t' y w H2 hp R2 ⟨G, gh, rp⟩ q => ?_)
              simp only [putT] at hp
              cases hk' : toKey d with
              | none => rw [hk'] at hp; cases hp
              | some a =>
                rw [hk'] at hp
                cases hd : putD ks ts a x with
                | none => simp only [hd] at hp; cases hp
                | some z =>
                  obtain ⟨ks', ts'⟩ := z
                  simp only [hd] at hp
                  cases hp
                  obtain ⟨p, vs, b1, ⟨⟨kvs, c1, c2, c3⟩, c4⟩, b3⟩ := R2.node e1 (fun _ _ z => nomatch z)
                  rw [ev] at b1
                  cases b1
                  rw [toKey_ok rp hk']
                  obtain ⟨z1, vs', z2, z3, z4⟩ := putK_len (K := X.K) (mg := X.mg) (H := upd H2 p (.dK (putK kvs a y))) (y := y) hd c2 c3
                  refine ⟨p, _, rfl, DPut.k c1 z1, q _ (R2.absorb R.l2 (kd' := .dK ks') (vs' := vs') e1 ev (fun _ _ z => nomatch z) (fun z => nomatch z) fun G vs2 hsh => ⟨⟨⟨_, upd_same, z2, z3⟩, rfl⟩, fun f g of og nd => ?_⟩)⟩
                  obtain ⟨⟨kvs2, d1, d2, d3⟩, _⟩ := hsh
                  have : kvs2 = kvs := by rw [c1] at d1; cases d1; rfl
                  subst this
                  have : vs2 = vs := d3.symm.trans c3
                  subst this
                  exact z4 G f g of og nd
            | dT ks =>
              refine .inr (go fun va ev x d t' y w H2 hp R2 ⟨G, gh, rp⟩ q => ?_)
              cases rp with
              | @tup b xs ds hb rr =>
                simp only [putT] at hp
                cases hk' : toKeys ds with
                | none => rw [hk'] at hp; cases hp
                | some a =>
                  rw [hk'] at hp
                  cases hd : putD ks ts a x with
                  | none => simp only [hd] at hp; cases hp
                  | some z =>
                    obtain ⟨ks', ts'⟩ := z
                    simp only [hd] at hp
                    cases hp
                    obtain ⟨p, vs, b1, ⟨⟨kvs, c1, c2, c3⟩, c4⟩, b3⟩ := R2.node e1 (fun _ _ z => nomatch z)
                    rw [ev] at b1
                    cases b1
                    have hb' := gh _ _ hb
                    rw [toKeys_ok rr hk'] at hb'
                    obtain ⟨z1, vs', z2, z3, z4⟩ := putK_len (K := X.K) (mg := X.mg) (H := upd H2 p (.dT (putK kvs a y))) (y := y) hd c2 c3
                    refine ⟨p, _, rfl, DPut.t c1 hb' z1, q _ (R2.absorb R.l2 (kd' := .dT ks') (vs' := vs') e1 ev (fun _ _ z => nomatch z) (fun z => nomatch z) fun G vs2 hsh => ⟨⟨⟨_, upd_same, z2, z3⟩, rfl⟩, fun f g of og nd => ?_⟩)⟩
                    obtain ⟨⟨kvs2, d1, d2, d3⟩, _⟩ := hsh
                    have : kvs2 = kvs := by rw [c1] at d1; cases d1; rfl
                    subst this
                    have : vs2 = vs := d3.symm.trans c3
                    subst this
                    exact z4 G f g of og nd
              | _ => cases hp
            | tup => exact .inl (nonode (fun d x => by cases d <;> rfl))
            | obj c fs => exact .inl (nonode (fun d x => by cases d <;> rfl))
          | _ => exact .inl (nonode (fun d x => by cases d <;> rfl))
  | _ => exact Bool.noConfusion h

/-! ### loops -/
theorem forGo_cons {f : PyData → Env → O} {d : PyData} {ds : List PyData} {ρ : Env} : forGo f (d :: ds) ρ = (match f d ρ with | .nx ρ' => forGo f ds ρ' | o => o) := by
  simp only [forGo]
  all_goals cases f d ρ <;> rfl
theorem for_core {X : Cx} {r : Env → Rs (T × List PyData)} {g : TG} {f : PyData → Env → O} {tb : TS} {D : Ends} (R : Ro K mg G0 H0 ρ σ τ σt H) (m : OutP K mg W D G0 H0 τ σt (O.of (r ρ) ρ fun p => forGo f p.2 ρ))
    (turn : ∀ (d : PyData) (ρ : Env) (σ : St) (H : Hp) (x : V) (τb : Env) (σtb : St) (D' : Ends), D'.rt = D.rt → (∃ G F, RelG K mg G0 H0 G F (ρ ++ τb) (σ ++ σtb) H ∧ Rp K G d x) → ρ.length = σ.length → τb.length = σtb.length →
      OutP K mg W D' G0 H0 τb σtb (f d ρ) → g x σ H fun σ2 H2 => tb D' σ2 H2) : tFor (iW K mg W r) g tb D σ H := by
  refine ⟨G0, H0, ρ, τ, σt, R, (O.rsP m).imp (fun p _ q => fun v J H1 R1 s1 wk => ?_) fun _ q => q⟩
  obtain ⟨t, ds⟩ := p
  have l2 := R.l2
  let Wt : Nat → St → Hp → Prop := fun n σ' H' => n ≤ ds.length ∧ ∃ ρ', Ro K mg G0 H0 ρ' σ' (τ ++ [some t]) (σt ++ [some v]) H' ∧ OutP K mg W D G0 H0 τ σt (forGo f (ds.drop n) ρ')
  refine ⟨fun n mm σ' H' => mm = ds.length - n ∧ Wt n σ' H', ⟨_, rfl, Nat.zero_le _, ρ, R1, q⟩, ?_⟩
  rintro n mm σ' H' ⟨rfl, hn, ρ', R', q'⟩
  obtain ⟨G, F, rg⟩ := R'.rel
  have gT : (ρ' ++ (τ ++ [some t]))[ρ'.length + τ.length + 0]? = some (some t) := getC
  obtain ⟨v', qv, ow⟩ := rg.own _ t gT
  have ev : v' = v := by
    rw [R'.l1, l2, getC] at qv
    simpa using qv.symm
  subst ev
  obtain ⟨w1, w2, w3⟩ := wk G H' _ rg.gh ow
  by_cases hlt : n < ds.length
  rotate_left
  · refine .inl ⟨w3 n (by show ds.length ≤ n; omega), ?_⟩
    rw [List.drop_eq_nil_of_le (by omega)] at q'
    exact q' σ' H' (R'.back l2 (List.prefix_append ..) (List.prefix_append ..))
  · refine .inr ⟨w1 n hlt, Wt (n + 1), fun σ2 H2 h2 => ⟨ds.length - (n + 1), by omega, rfl, h2⟩, fun x H2 hy => ?_⟩
    obtain ⟨rfl, d, hd, rp⟩ := w2 n x H2 hlt hy
    have hdrop : ds.drop n = d :: ds.drop (n + 1) := by
      rw [List.drop_eq_getElem_cons hlt]
      congr 1
      have := List.getElem?_eq_getElem hlt
      rw [hd] at this
      exact (Option.some.inj this).symm
    rw [hdrop, forGo_cons] at q'
    refine turn d ρ' σ' H2 x (τ ++ [some t]) (σt ++ [some v']) { D with nx := Wt (n + 1), ct := Wt (n + 1), bk := D.nx } rfl ⟨G, F, rg, rp⟩ R'.l1 (by simp [l2]) ?_
    cases ho : f d ρ' with
    | nx ρ2 => rw [ho] at q'; exact fun σ3 H3 R3 => ⟨hlt, ρ2, R3, q'⟩
    | rt t => rw [ho] at q'; exact q'
    | ex c ρ2 =>
      rw [ho] at q'
      exact OutP.later (D := { D with nx := Wt (n + 1), ct := Wt (n + 1), bk := D.nx }) (o := .ex c ρ2) q' l2 (List.prefix_append ..) (List.prefix_append ..)
    | no => rw [ho] at q'; exact q'.elim
theorem fold_of {X : Cx} {e : Expr} (h : pl e = true) : ∀ x, foldedSetIterable e X.env x = pure x := fold_pl h
theorem for_name {X : Cx} {x : Str} {p pos : Pos} {i : Nat} {body : List S} {body' : List Stmt} {iter : Expr} {r : Env → Rs (T × List PyData)} (ok : OkS mx call k X) (h0 : mx.hot = false) (tk : Takes X W) (hb : SPs mx call fl k body) (h1 : X.N[i]? = some x) (h2 : locB X.env.scope x = true)
    (h3 : mSs mx X.N X.env.scope body body' = true) (hi : PI X (.Name x p) iter (iW X.K X.mg W r)) (hf : pl iter = true) :
    PS X (.For (.Name x p) iter body' [] pos) (fun D σ H => ∃ G0 H0 ρ τ σt, Ro X.K X.mg G0 H0 ρ σ τ σt H ∧ OutP X.K X.mg W D G0 H0 τ σt (O.of (r ρ) ρ fun p => forGo (fun d ρ => evSs call fl body (ρ.set i (some (.imm d)))) p.2 ρ)) := by
  refine psImp (ps_for (ok.pass h0) (ok.ok.calm h0) hi (pg_name ok.ok.nd h1 (locB_ok h2) (.inl (ok.fnT x))) (hb X W body' ok tk h3) (fold_pl hf)) fun D σ H ⟨G0, H0, ρ, τ, σt, R, m⟩ => ?_
  refine for_core (X := X) R m fun d ρ σ H x τb σtb D' _ ⟨G, F, rg, rp⟩ l1 l2 q => ?_
  obtain ⟨F', r'⟩ := setR rg l1 l2 rp i
  exact ⟨G0, H0, _, τb, σtb, ⟨by simp [l1], l2, G, F', r'⟩, q⟩
theorem tgB_ok {N : List Str} {sc : Scope} {i : Nat} {tg : Expr} (h : tgB N sc i tg = true) : ∃ x p, tg = .Name x p ∧ N[i]? = some x ∧ locB sc x = true := by
  cases tg with
  | Name x p =>
    have h : (decide (N[i]? = some x) && locB sc x) = true := h
    rw [Bool.and_eq_true, decide_eq_true_eq] at h
    exact ⟨x, p, rfl, h.1, h.2⟩
  | _ => cases h
theorem tgsB_ok {N : List Str} {sc : Scope} {is : List Nat} {tg : Expr} (h : tgsB N sc is tg = true) : ∃ es k p, tg = .Tuple es k p ∧ nmsB N sc is es = true := by
  cases tg with
  | Tuple es k p => exact ⟨es, k, p, rfl, h⟩
  | _ => cases h
theorem sp_fr {i : Nat} {src : E} {body : List S} (hb : SPs mx call fl k body) : SP1 mx call fl k (.fr i src body) := fun X W st ok tk h => by
  cases st with
  | For tg it body' els pos =>
    have h : (!mx.hot && els.isEmpty && tgB X.N X.env.scope i tg && mE mx X.N X.env.scope src it && mSs mx X.N X.env.scope body body') = true := h
    rw [Bool.and_eq_true, Bool.and_eq_true, Bool.and_eq_true, Bool.and_eq_true, List.isEmpty_iff, Bool.not_eq_true'] at h
    obtain ⟨⟨⟨⟨h0, rfl⟩, h2⟩, h3⟩, h4⟩ := h
    obtain ⟨x, p, rfl, h5, h6⟩ := tgB_ok h2
    exact psImp (for_name ok h0 tk hb h5 h6 h4 (pi_src (se_all src X W it ok.ok tk h3).1) (pl_of h3)) fun D σ H ⟨G0, H0, ρ, τ, σt, R, m⟩ => ⟨G0, H0, ρ, τ, σt, R, by simp only [evS] at m; exact m⟩
  | _ => exact Bool.noConfusion h
theorem sp_frR1 {i : Nat} {hi : E} {body : List S} (hb : SPs mx call fl k body) : SP1 mx call fl k (.frR i none hi body) := fun X W st ok tk h => by
  match st, h with
  | .For tg (.Call (.Name r rp) [hi'] [] cp) body' els pos, h =>
    have h : (!mx.hot && els.isEmpty && tgB X.N X.env.scope i tg && (decide (r = "range") && glB X.env.scope r && mE mx X.N X.env.scope hi hi') && mSs mx X.N X.env.scope body body') = true := h
    rw [Bool.and_eq_true, Bool.and_eq_true, Bool.and_eq_true, Bool.and_eq_true, Bool.and_eq_true, Bool.and_eq_true, List.isEmpty_iff, decide_eq_true_eq, Bool.not_eq_true'] at h
    obtain ⟨⟨⟨⟨h0, rfl⟩, h2⟩, ⟨hr, hg⟩, h3⟩, h4⟩ := h
    obtain ⟨x, p, rfl, h5, h6⟩ := tgB_ok h2
    exact psImp (for_name ok h0 tk hb h5 h6 h4 (pi_rng1 ok.ok tk hr hg (se_all hi) h3) rfl) fun D σ H ⟨G0, H0, ρ, τ, σt, R, m⟩ => ⟨G0, H0, ρ, τ, σt, R, by simp only [evS] at m; exact m⟩
theorem sp_frR2 {i : Nat} {lo hi : E} {body : List S} (hb : SPs mx call fl k body) : SP1 mx call fl k (.frR i (some lo) hi body) := fun X W st ok tk h => by
  match st, h with
  | .For tg (.Call (.Name r rp) [lo', hi'] [] cp) body' els pos, h =>
    have h : (!mx.hot && els.isEmpty && tgB X.N X.env.scope i tg && (decide (r = "range") && glB X.env.scope r && (mE mx X.N X.env.scope lo lo' && mE mx X.N X.env.scope hi hi')) && mSs mx X.N X.env.scope body body') = true := h
    rw [Bool.and_eq_true, Bool.and_eq_true, Bool.and_eq_true, Bool.and_eq_true, Bool.and_eq_true, Bool.and_eq_true, List.isEmpty_iff, decide_eq_true_eq, Bool.not_eq_true'] at h
    obtain ⟨⟨⟨⟨h0, rfl⟩, h2⟩, ⟨hr, hg⟩, h3⟩, h4⟩ := h
    obtain ⟨x, p, rfl, h5, h6⟩ := tgB_ok h2
    exact psImp (for_name ok h0 tk hb h5 h6 h4 (pi_rng2 ok.ok tk hr hg (se_all lo) (se_all hi) h3) rfl) fun D σ H ⟨G0, H0, ρ, τ, σt, R, m⟩ => ⟨G0, H0, ρ, τ, σt, R, by simp only [evS] at m; exact m⟩
theorem sp_frT {is : List Nat} {src : E} {body : List S} (hb : SPs mx call fl k body) : SP1 mx call fl k (.frT is src body) := fun X W st ok tk h => by
  cases st with
  | For tg it body' els pos =>
    have h : (!mx.hot && els.isEmpty && tgsB X.N X.env.scope is tg && mE mx X.N X.env.scope src it && mSs mx X.N X.env.scope body body') = true := h
    rw [Bool.and_eq_true, Bool.and_eq_true, Bool.and_eq_true, Bool.and_eq_true, List.isEmpty_iff, Bool.not_eq_true'] at h
    obtain ⟨⟨⟨⟨h0, rfl⟩, h2⟩, h3⟩, h4⟩ := h
    obtain ⟨es, kk, p, rfl, h2⟩ := tgsB_ok h2
    obtain ⟨a1, a2, a3⟩ := pgs_of ok.ok.nd ok.fnT h2
    refine psImp (ps_for (ok.pass h0) (ok.ok.calm h0) (pi_src (se_all src X W it ok.ok tk h3).1) (pg_tup (ok.ok.calm h0) a1 a2 a3) (hb X W body' ok tk h4) (fold_pl (pl_of h3))) fun D σ H ⟨G0, H0, ρ, τ, σt, R, m⟩ => ?_
    simp only [evS] at m
    refine for_core (X := X) R m fun d ρ σ H x τb σtb D' _ ⟨G, F, rg, rp⟩ l1 l2 q => ?_
    split at q
    · next ρ' hu =>
      have R2 : Ro X.K X.mg G0 H0 ρ σ (τb ++ [some (.imm d)]) (σtb ++ [some x]) H := ⟨l1, by simp [l2], by
        have := rg.pushI (by simp [l1, l2]) rp
        rwa [List.append_assoc, List.append_assoc] at this⟩
      exact upkT_ok R2 l2 (List.prefix_append ..) (List.prefix_append ..) (Hld.last l1 l2) hu fun σ' R' => ⟨G0, H0, ρ', τb, σtb, R', q⟩
    · exact q.elim
  | _ => exact Bool.noConfusion h
theorem sp_whl {c : E} {body : List S} (hb : SPs mx call fl k body) : SP1 mx call fl k (.whl c body) := fun X W st ok tk h => by
  cases st with
  | While c' body' els pos =>
    have h : (!mx.hot && els.isEmpty && mE mx X.N X.env.scope c c' && mSs mx X.N X.env.scope body body') = true := h
    rw [Bool.and_eq_true, Bool.and_eq_true, Bool.and_eq_true, List.isEmpty_iff, Bool.not_eq_true'] at h
    obtain ⟨⟨⟨h0, rfl⟩, h2⟩, h3⟩ := h
    refine psImp (ps_while (ok.pass h0) (se_all c X W c' ok.ok tk h2).2.2 (hb X W body' ok tk h3)) fun D σ H ⟨G0, H0, ρ, τ, σt, R, m⟩ => ?_
    simp only [evS] at m
    let Wt : Nat → St → Hp → Prop := fun n σ' H' => ∃ ρ', Ro X.K X.mg G0 H0 ρ' σ' τ σt H' ∧ OutP X.K X.mg W D G0 H0 τ σt (whGo (evT call c) (evSs call fl body) n ρ')
    refine ⟨Wt, ⟨fl, ρ, R, m⟩, fun n σ' H' ⟨ρ', R', q⟩ => ?_⟩
    cases n with
    | zero => exact q.elim
    | succ n =>
      simp only [whGo] at q
      refine ⟨G0, H0, ρ', τ, σt, R', ?_⟩
      show RsP (evT call c ρ') _ _
      cases hc : evT call c ρ' with
      | no => rw [hc] at q; exact q.elim
      | ex x => rw [hc] at q; exact fun H2 C R2 s e => q σ' H2 C R2 e
      | ok b =>
        rw [hc] at q
        intro H2 τ2 σt2 R2 s2 p2 q2
        cases b with
        | false =>
          rw [if_neg Bool.false_ne_true]
          exact q σ' H2 (R2.back R.l2 p2 q2)
        | true =>
          rw [if_pos rfl]
          refine ⟨Wt n, fun σ3 H3 w => ⟨n, Nat.lt_succ_self n, w⟩, G0, H0, ρ', τ, σt, R2.back R.l2 p2 q2, ?_⟩
          have q : OutP X.K X.mg W D G0 H0 τ σt (match evSs call fl body ρ' with | .nx ρ' => whGo (evT call c) (evSs call fl body) n ρ' | o => o) := q
          cases ho : evSs call fl body ρ' with
          | nx ρ2 => rw [ho] at q; exact fun σ3 H3 R3 => ⟨ρ2, R3, q⟩
          | rt t => rw [ho] at q; exact q
          | ex x ρ2 => rw [ho] at q; exact q
          | no => rw [ho] at q; exact q.elim
  | _ => exact Bool.noConfusion h
end
end Gl

set_option Elab.async false
set_option linter.all false
set_option maxRecDepth 100000
set_option maxHeartbeats 4000000
/-! GlPm: methods that change a list of plain items. -/
namespace Gl
open PySem L2
variable {mx : Mx} {call : Nat → List T → Rs T} {fl k : Nat}
section
variable {K : PySem.W.Frag} {mg : Str → Option Value} {G0 H0 G H : Hp} {F : Nat → List Addr} {ρ τ τ' : Env} {σ σt σt' : St} {i : Nat} {ts : List T} {a : Addr} {vs' : List V} {ds ds' : List PyData}
theorem RpL.dropLast : ∀ {ds : List PyData} {vs : List V}, RpL K G ds vs → RpL K G ds.dropLast vs.dropLast
  | _, _, .nil => .nil
  | _, _, .cons h .nil => .nil
  | _, _, .cons h (.cons h2 t) => .cons h (RpL.dropLast (.cons h2 t))
theorem RpL.eraseIdx : ∀ {ds : List PyData} {vs : List V} (j : Nat), RpL K G ds vs → RpL K G (ds.eraseIdx j) (vs.eraseIdx j)
  | _, _, _, .nil => .nil
  | _, _, 0, .cons h t => t
  | _, _, j + 1, .cons h t => .cons h (RpL.eraseIdx j t)
theorem RpL.rev : ∀ {ds : List PyData} {vs : List V}, RpL K G ds vs → RpL K G ds.reverse vs.reverse
  | _, _, .nil => .nil
  | _, _, .cons h t => by rw [List.reverse_cons, List.reverse_cons]; exact RpL.append (RpL.rev t) (.cons h .nil)
/-- the list in slot i changed -/
theorem Ro.relist (R : Ro K mg G0 H0 ρ σ τ' σt' H) (l2 : τ.length = σt.length) (p : τ <+: τ') (q : σt <+: σt') (e : ρ[i]? = some (some (.node .lst ts))) (ev : σ[i]? = some (some (.ref a)))
    (h : ∀ (G : Hp) (F : Nat → List Addr) (vs : List V) (f : List Addr), RelG K mg G0 H0 G F (ρ ++ τ') (σ ++ σt') H → H a = some (.lst vs) → OwnL K mg G H ts vs f → RpL K G ds' vs') :
    Ro K mg G0 H0 (ρ.set i (some (T.L ds'))) σ τ σt (upd H a (.lst vs')) := by
  obtain ⟨a1, va, a2, a3⟩ := R.get e
  rw [ev] at a2
  cases a2
  have l1 := R.l1
  have hi := (List.getElem?_eq_some_iff.mp e).1
  obtain ⟨G, F, r⟩ := R.rel
  obtain ⟨w, qw, o⟩ := r.own i _ a1
  rw [a3] at qw
  cases qw
  have ndi := r.nd i _ a1
  have fri := r.free i _ a1
  have apx := fun (l : Nat) (u : T) (n : l ≠ i) (q : (ρ ++ τ')[l]? = some (some u)) => r.apart l i u _ n q a1
  have chg := fun t' v' f' ρ' σ' => r.change (t' := t') (v' := v') (f' := f') (ρ' := ρ') (σ' := σ') (H' := upd H a (.lst vs')) a1
  have h' := h G F
  generalize F i = fi at o ndi fri apx chg
  cases o with
  | node sh ol it =>
    rename_i vs ex f
    have hl : H a = some (.lst vs) := sh.1
    have rp := h' vs f r hl ol
    have hx : ex = [] := sh.2
    subst hx
    have own' : Own K mg G (upd H a (.lst vs')) (.node .lst (ds'.map .imm)) (.ref a) (a :: ([] ++ [])) := .node ⟨upd_same, rfl⟩ (OwnL.ofImms rp) (fun z => nomatch z)
    refine (show Ro K mg G0 H0 (ρ.set i (some (T.L ds'))) σ τ' σt' (upd H a (.lst vs')) from ⟨by rw [List.length_set]; exact l1, R.l2, chg _ _ _ _ _ (fun b hb o q => ?_) own' (by simp) (fun b hb => ?_) (set_at hi) a3 fun l u n q => ?_⟩).back l2 p q
    · rw [upd_ne (fun z => hb (by rw [z]; exact List.mem_cons_self))]; exact q
    · rcases List.mem_cons.mp hb with z | z
      · subst z; exact fri b List.mem_cons_self
      · exact absurd z (by simp)
    · rw [set_un n] at q
      refine ⟨q, rfl, fun b hb z => ?_⟩
      rcases List.mem_cons.mp z with z | z
      · subst z; exact apx l u n q b hb List.mem_cons_self
      · exact absurd z (by simp)
end
theorem imms_inv : ∀ {ts : List T} {ds : List PyData}, imms ts = some ds → ts = ds.map .imm
  | [], ds, h => by simp only [imms, Option.some.injEq] at h; subst h; rfl
  | t :: ts, ds, h => by
    cases t with
    | imm d =>
      simp only [imms] at h
      cases h2 : imms ts with
      | none => rw [h2] at h; cases h
      | some r => rw [h2] at h; cases h; rw [imms_inv h2]; rfl
    | _ => simp [imms] at h
theorem lmG_inv {o : Option (Option T)} {k : List PyData → O} {P : O → Prop} (hn : ¬ P .no) (h : P (lmG o k)) : ∃ ds, o = some (some (.node .lst (ds.map .imm))) ∧ P (k ds) := by
  unfold lmG at h
  split at h
  · split at h
    · next ds hd => rw [imms_inv hd]; exact ⟨ds, rfl, h⟩
    · exact absurd h hn
  · exact absurd h hn
theorem sq_lm0_pop {i : Nat} : SPq mx call fl k (.lm0 .pop i) := fun X W st ok tk h => by
  cases st with
  | Expr v pos =>
    match v, h with
    | .Call (.Attribute (.Name x xp) n ap) [] [] cp, h =>
      have h : (decide (n = "pop") && decide (X.N[i]? = some x) && visB X.env.scope x && okN x && (ap.endLine == cp.line)) = true := h
      rw [Bool.and_eq_true, Bool.and_eq_true, Bool.and_eq_true, Bool.and_eq_true, decide_eq_true_eq, decide_eq_true_eq] at h
      obtain ⟨⟨⟨⟨rfl, h1⟩, h2⟩, h3⟩, h4⟩ := h
      refine psImp (ps_expr (pe_bm0 F.plainAttrs_list F.slot_list_pop F.type_list_pop mt_pop (pe_var h1 (visB_ok h2) (okN_1 h3) (okN_2 h3)) (attr_pl rfl rfl) h4) rfl) fun D σ H ⟨G0, H0, ρ, τ, σt, R, m⟩ => ?_
      simp only [evS] at m
      obtain ⟨ds, e1, m⟩ := lmG_inv (P := OutQ X.K X.mg W D G0 H0 σ τ σt) (fun z => z) m
      obtain ⟨p, vs, b1, b2, b3⟩ := R.node e1 (fun _ _ z => nomatch z)
      have b2 : H p = some (.lst vs) := b2.1
      have b3 : ds.length = vs.length := by rw [← b3, List.length_map]
      have rl := fun (ds' : List PyData) (vs' : List V) (hh : ∀ G, RpL X.K G ds vs → RpL X.K G ds' vs') => R.relist (ds' := ds') (vs' := vs') R.l2 List.prefix_rfl List.prefix_rfl e1 b1 fun G F vs2 f r hl2 ol => by
        have : vs2 = vs := by rw [b2] at hl2; cases hl2; rfl
        subst this
        exact hh G (ol.imms (imms_map ds)).1
      simp only [lm0T] at m
      by_cases hd : ds = []
      · rw [if_pos hd] at m; exact m.elim
      · rw [if_neg hd] at m
        have hp := List.length_pos_iff.mpr hd
        have hy : vs[vs.length - 1]? = some vs[vs.length - 1] := List.getElem?_eq_getElem (by omega)
        exact ⟨.ref p, b1, .inl ⟨rfl, vs, SqL.of b2⟩, p, vs, _, rfl, rfl, b2, hy, m _ (rl _ _ fun G r => r.dropLast)⟩
  | _ => exact Bool.noConfusion h
theorem sq_lm0_rev {i : Nat} : SPq mx call fl k (.lm0 .rev i) := fun X W st ok tk h => by
  cases st with
  | Expr v pos =>
    match v, h with
    | .Call (.Attribute (.Name x xp) n ap) [] [] cp, h =>
      have h : (decide (n = "reverse") && decide (X.N[i]? = some x) && visB X.env.scope x && okN x && (ap.endLine == cp.line)) = true := h
      rw [Bool.and_eq_true, Bool.and_eq_true, Bool.and_eq_true, Bool.and_eq_true, decide_eq_true_eq, decide_eq_true_eq] at h
      obtain ⟨⟨⟨⟨rfl, h1⟩, h2⟩, h3⟩, h4⟩ := h
      refine psImp (ps_expr (pe_bm0 F.plainAttrs_list F.slot_list_reverse F.type_list_reverse mt_reverse (pe_var h1 (visB_ok h2) (okN_1 h3) (okN_2 h3)) (attr_pl rfl rfl) h4) rfl) fun D σ H ⟨G0, H0, ρ, τ, σt, R, m⟩ => ?_
      simp only [evS] at m
      obtain ⟨ds, e1, m⟩ := lmG_inv (P := OutQ X.K X.mg W D G0 H0 σ τ σt) (fun z => z) m
      obtain ⟨p, vs, b1, b2, b3⟩ := R.node e1 (fun _ _ z => nomatch z)
      have b2 : H p = some (.lst vs) := b2.1
      have b3 : ds.length = vs.length := by rw [← b3, List.length_map]
      have rl := fun (ds' : List PyData) (vs' : List V) (hh : ∀ G, RpL X.K G ds vs → RpL X.K G ds' vs') => R.relist (ds' := ds') (vs' := vs') R.l2 List.prefix_rfl List.prefix_rfl e1 b1 fun G F vs2 f r hl2 ol => by
        have : vs2 = vs := by rw [b2] at hl2; cases hl2; rfl
        subst this
        exact hh G (ol.imms (imms_map ds)).1
      exact ⟨.ref p, b1, .inl ⟨rfl, vs, SqL.of b2⟩, p, vs, rfl, rfl, b2, m _ (rl _ _ fun G r => r.rev)⟩
  | _ => exact Bool.noConfusion h
theorem sq_lm0_clr {i : Nat} : SPq mx call fl k (.lm0 .clr i) := fun X W st ok tk h => by
  cases st with
  | Expr v pos =>
    match v, h with
    | .Call (.Attribute (.Name x xp) n ap) [] [] cp, h =>
      have h : (decide (n = "clear") && decide (X.N[i]? = some x) && visB X.env.scope x && okN x && (ap.endLine == cp.line)) = true := h
      rw [Bool.and_eq_true, Bool.and_eq_true, Bool.and_eq_true, Bool.and_eq_true, decide_eq_true_eq, decide_eq_true_eq] at h
      obtain ⟨⟨⟨⟨rfl, h1⟩, h2⟩, h3⟩, h4⟩ := h
      refine psImp (ps_expr (pe_bm0 F.plainAttrs_list F.slot_list_clear F.type_list_clear mt_clear (pe_var h1 (visB_ok h2) (okN_1 h3) (okN_2 h3)) (attr_pl rfl rfl) h4) rfl) fun D σ H ⟨G0, H0, ρ, τ, σt, R, m⟩ => ?_
      simp only [evS] at m
      obtain ⟨ds, e1, m⟩ := lmG_inv (P := OutQ X.K X.mg W D G0 H0 σ τ σt) (fun z => z) m
      obtain ⟨p, vs, b1, b2, b3⟩ := R.node e1 (fun _ _ z => nomatch z)
      have b2 : H p = some (.lst vs) := b2.1
      have b3 : ds.length = vs.length := by rw [← b3, List.length_map]
      have rl := fun (ds' : List PyData) (vs' : List V) (hh : ∀ G, RpL X.K G ds vs → RpL X.K G ds' vs') => R.relist (ds' := ds') (vs' := vs') R.l2 List.prefix_rfl List.prefix_rfl e1 b1 fun G F vs2 f r hl2 ol => by
        have : vs2 = vs := by rw [b2] at hl2; cases hl2; rfl
        subst this
        exact hh G (ol.imms (imms_map ds)).1
      exact ⟨.ref p, b1, .inl ⟨rfl, vs, SqL.of b2⟩, p, vs, rfl, rfl, b2, m _ (rl _ _ fun G r => .nil)⟩
  | _ => exact Bool.noConfusion h
theorem sq_lm0 : ∀ {m : LM0} {i : Nat}, SPq mx call fl k (.lm0 m i)
  | .pop, _ => sq_lm0_pop
  | .rev, _ => sq_lm0_rev
  | .clr, _ => sq_lm0_clr
theorem seqIx {i : Int} {n : Nat} (h0 : 0 ≤ i) (h : i < n) : seqIndex? i n = some i.toNat := by
  unfold seqIndex?
  first
    | (rw [if_neg (by omega)]; simp; omega)
    | (simp; omega)
section
variable {K : PySem.W.Frag} {mg : Str → Option Value} {G0 H0 G H : Hp} {F : Nat → List Addr} {ρ : Env} {σ : St} {t : T} {y : V} {d : PyData} {zs : List PyData}
theorem RelG.heldI (r : RelG K mg G0 H0 G F ρ σ H) (h : Hld ρ σ H (.imm d) y) : Rp K G d y := by
  obtain ⟨f, o⟩ := r.held h
  exact o.rp
theorem RelG.heldL (r : RelG K mg G0 H0 G F ρ σ H) (h : Hld ρ σ H t y) (e : lstOf t = some zs) : ∃ b xs, y = .ref b ∧ H b = some (.lst xs) ∧ RpL K G zs xs := by
  obtain ⟨f, o⟩ := r.held h
  unfold lstOf at e
  split at e
  · cases e
    have rp := o.rp
    cases rp with
    | lst h1 h2 => exact ⟨_, _, rfl, r.gh _ _ h1, h2⟩
  · cases o with
    | node sh ol it => exact ⟨_, _, rfl, sh.1, (ol.imms e).1⟩
  · cases e
end
theorem sq_lm1_popI {i : Nat} {e : E} : SPq mx call fl k (.lm1 .popI i e) := fun X W st ok tk h => by
  cases st with
  | Expr v pos =>
    match v, h with
    | .Call (.Attribute (.Name x xp) n ap) [a] [] cp, h =>
      have h : (decide (n = "pop") && decide (X.N[i]? = some x) && visB X.env.scope x && okN x && (ap.endLine == cp.line) && mE mx X.N X.env.scope e a) = true := h
      rw [Bool.and_eq_true, Bool.and_eq_true, Bool.and_eq_true, Bool.and_eq_true, Bool.and_eq_true, decide_eq_true_eq, decide_eq_true_eq] at h
      obtain ⟨⟨⟨⟨⟨rfl, h1⟩, h2⟩, h3⟩, h4⟩, h5⟩ := h
      have he := (se_all e X W a ok.ok tk h5).2.1
      have hst : starEach [a] X.env = (false, eval a X.env) :: starEach [] X.env := star_cons (pl_of h5)
      refine psImp (ps_expr (pe_bm F.plainAttrs_list F.slot_list_pop F.type_list_pop mt_popAt (pe_var h1 (visB_ok h2) (okN_1 h3) (okN_2 h3)) (pa_cons he pa_nil hst) (attr_pl rfl rfl) (by rw [hst]; rfl) h4 hst rfl) rfl) fun D σ H ⟨G0, H0, ρ, τ, σt, R, m⟩ => ?_
      simp only [evS] at m
      obtain ⟨ds, e1, m⟩ := lmG_inv (P := OutQ X.K X.mg W D G0 H0 σ τ σt) (fun z => z) m
      obtain ⟨p, vs, b1, b2, b3⟩ := R.node e1 (fun _ _ z => nomatch z)
      refine ⟨.ref p, b1, .inl ⟨rfl, vs, SqL.of b2.1⟩, G0, H0, ρ, τ, σt, R, (O.rsQ m).imp (fun u _ q => fun y H1 τ1 σt1 R1 s p1 q1 hd => ?_) fun _ q => q⟩
      obtain ⟨p', vs', c1, c2, c3⟩ := R1.node e1 (fun _ _ z => nomatch z)
      rw [b1] at c1
      cases c1
      have c2 : H1 p = some (.lst vs') := c2.1
      have c3 : ds.length = vs'.length := by rw [← c3, List.length_map]
      have rl := fun (ds' : List PyData) (vs2 : List V) (hh : ∀ G F, RelG X.K X.mg G0 H0 G F (ρ ++ τ1) (σ ++ σt1) H1 → RpL X.K G ds vs' → RpL X.K G ds' vs2) => R1.relist (ds' := ds') (vs' := vs2) R.l2 p1 q1 e1 b1 fun G F vs3 f r hl2 ol => by
        have : vs3 = vs' := by rw [c2] at hl2; cases hl2; rfl
        subst this
        exact hh G F r (ol.imms (imms_map ds)).1
      obtain ⟨G, F, r⟩ := R1.rel
      simp only [lm1T] at q
      split at q
      · next k _ =>
        split at q
        · next hk =>
          have ry := r.heldI hd
          cases ry
          exact ⟨p, vs', k, k.toNat, vs'[k.toNat]'(by omega), rfl, rfl, c2, by omega, by omega, seqIx hk.1 (by omega), List.getElem?_eq_getElem (by omega), q _ (rl _ _ fun G F _ r => r.eraseIdx _)⟩
        · exact q.elim
      · exact q.elim
  | _ => exact Bool.noConfusion h
theorem sq_lm1_ext {i : Nat} {e : E} : SPq mx call fl k (.lm1 .ext i e) := fun X W st ok tk h => by
  cases st with
  | Expr v pos =>
    match v, h with
    | .Call (.Attribute (.Name x xp) n ap) [a] [] cp, h =>
      have h : (decide (n = "extend") && decide (X.N[i]? = some x) && visB X.env.scope x && okN x && (ap.endLine == cp.line) && mE mx X.N X.env.scope e a) = true := h
      rw [Bool.and_eq_true, Bool.and_eq_true, Bool.and_eq_true, Bool.and_eq_true, Bool.and_eq_true, decide_eq_true_eq, decide_eq_true_eq] at h
      obtain ⟨⟨⟨⟨⟨rfl, h1⟩, h2⟩, h3⟩, h4⟩, h5⟩ := h
      have he := (se_all e X W a ok.ok tk h5).2.1
      have hst : starEach [a] X.env = (false, eval a X.env) :: starEach [] X.env := star_cons (pl_of h5)
      refine psImp (ps_expr (pe_bm F.plainAttrs_list F.slot_list_extend F.type_list_extend mt_extend (pe_var h1 (visB_ok h2) (okN_1 h3) (okN_2 h3)) (pa_cons he pa_nil hst) (attr_pl rfl rfl) (by rw [hst]; rfl) h4 hst rfl) rfl) fun D σ H ⟨G0, H0, ρ, τ, σt, R, m⟩ => ?_
      simp only [evS] at m
      obtain ⟨ds, e1, m⟩ := lmG_inv (P := OutQ X.K X.mg W D G0 H0 σ τ σt) (fun z => z) m
      obtain ⟨p, vs, b1, b2, b3⟩ := R.node e1 (fun _ _ z => nomatch z)
      refine ⟨.ref p, b1, .inl ⟨rfl, vs, SqL.of b2.1⟩, G0, H0, ρ, τ, σt, R, (O.rsQ m).imp (fun u _ q => fun y H1 τ1 σt1 R1 s p1 q1 hd => ?_) fun _ q => q⟩
      obtain ⟨p', vs', c1, c2, c3⟩ := R1.node e1 (fun _ _ z => nomatch z)
      rw [b1] at c1
      cases c1
      have c2 : H1 p = some (.lst vs') := c2.1
      have c3 : ds.length = vs'.length := by rw [← c3, List.length_map]
      have rl := fun (ds' : List PyData) (vs2 : List V) (hh : ∀ G F, RelG X.K X.mg G0 H0 G F (ρ ++ τ1) (σ ++ σt1) H1 → RpL X.K G ds vs' → RpL X.K G ds' vs2) => R1.relist (ds' := ds') (vs' := vs2) R.l2 p1 q1 e1 b1 fun G F vs3 f r hl2 ol => by
        have : vs3 = vs' := by rw [c2] at hl2; cases hl2; rfl
        subst this
        exact hh G F r (ol.imms (imms_map ds)).1
      obtain ⟨G, F, r⟩ := R1.rel
      simp only [lm1T] at q
      cases hz : lstOf u with
      | none => rw [hz] at q; exact q.elim
      | some zs =>
        rw [hz] at q
        dsimp only at q
        split at q
        · next hl =>
          obtain ⟨b, xs, rfl, hb, rx⟩ := r.heldL hd hz
          refine ⟨p, b, vs', xs, rfl, rfl, c2, hb, by rw [← c3, ← rx.length]; exact hl, q _ (rl _ _ fun G F r r2 => ?_)⟩
          obtain ⟨b', xs', e', hb', rx'⟩ := r.heldL hd hz
          cases e'
          rw [hb] at hb'
          cases hb'
          exact r2.append rx'
        · exact q.elim
  | _ => exact Bool.noConfusion h
theorem sq_lm1 : ∀ {m : LM1} {i : Nat} {e : E}, SPq mx call fl k (.lm1 m i e)
  | .popI, _, _ => sq_lm1_popI
  | .ext, _, _ => sq_lm1_ext
theorem sq_ins {i : Nat} {e e2 : E} : SPq mx call fl k (.ins i e e2) := fun X W st ok tk h => by
  cases st with
  | Expr v pos =>
    match v, h with
    | .Call (.Attribute (.Name x xp) n ap) [a, b] [] cp, h =>
      have h : (decide (n = "insert") && decide (X.N[i]? = some x) && visB X.env.scope x && okN x && (ap.endLine == cp.line) && (mE mx X.N X.env.scope e a && mE mx X.N X.env.scope e2 b)) = true := h
      rw [Bool.and_eq_true, Bool.and_eq_true, Bool.and_eq_true, Bool.and_eq_true, Bool.and_eq_true, Bool.and_eq_true, decide_eq_true_eq, decide_eq_true_eq] at h
      obtain ⟨⟨⟨⟨⟨rfl, h1⟩, h2⟩, h3⟩, h4⟩, h5, h6⟩ := h
      have he := (se_all e X W a ok.ok tk h5).2.1
      have he2 := (se_all e2 X W b ok.ok tk h6).2.1
      have hst2 : starEach [b] X.env = (false, eval b X.env) :: starEach [] X.env := star_cons (pl_of h6)
      have hst : starEach [a, b] X.env = (false, eval a X.env) :: starEach [b] X.env := star_cons (pl_of h5)
      refine psImp (ps_expr (pe_bm F.plainAttrs_list F.slot_list_insert F.type_list_insert mt_insert (pe_var h1 (visB_ok h2) (okN_1 h3) (okN_2 h3)) (pa_cons he (pa_cons he2 pa_nil hst2) hst) (attr_pl rfl rfl) (by rw [hst, hst2]; rfl) h4 hst (by rw [hst2]; rfl)) rfl) fun D σ H ⟨G0, H0, ρ, τ, σt, R, m⟩ => ?_
      simp only [evS] at m
      obtain ⟨ds, e1, m⟩ := lmG_inv (P := OutQ X.K X.mg W D G0 H0 σ τ σt) (fun z => z) m
      obtain ⟨p, vs, b1, b2, b3⟩ := R.node e1 (fun _ _ z => nomatch z)
      refine ⟨.ref p, b1, .inl ⟨rfl, vs, SqL.of b2.1⟩, G0, H0, ρ, τ, σt, R, (O.rsQ m).imp (fun u _ q => fun y H1 τ1 σt1 R1 s1 p1 q1 hd => ?_) fun _ q => q⟩
      refine ⟨G0, H0, ρ, τ1, σt1, R1, (O.rsQ (H := H) (σ := σ) q).imp (fun u2 _ q => fun y2 H2 τ2 σt2 R2 s2 p2 q2 hd2 => ?_) fun _ q => q.later R.l2 s1 p1 q1⟩
      obtain ⟨p', vs', c1, c2, c3⟩ := R2.node e1 (fun _ _ z => nomatch z)
      rw [b1] at c1
      cases c1
      have c2 : H2 p = some (.lst vs') := c2.1
      have c3 : ds.length = vs'.length := by rw [← c3, List.length_map]
      obtain ⟨G, F, r⟩ := R1.rel
      unfold insT at q
      split at q
      · next k d _ _ _ =>
        split at q
        · next hk =>
          have ry := r.heldI hd
          cases ry
          refine ⟨p, vs', k, y2, rfl, rfl, c2, by omega, hk.1, by omega, q _ (R2.relist R.l2 (p1.trans p2) (q1.trans q2) e1 b1 fun G F vs3 f r2 hl2 ol => ?_)⟩
          have : vs3 = vs' := by rw [c2] at hl2; cases hl2; rfl
          subst this
          have r3 := (ol.imms (imms_map ds)).1
          exact ((r3.take _).append (.cons (r2.heldI hd2) .nil)).append (r3.drop _)
        · exact q.elim
      · exact q.elim
  | _ => exact Bool.noConfusion h
end Gl

set_option Elab.async false
set_option linter.all false
set_option maxRecDepth 100000
set_option maxHeartbeats 4000000
/-! GlPn: trees handed over to be changed. -/
namespace Gl
open PySem L2
variable {mx : Mx} {call : Nat → List T → Rs T} {fl k : Nat}
section
variable {K : PySem.W.Frag} {mg : Str → Option Value} {W : WX} {G0 H0 G H H' H1 : Hp} {F : Nat → List Addr} {ρ ρ' τ τ' τ1 : Env} {σ σ' σt σt' σt1 : St} {t t' : T} {v v' : V} {i j a : Nat} {kd : Kind} {us : List T}
/-- another tree for what lies in a slot -/
theorem RelG.retree (R : RelG K mg G0 H0 G F ρ σ H) (e : ρ[i]? = some (some t)) (h : ∀ v f, Own K mg G H t v f → σ[i]? = some (some v) → Own K mg G H t' v f) : RelG K mg G0 H0 G F (ρ.set i (some t')) σ H := by
  have hi := (List.getElem?_eq_some_iff.mp e).1
  have old : ∀ {l : Nat} {u : T}, (ρ.set i (some t'))[l]? = some (some u) → l ≠ i → ρ[l]? = some (some u) := fun {l u} q n => by rwa [List.getElem?_set_ne (fun z => n z.symm)] at q
  have any : ∀ {l : Nat} {u : T}, (ρ.set i (some t'))[l]? = some (some u) → ∃ u', ρ[l]? = some (some u') := fun {l u} q => by
    by_cases hl : l = i
    · subst hl; exact ⟨t, e⟩
    · exact ⟨u, old q hl⟩
  refine ⟨fun l u q => ?_, fun l u q => let ⟨_, z⟩ := any q; R.nd l _ z, fun l u q => let ⟨_, z⟩ := any q; R.free l _ z, fun l m u w n q1 q2 => let ⟨_, z1⟩ := any q1; let ⟨_, z2⟩ := any q2; R.apart l m _ _ n z1 z2, R.gh, R.g0, R.gx, R.h0⟩
  by_cases hl : l = i
  · subst hl
    rw [List.getElem?_set_self hi] at q
    cases q
    obtain ⟨v, qv, o⟩ := R.own l t e
    exact ⟨v, qv, h v _ o qv⟩
  · exact R.own l u (old q hl)
theorem Ro.retree (R : Ro K mg G0 H0 ρ σ τ σt H) (e : ρ[i]? = some (some t)) (h : ∀ G v f, Own K mg G H t v f → σ[i]? = some (some v) → Own K mg G H t' v f) : Ro K mg G0 H0 (ρ.set i (some t')) σ τ σt H := by
  obtain ⟨G, F, r⟩ := R.rel
  have hi := (List.getElem?_eq_some_iff.mp e).1
  refine ⟨by rw [List.length_set]; exact R.l1, R.l2, G, F, ?_⟩
  have := r.retree (i := i) (t' := t') (by rw [List.getElem?_append_left hi]; exact e) fun v f o ev => h G v f o (by rwa [List.getElem?_append_left (by rw [← R.l1]; exact hi)] at ev)
  rwa [List.set_append_left _ _ hi] at this
theorem Ro.pinA (R : Ro K mg G0 H0 ρ σ τ σt H) (e : ρ[i]? = some (some (.pin a kd us))) : σ[i]? = some (some (.ref a)) := by
  obtain ⟨a1, va, a2, a3⟩ := R.get e
  obtain ⟨G, F, r⟩ := R.rel
  obtain ⟨w, qw, o⟩ := r.own i _ a1
  rw [a3] at qw
  cases qw
  generalize F i = fi at o
  cases o
  exact a2
theorem Ro.nodeA (R : Ro K mg G0 H0 ρ σ τ σt H) (e : ρ[i]? = some (some (.node kd us))) : ∃ a, σ[i]? = some (some (.ref a)) := by
  obtain ⟨a1, va, a2, a3⟩ := R.get e
  obtain ⟨G, F, r⟩ := R.rel
  obtain ⟨w, qw, o⟩ := r.own i _ a1
  rw [a3] at qw
  cases qw
  generalize F i = fi at o
  cases o
  exact ⟨_, a2⟩
theorem Ro.unpin (R : Ro K mg G0 H0 ρ σ τ σt H) (e : ρ[i]? = some (some (.pin a kd us))) : Ro K mg G0 H0 (ρ.set i (some (.node kd us))) σ τ σt H :=
  R.retree e fun G v f o _ => o.vw (.inr ⟨_, _, _, rfl, rfl⟩)
theorem Ro.repin (R : Ro K mg G0 H0 ρ σ τ σt H) (e : ρ[i]? = some (some (.node kd us))) (ha : σ[i]? = some (some (.ref a))) : Ro K mg G0 H0 (ρ.set i (some (.pin a kd us))) σ τ σt H :=
  R.retree e fun G v f o ev => by
    rw [ha] at ev
    cases ev
    exact .pin o
theorem Ro.drop (R : Ro K mg G0 H0 ρ σ τ σt H) (i : Nat) : Ro K mg G0 H0 (ρ.set i none) σ τ σt H := by
  refine ⟨by rw [List.length_set]; exact R.l1, R.l2, R.rel.weak fun l u e => ⟨?_, rfl⟩⟩
  by_cases hl : l = i
  · subst hl
    by_cases hi : l < ρ.length
    · rw [set_at hi] at e; cases e
    · rw [List.set_eq_of_length_le (by omega)] at e; exact e
  · rwa [set_un hl] at e
theorem allA_outP {D : Ends} {f : Nat → O} (h : OutP K mg W D G0 H0 τ σt (allA f)) (a : Nat) : OutP K mg W D G0 H0 τ σt (f a) := by
  unfold allA at h
  split at h
  · next hh => rw [hh a]; exact h
  · exact h.elim
theorem sp_pn {s : S} (hs : SPq mx call fl k s) : SP1 mx call fl k (.pn i s) := fun X W st ok tk h => by
  have h : (inPl s && mS mx X.N X.env.scope s st) = true := by cases st <;> exact h
  rw [Bool.and_eq_true] at h
  refine psImp (hs X W st ok tk h.2) fun D σ H ⟨G0, H0, ρ, τ, σt, R, m⟩ => ?_
  simp only [evS] at m
  split at m
  · next a kd ts e =>
    have ha := R.pinA e
    refine ⟨G0, H0, ρ.set i (some (.node kd ts)), τ, σt, R.unpin e, ?_⟩
    cases ho : evS call fl s (ρ.set i (some (.node kd ts))) with
    | nx ρ' =>
      rw [ho] at m
      dsimp only at m
      split at m
      · next k' ts' e' => exact fun H' R' => m σ H' (R'.repin e' ha)
      · exact m.elim
    | rt t => rw [ho] at m; exact m.elim
    | ex c ρ' => rw [ho] at m; exact fun σ' H' C R' hC => m σ' H' C (R'.drop i) hC
    | no => rw [ho] at m; exact m.elim
  · exact m.elim
theorem paired_get {α β : Type} {P : α → β → Prop} : ∀ {l₁ : List α} {l₂ : List β} {i : Nat} {x : α}, Paired P l₁ l₂ → l₁[i]? = some x → ∃ y, l₂[i]? = some y ∧ P x y
  | _, _, _, _, .nil, e => by simp at e
  | _, _, 0, _, .cons r _, e => by simp at e; subst e; exact ⟨_, rfl, r⟩
  | _, _, i + 1, _, .cons _ t, e => by simp only [List.getElem?_cons_succ] at e ⊢; exact paired_get t e
/-- behind the call: the caller's state, what was handed over changed -/
theorem RelG.behind {F' : Nat → List Addr} {G' H0c : Hp} {w : Kind → List T → T} (r : RelG K mg G0 H0 G F (ρ ++ τ1) (σ ++ σt1) H1) (l1 : ρ.length = σ.length) (l2 : τ1.length = σt1.length) (e : ρ[i]? = some (some t')) (ha : σ[i]? = some (some (.ref a))) (hc : ∀ b, H0c b = if b ∈ F i then none else H1 b)
    (hB : ∀ (G H : Hp) k us v f, Own K mg G H (.pin a k us) v f → Own K mg G H (w k us) v f) (r' : RelG K mg G H0c G' F' [some t, some (.pin a kd us)] [some v, some (.ref a)] H') :
    Rel K mg G0 H0 (ρ.set i (some (w kd us)) ++ (τ1 ++ [some t])) (σ ++ (σt1 ++ [some v])) H' := by
  have hi := (List.getElem?_eq_some_iff.mp e).1
  have e1 : (ρ ++ τ1)[i]? = some (some t') := by rw [List.getElem?_append_left hi]; exact e
  have fi := r.free i _ e1
  have old : ∀ {l : Nat} {u : T}, (ρ.set i (some (w kd us)) ++ (τ1 ++ [some t]))[l]? = some (some u) → l ≠ i → l ≠ ρ.length + τ1.length → (ρ ++ τ1)[l]? = some (some u) ∧ (σ ++ (σt1 ++ [some v]))[l]? = (σ ++ σt1)[l]? := fun {l u} q n1 n2 => by
    rw [set_un n1, ← List.append_assoc] at q
    have hl : l < (ρ ++ τ1).length := by
      have := (List.getElem?_eq_some_iff.mp q).1
      simp at this ⊢
      omega
    rw [List.getElem?_append_left hl] at q
    exact ⟨q, by rw [← List.append_assoc]; exact List.getElem?_append_left (by simp at hl ⊢; omega)⟩
  have own1 : ∀ {l : Nat} {u : T}, (ρ ++ τ1)[l]? = some (some u) → l ≠ i → ∀ b ∈ F l, H0c b = H1 b ∧ H1 b ≠ none ∧ ¬ ScT (H1 b) := fun {l u} q n b hb => by
    obtain ⟨x, _, o⟩ := r.own l u q
    obtain ⟨ob, ho⟩ := o.dom b hb
    refine ⟨by rw [hc, if_neg (r.apart l i u _ n q e1 b hb)], by rw [ho]; exact (fun z => by cases z), o.noSc b hb⟩
  have h00 : ∀ b, H0c b = none → H0 b = none := fun b hb => by
    rw [hc] at hb
    by_cases hf : b ∈ F i
    · exact (fi b hf).2
    · rw [if_neg hf] at hb
      cases q : H0 b with
      | none => rfl
      | some o => rw [r.h0 b o q] at hb; cases hb
  have h0c : ∀ b o, H0 b = some o → H0c b = some o := fun b o q => by
    have hf : b ∉ F i := fun z => by rw [(fi b z).2] at q; cases q
    rw [hc, if_neg hf]
    exact r.h0 b o q
  have f0 := r'.free 0 _ rfl
  have f1 := r'.free 1 _ rfl
  have ilt : i ≠ ρ.length + τ1.length := by omega
  refine ⟨G', fun l => if l = i then F' 1 else if l = ρ.length + τ1.length then F' 0 else F l, fun l u q => ?_, fun l u q => ?_, fun l u q b hb => ?_, fun l m u x n q1 q2 b hb => ?_, r'.gh, r.g0.trans r'.g0, fun b h1 h2 => ?_, fun b o q => r'.h0 b o (h0c b o q)⟩
  · by_cases hl : l = i
    · subst hl
      rw [set_at hi] at q
      cases q
      obtain ⟨x, qx, o⟩ := r'.own 1 _ rfl
      cases qx
      refine ⟨.ref a, by rw [List.getElem?_append_left (by omega)]; exact ha, ?_⟩
      rw [if_pos rfl]
      exact hB _ _ _ _ _ _ o
    · by_cases hm : l = ρ.length + τ1.length
      · subst hm
        have q1 : (ρ.set i (some (w kd us)) ++ (τ1 ++ [some t]))[ρ.length + τ1.length]? = some (some t) := by rw [← List.append_assoc, List.getElem?_append_right (by simp)]; simp
        rw [q1] at q
        cases q
        obtain ⟨x, qx, o⟩ := r'.own 0 _ rfl
        cases qx
        refine ⟨v, by rw [← List.append_assoc, List.getElem?_append_right (by simp; omega)]; simp [l1, l2], ?_⟩
        rw [if_neg hl, if_pos rfl]
        exact o
      · obtain ⟨o1, o2⟩ := old q hl hm
        obtain ⟨x, qx, o⟩ := r.own l u o1
        refine ⟨x, o2.trans qx, ?_⟩
        rw [if_neg hl, if_neg hm]
        refine o.keep r'.g0 fun b hb ob hob => r'.h0 b ob ?_
        rw [(own1 o1 hl b hb).1]
        exact hob
  · by_cases hl : l = i
    · rw [if_pos hl]; exact r'.nd 1 _ rfl
    · by_cases hm : l = ρ.length + τ1.length
      · rw [if_neg hl, if_pos hm]; exact r'.nd 0 _ rfl
      · rw [if_neg hl, if_neg hm]; exact r.nd l u (old q hl hm).1
  · by_cases hl : l = i
    · rw [if_pos hl] at hb; exact ⟨(f1 b hb).1, h00 b (f1 b hb).2⟩
    · by_cases hm : l = ρ.length + τ1.length
      · rw [if_neg hl, if_pos hm] at hb; exact ⟨(f0 b hb).1, h00 b (f0 b hb).2⟩
      · rw [if_neg hl, if_neg hm] at hb
        have o1 := (old q hl hm).1
        obtain ⟨z1, z2, z3⟩ := own1 o1 hl b hb
        refine ⟨?_, (r.free l u o1 b hb).2⟩
        rcases r'.gx b (r.free l u o1 b hb).1 (by rw [z1]; exact z2) with z | z
        · exact z
        · rw [z1] at z; exact absurd z z3
  · have key : ∀ {l : Nat} {u : T}, (ρ.set i (some (w kd us)) ++ (τ1 ++ [some t]))[l]? = some (some u) → l ≠ i → l ≠ ρ.length + τ1.length → ∀ b ∈ F l, b ∉ F' 0 ∧ b ∉ F' 1 := fun {l u} q n1 n2 b hb => by
      obtain ⟨z1, z2, _⟩ := own1 (old q n1 n2).1 n1 b hb
      exact ⟨fun z => z2 (by rw [← z1]; exact (f0 b z).2), fun z => z2 (by rw [← z1]; exact (f1 b z).2)⟩
    by_cases hl : l = i
    · rw [if_pos hl] at hb
      have hmi : m ≠ i := fun z => n (hl.trans z.symm)
      rw [if_neg hmi]
      by_cases hm : m = ρ.length + τ1.length
      · rw [if_pos hm]; exact r'.apart 1 0 _ _ (by decide) rfl rfl b hb
      · rw [if_neg hm]; exact fun z => (key q2 hmi hm b z).2 hb
    · rw [if_neg hl] at hb
      by_cases hm : l = ρ.length + τ1.length
      · rw [if_pos hm] at hb
        have hml : m ≠ ρ.length + τ1.length := fun z => n (hm.trans z.symm)
        by_cases hmi : m = i
        · rw [if_pos hmi]; exact r'.apart 0 1 _ _ (by decide) rfl rfl b hb
        · rw [if_neg hmi, if_neg hml]; exact fun z => (key q2 hmi hml b z).1 hb
      · rw [if_neg hm] at hb
        obtain ⟨z0, z1⟩ := key q1 hl hm b hb
        by_cases hmi : m = i
        · rw [if_pos hmi]; exact z1
        · rw [if_neg hmi]
          by_cases hml : m = ρ.length + τ1.length
          · rw [if_pos hml]; exact z0
          · rw [if_neg hml]; exact r.apart l m u x n (old q1 hl hm).1 (old q2 hmi hml).1 b hb
  · rcases r.gx b h1 h2 with z | z
    · obtain ⟨o, ho⟩ := Option.ne_none_iff_exists'.mp h2
      have hq := h0c b o ho
      rcases r'.gx b z (by rw [hq]; exact fun z => by cases z) with z2 | z2
      · exact .inl z2
      · exact .inr (by rw [ho, ← hq]; exact z2)
    · exact .inr z
/-- .. when it was refused -/
theorem RelG.behindX {H0c : Hp} (r : RelG K mg G0 H0 G F (ρ ++ τ1) (σ ++ σt1) H1) (e : ρ[i]? = some (some t')) (hc : ∀ b, H0c b = if b ∈ F i then none else H1 b) (s : Same H0c H') : Rel K mg G0 H0 (ρ.set i none ++ τ1) (σ ++ σt1) H' := by
  have hi := (List.getElem?_eq_some_iff.mp e).1
  have e1 : (ρ ++ τ1)[i]? = some (some t') := by rw [List.getElem?_append_left hi]; exact e
  have fi := r.free i _ e1
  have old : ∀ {l : Nat} {u : T}, (ρ.set i none ++ τ1)[l]? = some (some u) → l ≠ i ∧ (ρ ++ τ1)[l]? = some (some u) := fun {l u} q => by
    have n : l ≠ i := fun z => by subst z; rw [set_at hi] at q; cases q
    exact ⟨n, by rwa [set_un n] at q⟩
  refine ⟨G, F, fun l u q => ?_, fun l u q => r.nd l u (old q).2, fun l u q => r.free l u (old q).2, fun l m u x n q1 q2 => r.apart l m u x n (old q1).2 (old q2).2, fun b o q => ?_, r.g0, r.gx, fun b o q => ?_⟩
  · obtain ⟨n, q⟩ := old q
    obtain ⟨x, qx, o⟩ := r.own l u q
    refine ⟨x, qx, o.keep (Same.refl G) fun b hb ob hob => s b ob ?_⟩
    rw [hc, if_neg (r.apart l i u _ n q e1 b hb)]
    exact hob
  · have hf : b ∉ F i := fun z => by rw [(fi b z).1] at q; cases q
    exact s b o (by rw [hc, if_neg hf]; exact r.gh b o q)
  · have hf : b ∉ F i := fun z => by rw [(fi b z).2] at q; cases q
    exact s b o (by rw [hc, if_neg hf]; exact r.h0 b o q)
end
section
variable (K : PySem.W.Frag) (mg : Str → Option Value) (W : WX)
def IoQ (G0 H0 : Hp) (ρ : Env) (σ : St) (τ : Env) (σt : St) (i : Nat) (w : Kind → List T → T) (a : Nat) (Q : VK) (r : Rs T) : Prop := match r with
  | .ok (.io t (.pin a' k us)) => a' = a ∧ ∀ v H', Ro K mg G0 H0 (ρ.set i (some (w k us))) σ (τ ++ [some t]) (σt ++ [some v]) H' → Q v H'
  | .ex c => ∀ H' C, Ro K mg G0 H0 (ρ.set i none) σ τ σt H' → mg c = some (.ref C) → W (.ref C) none σ H'
  | _ => False
def PHj (G0 H0 : Hp) (ρ : Env) (σ : St) (τ : Env) (σt : St) (H : Hp) (ts : List T) (j i : Nat) (Q : List V → Hp → Prop) : Prop := ∀ vs H' τ' σt', Ro K mg G0 H0 ρ σ τ' σt' H' → Same H H' → τ <+: τ' → σt <+: σt' → Paired (Hld (ρ ++ τ') (σ ++ σt') H') ts vs → (∃ v, σ[i]? = some (some v) ∧ vs[j]? = some v) → Q vs H'
def tAj (call : Nat → List T → Rs T) (es : List E) (j i : Nat) : TA := fun σ H Q => ∃ G0 H0 ρ τ σt, Ro K mg G0 H0 ρ σ τ σt H ∧ RsP (evAs call es ρ) (fun ts => PHj K mg G0 H0 ρ σ τ σt H ts j i Q) (PX K mg W G0 H0 ρ σ τ σt H)
def tIO (call : Nat → List T → Rs T) (f : Nat) (es : List E) (j i : Nat) : TE := fun σ H Q => ∃ G0 H0 ρ τ σt, Ro K mg G0 H0 ρ σ τ σt H ∧ RsP (evAs call es ρ) (fun ts => ∃ a kd us, σ[i]? = some (some (.ref a)) ∧
  ((ρ[i]? = some (some (.pin a kd us)) ∧ IoQ K mg W G0 H0 ρ σ τ σt i (fun k ts => .pin a k ts) a Q (callIO call f ts j (.pin a kd us))) ∨ (ρ[i]? = some (some (.node kd us)) ∧ IoQ K mg W G0 H0 ρ σ τ σt i .node a Q (callIO call f ts j (.pin a kd us))))) (PX K mg W G0 H0 ρ σ τ σt H)
end
section
variable {K : PySem.W.Frag} {mg : Str → Option Value} {W : WX} {G0 H0 G H H' H1 : Hp} {F : Nat → List Addr} {ρ ρ' τ τ' τ1 : Env} {σ σ' σt σt' σt1 : St} {t t' : T} {v v' : V} {i j a f : Nat} {kd : Kind} {us ts : List T} {vs : List V} {Q : VK}
theorem io_of {w : Kind → List T → T} (R : Ro K mg G0 H0 ρ σ τ σt H) (R1 : Ro K mg G0 H0 ρ σ τ1 σt1 H1) (p1 : τ <+: τ1) (q1 : σt <+: σt1) (h1 : Paired (Hld (ρ ++ τ1) (σ ++ σt1) H1) ts vs) (e : ρ[i]? = some (some (w kd us))) (ha : σ[i]? = some (some (.ref a))) (hj : vs[j]? = some (.ref a))
    (hA : ∀ (G H : Hp) f, Own K mg G H (w kd us) (.ref a) f → Own K mg G H (.pin a kd us) (.ref a) f) (hB : ∀ (G H : Hp) k us v f, Own K mg G H (.pin a k us) v f → Own K mg G H (w k us) v f)
    (m : IoQ K mg W G0 H0 ρ σ τ σt i w a Q (callIO call f ts j (.pin a kd us))) : spP K mg call f ts.length vs H1 Q (WE W σ) := by
  unfold callIO at m
  split at m
  · next hp =>
    classical
    obtain ⟨G, F, r⟩ := R1.rel
    have hi := (List.getElem?_eq_some_iff.mp e).1
    have e1 : (ρ ++ τ1)[i]? = some (some (w kd us)) := by rw [List.getElem?_append_left hi]; exact e
    have a1 : (σ ++ σt1)[i]? = some (some (.ref a)) := by rw [List.getElem?_append_left (by rw [← R1.l1]; exact hi)]; exact ha
    obtain ⟨x, qx, o⟩ := r.own i _ e1
    rw [a1] at qx
    cases qx
    let H0c : Hp := fun b => if b ∈ F i then none else H1 b
    have hc : ∀ b, H0c b = if b ∈ F i then none else H1 b := fun b => rfl
    have hl := Paired.len h1
    have hjl : j < ts.length := by rw [hl]; exact (List.getElem?_eq_some_iff.mp hj).1
    have RG : RelG K mg G H0c G (fun l => if l = j then F i else []) ((ts.set j (.pin a kd us)).map some) (vs.map some) H1 := by
      refine ⟨fun l u q => ?_, fun l u q => ?_, fun l u q b hb => ?_, fun l l' u u' n q1 q2 b hb => ?_, r.gh, Same.refl G, fun b h _ => .inl h, fun b o q => ?_⟩
      · rw [List.getElem?_map] at q
        by_cases hlj : l = j
        · subst hlj
          rw [List.getElem?_set_self hjl] at q
          cases q
          refine ⟨.ref a, by rw [List.getElem?_map, hj]; rfl, ?_⟩
          rw [if_pos rfl]
          exact hA _ _ _ o
        · rw [List.getElem?_set_ne (fun z => hlj z.symm)] at q
          cases hu : ts[l]? with
          | none => rw [hu] at q; cases q
          | some u' =>
            rw [hu] at q
            cases q
            obtain ⟨y, hy, hh⟩ := paired_get h1 hu
            have hpl : u.plain = true := by
              refine List.all_eq_true.mp hp u ?_
              refine List.mem_of_getElem? (i := l) ?_
              rw [List.getElem?_set_ne (fun z => hlj z.symm)]; exact hu
            obtain ⟨fu, ou, _⟩ := r.heldF hh
            refine ⟨y, by rw [List.getElem?_map, hy]; rfl, ?_⟩
            rw [if_neg hlj]
            rw [(ou.plain hpl).1] at ou
            exact ou
      · by_cases hlj : l = j
        · rw [if_pos hlj]; exact r.nd i _ e1
        · rw [if_neg hlj]; exact List.nodup_nil
      · by_cases hlj : l = j
        · rw [if_pos hlj] at hb; exact ⟨(r.free i _ e1 b hb).1, by rw [hc, if_pos hb]⟩
        · rw [if_neg hlj] at hb; cases hb
      · by_cases hlj : l' = j
        · by_cases hlj2 : l = j
          · exact absurd (hlj2.trans hlj.symm) n
          · rw [if_neg hlj2] at hb; cases hb
        · rw [if_neg hlj]; exact fun z => nomatch z
      · have hf : b ∉ F i := fun z => by rw [hc, if_pos z] at q; cases q
        rw [hc, if_neg hf] at q
        exact q
    refine ⟨hl.symm, G, H0c, _, ts.set j (.pin a kd us), by simp, RG, ?_⟩
    cases hcall : call f (ts.set j (.pin a kd us)) with
    | no => rw [hcall] at m; exact m.elim
    | ex c =>
      rw [hcall] at m
      have m : ∀ H' C, Ro K mg G0 H0 (ρ.set i none) σ τ σt H' → mg c = some (.ref C) → W (.ref C) none σ H' := m
      intro H' C s2 hC
      refine m H' C ?_ hC
      have l1 := R1.l1
      exact Ro.back ⟨by rw [List.length_set]; exact l1, R1.l2, r.behindX e hc s2⟩ R.l2 p1 q1
    | ok u =>
      rw [hcall] at m
      cases u with
      | io t p =>
        cases p with
        | pin a' k' us' =>
          have m : a' = a ∧ ∀ v H', Ro K mg G0 H0 (ρ.set i (some (w k' us'))) σ (τ ++ [some t]) (σt ++ [some v]) H' → Q v H' := m
          obtain ⟨ea, m2⟩ := m
          subst ea
          intro v H' hr
          obtain ⟨a2, k2, us2, ep, G', F', r'⟩ := hr.1 _ _ rfl
          cases ep
          have l1 := R1.l1
          have := r.behind l1 R1.l2 e ha hc hB r'
          exact m2 v H' ⟨by rw [List.length_set]; exact l1, by simp [R.l2], this.mid (by rw [List.length_set]; exact l1) R.l2 R1.l2 p1 q1⟩
        | _ => exact m.elim
      | _ => exact m.elim
  · exact m.elim
theorem varAt_0 {e : E} {es : List E} (h : varAt (e :: es) 0 i = true) : e = .var i := by
  unfold varAt at h
  simp only [List.getElem?_cons_zero] at h
  cases e with
  | var i' => simp only [decide_eq_true_eq] at h; rw [h]
  | _ => cases h
theorem varAt_s {e : E} {es : List E} (h : varAt (e :: es) (j + 1) i = true) : varAt es j i = true := by
  unfold varAt at h ⊢
  simpa only [List.getElem?_cons_succ] using h
theorem pa_argsJ : ∀ {es' : List E} {j : Nat} {X : Cx} {W : WX} {es : List Expr}, varAt es' j i = true → (∀ e ∈ es', SE mx call k e) → OkX mx call k X → Takes X W → mEs mx X.N X.env.scope es' es = true → PA X es (tAj X.K X.mg W call es' j i)
  | [], j, _, _, _, hv, _, _, _, _ => by cases j <;> cases hv
  | _ :: _, _, _, _, [], _, _, _, _, h => Bool.noConfusion h
  | e' :: es', 0, X, W, e :: es, hv, hs, ok, tk, h => by
    have h : (mE mx X.N X.env.scope e' e && mEs mx X.N X.env.scope es' es) = true := h
    rw [Bool.and_eq_true] at h
    have ev := varAt_0 hv
    subst ev
    cases e with
    | Name x pos =>
      have h0 : (decide (X.N[i]? = some x) && visB X.env.scope x && okN x) = true := h.1
      simp only [Bool.and_eq_true, decide_eq_true_eq] at h0
      obtain ⟨⟨h1, h2⟩, h3⟩ := h0
      have base : PE X (.Name x pos) (tVar i) := pe_var h1 (visB_ok h2) (okN_1 h3) (okN_2 h3)
      refine paImp (pa_cons base (pa_args (fun e h => hs e (List.mem_cons_of_mem _ h)) ok tk h.2) (star_cons (pl_of h.1))) fun σ H Q ⟨G0, H0, ρ, τ, σt, R, m⟩ => ?_
      simp only [evAs, isVar, if_true] at m
      have m := RsP.bind m
      have fin : ∀ t v, σ[i]? = some (some v) → Hld (ρ ++ τ) (σ ++ σt) H t v → RsP ((evAs call es' ρ).bind fun ts => Rs.ok (t :: ts)) (fun ts => PHj X.K X.mg G0 H0 ρ σ τ σt H ts 0 i Q) (PX X.K X.mg W G0 H0 ρ σ τ σt H) → tVar i σ H fun v H1 => tAs X.K X.mg W call es' σ H1 fun vs H2 => Q (v :: vs) H2 := fun t v qv hh m1 =>
        ⟨v, qv, G0, H0, ρ, τ, σt, R, (RsP.bind m1).imp (fun ts _ m2 => fun vs H2 τ2 σt2 R2 s2 p2 q2 h2 => (m2 : PHj _ _ _ _ _ _ _ _ _ _ _ _ _) (v :: vs) H2 τ2 σt2 R2 s2 p2 q2 (.cons (hh.grow s2 p2 q2) h2) ⟨v, qv, rfl⟩) fun _ q => q⟩
      simp only [evX] at m
      split at m
      · next a kd us ht =>
        obtain ⟨e1, v, q1, q2⟩ := R.get ht
        rw [if_pos (by simp)] at m
        exact fin _ v q1 (Hld.pin e1 q2) m
      · next t _ ht =>
        obtain ⟨e1, v, q1, q2⟩ := R.get ht
        rw [if_pos (by simp)] at m
        exact fin _ v q1 (Hld.slot e1 q2) m
      · exact m.elim
    | _ => exact Bool.noConfusion h.1
  | e' :: es', j + 1, X, W, e :: es, hv, hs, ok, tk, h => by
    have h : (mE mx X.N X.env.scope e' e && mEs mx X.N X.env.scope es' es) = true := h
    rw [Bool.and_eq_true] at h
    refine paImp (pa_cons (pe_arg (hs e' List.mem_cons_self) ok tk h.1) (pa_argsJ (varAt_s hv) (fun e h => hs e (List.mem_cons_of_mem _ h)) ok tk h.2) (star_cons (pl_of h.1))) fun σ H Q ⟨G0, H0, ρ, τ, σt, R, m⟩ => ?_
    simp only [evAs] at m
    refine ⟨G0, H0, ρ, τ, σt, R, (RsP.bind m).imp (fun t _ m1 => fun v H1 τ1 σt1 R1 s1 p1 q1 h1 => ?_) fun _ q => q⟩
    refine ⟨G0, H0, ρ, τ1, σt1, R1, (RsP.bind m1).imp (fun ts _ m2 => fun vs H2 τ2 σt2 R2 s2 p2 q2 h2 ⟨z, z1, z2⟩ => ?_) fun c h => h.later R.l2 s1 p1 q1⟩
    exact (m2 : PHj _ _ _ _ _ _ _ _ _ _ _ _ _) (v :: vs) H2 τ2 σt2 R2 (s1.trans s2) (p1.trans p2) (q1.trans q2) (.cons (h1.grow s2 p2 q2) h2) ⟨z, z1, by simpa using z2⟩
theorem pe_cio {es' : List E} {X : Cx} {W : WX} {e : Expr} (hs : ∀ e ∈ es', SE mx call k e) (ok : OkX mx call k X) (tk : Takes X W) (h : mE mx X.N X.env.scope (.call f es') e = true) (hv : varAt es' j i = true) : PE X e (tIO X.K X.mg W call f es' j i) := by
  cases e with
  | Call g es kws pos =>
    cases g with
    | Name x p =>
      cases kws with
      | cons => exact Bool.noConfusion h
      | nil =>
        have h : (!mx.hot && decide (mx.fns[f]? = some (x, es'.length)) && glB X.env.scope x && okN x && !es.isEmpty && mEs mx X.N X.env.scope es' es) = true := h
        simp only [Bool.and_eq_true, decide_eq_true_eq, Bool.not_eq_true', List.isEmpty_eq_false_iff] at h
        obtain ⟨⟨⟨⟨⟨hc, h1⟩, h2⟩, h3⟩, h4⟩, h5⟩ := h
        obtain ⟨a, fd, ps, m1, m2, m3, m4, m5⟩ := ok.md.fn hc f x _ h1
        have hpl := pls_of h5
        cases es with
        | nil => exact absurd rfl h4
        | cons e0 es0 =>
          rw [List.all_cons, Bool.and_eq_true] at hpl
          refine peImp (pe_callS (E := WE W) m5 (ok.room hc) (glB_ok h2) m1 m2 m3 (fun σ => passAt tk σ) (pa_argsJ hv hs ok tk h5) (okN_1 h3) (star_cons hpl.1) (star_all hpl.2)) fun σ H Q ⟨G0, H0, ρ, τ, σt, R, m⟩ => ?_
          refine ⟨G0, H0, ρ, τ, σt, R, m.imp (fun ts et ⟨a, kd, us, ha, q⟩ => fun vs H1 τ1 σt1 R1 s1 p1 q1 h1 ⟨v, hv1, hv2⟩ => ?_) fun _ q => q⟩
          rw [ha] at hv1
          cases hv1
          rw [← evAs_len et]
          rcases q with ⟨e, q⟩ | ⟨e, q⟩
          · exact io_of (w := fun k ts => .pin a k ts) R R1 p1 q1 h1 e ha hv2 (fun _ _ _ o => o) (fun _ _ _ _ _ _ o => o) q
          · exact io_of (w := .node) R R1 p1 q1 h1 e ha hv2 (fun _ _ _ o => .pin o) (fun _ _ _ _ _ _ o => o.vw (.inr ⟨_, _, _, rfl, rfl⟩)) q
    | _ => exact Bool.noConfusion h
  | _ => exact Bool.noConfusion h
theorem io_out {D : Ends} {tg : Tg} {w : Kind → List T → T} {r : Rs T} (hq : ∀ t ρ' v H', OutP K mg W D G0 H0 τ σt (tgO tg t ρ') → Ro K mg G0 H0 ρ' σ (τ ++ [some t]) (σt ++ [some v]) H' → Q v H') (q : OutP K mg W D G0 H0 τ σt (ioO tg ρ i w a r)) : IoQ K mg W G0 H0 ρ σ τ σt i w a Q r := by
  cases r with
  | no => exact q
  | ex c => exact fun H' C R' hC => q σ H' C R' hC
  | ok t =>
    cases t with
    | io t p =>
      cases p with
      | pin a' k us =>
        have q : OutP K mg W D G0 H0 τ σt (if a' = a then tgO tg t (ρ.set i (some (w k us))) else .no) := q
        by_cases h : a' = a
        · rw [if_pos h] at q
          exact ⟨h, fun v H' R' => hq _ _ _ _ q R'⟩
        · rw [if_neg h] at q
          exact q.elim
      | _ => exact q.elim
    | _ => exact q.elim
theorem io_go {D : Ends} {tg : Tg} {es : List E} (R : Ro K mg G0 H0 ρ σ τ σt H) (m : OutP K mg W D G0 H0 τ σt (evS call fl (.cio tg f es j i) ρ)) (hq : ∀ t ρ' v H', OutP K mg W D G0 H0 τ σt (tgO tg t ρ') → Ro K mg G0 H0 ρ' σ (τ ++ [some t]) (σt ++ [some v]) H' → Q v H') : tIO K mg W call f es j i σ H Q := by
  simp only [evS] at m
  refine ⟨G0, H0, ρ, τ, σt, R, (O.rsP m).imp (fun ts _ q => ?_) fun _ q => q⟩
  split at q
  · next a kd us e => exact ⟨a, kd, us, R.pinA e, .inl ⟨e, io_out hq q⟩⟩
  · next kd us e =>
    obtain ⟨a, ha⟩ := R.nodeA e
    exact ⟨a, kd, us, ha, .inr ⟨e, io_out hq (allA_outP q a)⟩⟩
  · exact q.elim
theorem sp_cio {tg : Tg} {es : List E} : SP1 mx call fl k (.cio tg f es j i) := fun X W st ok tk h => by
  cases tg with
  | non =>
    cases st with
    | Expr v pos =>
      have h : (mE mx X.N X.env.scope (.call f es) v && varAt es j i && noLc v) = true := h
      rw [Bool.and_eq_true, Bool.and_eq_true] at h
      obtain ⟨⟨h1, h2⟩, h3⟩ := h
      exact psImp (ps_expr (pe_cio (fun e _ => se_all e) ok.ok tk h1 h2) (swaps_pl (pl_of h1) h3)) fun D σ H ⟨G0, H0, ρ, τ, σt, R, m⟩ => io_go R m fun t ρ' v H' q R' => q σ H' (R'.back R.l2 (List.prefix_append ..) (List.prefix_append ..))
    | Assign ts v pos =>
      match ts, h with
      | [t], h => exact Bool.noConfusion h
    | _ => exact Bool.noConfusion h
  | one x =>
    cases st with
    | Assign ts v pos =>
      match ts, h with
      | [t], h =>
        have h : (tgB X.N X.env.scope x t && mE mx X.N X.env.scope (.call f es) v && varAt es j i && noLc v && noTup v) = true := h
        rw [Bool.and_eq_true, Bool.and_eq_true, Bool.and_eq_true, Bool.and_eq_true] at h
        obtain ⟨⟨⟨⟨h0, h1⟩, h2⟩, h3⟩, _⟩ := h
        obtain ⟨y, p, rfl, hN, hl⟩ := tgB_ok h0
        exact psImp (ps_set ok.ok.nd hN (locB_ok hl) (pe_cio (fun e _ => se_all e) ok.ok tk h1 h2) (swaps_pl (pl_of h1) h3) (.inl (ok.fnT y))) fun D σ H ⟨G0, H0, ρ, τ, σt, R, m⟩ => io_go R m fun t ρ' v H' q R' => q _ H' (R'.put R.l2 x)
    | _ => exact Bool.noConfusion h
  | many is =>
    cases st with
    | Assign ts v pos =>
      match ts, h with
      | [t], h =>
        have h : (tgsB X.N X.env.scope is t && mE mx X.N X.env.scope (.call f es) v && varAt es j i && noLc v && noTup v) = true := h
        rw [Bool.and_eq_true, Bool.and_eq_true, Bool.and_eq_true, Bool.and_eq_true] at h
        obtain ⟨⟨⟨⟨h0, h1⟩, h2⟩, h3⟩, h4⟩ := h
        obtain ⟨ns, kk, p, rfl, hn⟩ := tgsB_ok h0
        obtain ⟨a1, a2, a3⟩ := pgs_of ok.ok.nd ok.fnT hn
        have hot : mx.hot = false := by
          cases v with
          | Call g es' kws pos =>
            cases g with
            | Name x p =>
              cases kws with
              | cons => exact Bool.noConfusion h1
              | nil =>
                have h : (!mx.hot && decide (mx.fns[f]? = some (x, es.length)) && glB X.env.scope x && okN x && !es'.isEmpty && mEs mx X.N X.env.scope es es') = true := h1
                simp only [Bool.and_eq_true, Bool.not_eq_true'] at h
                exact h.1.1.1.1.1
            | _ => exact Bool.noConfusion h1
          | _ => exact Bool.noConfusion h1
        refine psImp (ps_asg (pe_cio (fun e _ => se_all e) ok.ok tk h1 h2) (pg_tup (ok.ok.calm hot) a1 a2 a3) (sole_pl (pl_of h1) h3) ?_ rfl) fun D σ H ⟨G0, H0, ρ, τ, σt, R, m⟩ => io_go R m fun t ρ' v H' q R' => ?_
        · have hp := pl_of h1
          cases v <;> first | rfl | exact Bool.noConfusion hp | exact Bool.noConfusion h4
        have q : OutP X.K X.mg W D G0 H0 τ σt (match upkT is t ρ' with | some ρ' => .nx ρ' | none => .no) := q
        split at q
        · next ρ2 hu => exact upkT_ok R' R.l2 (List.prefix_append ..) (List.prefix_append ..) (Hld.last R'.l1 R.l2) hu fun σ' R2 => q σ' H' R2
        · exact q.elim
    | _ => exact Bool.noConfusion h
end
end Gl

set_option Elab.async false
set_option linter.all false
set_option maxRecDepth 100000
set_option maxHeartbeats 4000000
/-! GlS: raise, try; all statements. -/
namespace Gl
open PySem L2
section
variable {mx : Mx} {call : Nat → List T → Rs T} {fl k : Nat}
variable {K : PySem.W.Frag} {mg : Str → Option Value} {W : WX} {G0 H0 G H H' : Hp} {F : Nat → List Addr} {ρ ρ' τ τ' : Env} {σ σ' σt σt' : St} {t t' x : T} {v v' y : V} {i : Nat}
/-! ### raise, try -/
theorem sp_rse {c : Str} : SP1 mx call fl k (.rse c) := fun X W st ok tk h => by
  cases st with
  | Raise e ce pos =>
    match e, ce, h with
    | some (.Call (.Name x xp) [.Constant (.str m) j p2] [] cp), none, h =>
      have h : (!mx.hot && decide (c = x) && glB X.env.scope x && okN x && decide (x ∈ mx.cls)) = true := h
      simp only [Bool.and_eq_true, Bool.not_eq_true', decide_eq_true_eq] at h
      obtain ⟨⟨⟨⟨h0, rfl⟩, h1⟩, h2⟩, h3⟩ := h
      obtain ⟨C, g1, g2⟩ := ok.ok.md.cl c h3
      refine psImp (ps_raise (ok.ok.calm h0) tk (pmk_own PySem.F.excBase_ValueError g2.x g1 g2.k (raises_own g2.b g2.t) (glB_ok h1) (okN_1 h2))) fun D σ H ⟨G0, H0, ρ, τ, σt, R, m⟩ => ?_
      simp only [evS] at m
      exact m σ H C R g1
    | none, none, h => exact Bool.noConfusion h
    | _, some _, h => exact Bool.noConfusion h
  | _ => exact Bool.noConfusion h
/-- isinstance(e, (..)), e held -/
theorem call_isET {X : Cx} {a D : Addr} {oe : Obj} {pn : List (Addr × Obj)} (C : ExcC X.K D) (hz : Zc (.ref D) none oe) (hf : ∃ vs, oe.data = .fields vs) : CallR (X.suite a ((a, oe) :: pn)) (.builtin "isinstance") (rIsET X.K D a) := by
  intro pins s σ H xs us Q I r h
  obtain ⟨tp, cs, ws, b, rfl, hT, kk, e, q⟩ := h
  obtain ⟨u1, u2, rfl, r1, r2⟩ := vals2 r
  cases (show u1 = Value.ref a from r1)
  cases (show u2 = Value.ref tp from r2)
  obtain ⟨hget, _⟩ := I.pin (a, oe) (List.mem_append.mpr (.inl List.mem_cons_self))
  obtain ⟨vs, hv⟩ := hf
  have J : PySem.W.InstAt s.heap a oe D none := by
    obtain ⟨oc, od, oda, osl⟩ := oe
    obtain ⟨h1, h2⟩ := hz
    dsimp only at h1 h2 hv
    subst h1 h2 hv
    exact ⟨hget, rfl, rfl, trivial⟩
  obtain ⟨_, its, rv, o, h1, h2, n, h3⟩ := (show ObjOk X.prog X.w H s.heap tp (.tup cs) from I.hok tp _ hT)
  have e3 := ClsV.all kk rv
  subst e3
  obtain ⟨oc, od, dt, sl⟩ := o
  simp only at h2 h3
  subst h2 h3
  exact PySem.W.kia_tup (PySem.W.handS_kitx_exc C.hg C.hk C.hs C.hd C.ha C.hn C.ht C.hm) I.kIn J h1 e (fun z => nomatch z) fun tk => ⟨.bl b, H, I.kept (t' := tk) fun _ _ z => z, rfl, q⟩
theorem ok_suite {X : Cx} (ok : OkS mx call k X) {a : Addr} {c : Str} {C : Addr} (hC : X.mg c = some (.ref C)) (hE : ExcC X.K C) {oe : Obj} {pn : List (Addr × Obj)} (hz : Zc (.ref C) none oe) (hf : ∃ vs, oe.data = .fields vs) :
    OkS { mx with hot := true } (heldC a c) k (X.suite a ((a, oe) :: pn)) := by
  have md := ok.ok.md
  refine ⟨⟨ok.ok.nd, fun z => (by cases z), fun z => (by cases z), ok.ok.un, ⟨fun z => (by cases z), md.bl, md.cl, md.em, md.ki, md.gl⟩, fun _ a' c' t e => ?_⟩, fun z => (by cases z), ok.stk, ok.frame, ok.fnT⟩
  unfold heldC at e
  rw [if_pos rfl] at e
  dsimp only at e
  split at e
  · next h =>
    obtain ⟨rfl, rfl⟩ := h
    exact ⟨C, hC, call_isE hE hz hf, call_isET hE hz hf⟩
  · cases e
theorem ok_tr {X : Cx} (ok : OkS mx call k X) (h0 : mx.hot = false) {pn : List (Addr × Obj)} {xe : Value → Shared → Prop} (hp : PassesOwn (model X.prog X.w) X.A X.env xe) : OkS mx call k (X.tr pn xe) :=
  ⟨⟨ok.ok.nd, ok.ok.calm, ok.ok.room, ok.ok.un, ⟨ok.ok.md.fn, ok.ok.md.bl, ok.ok.md.cl, ok.ok.md.em, ok.ok.md.ki, ok.ok.md.gl⟩, fun z => by rw [h0] at z; cases z⟩, fun _ => hp, ok.stk, ok.frame, ok.fnT⟩
/-- the suite's reading, at the refusal a of the class cls -/
def tH (mg : Str → Option Value) (K : PySem.W.Frag) (t : List (Str × Bool)) (rd : Nat → Str → TS) : Addr → Value → Option Addr → TS := fun a cls d D σ H => ∃ c C, cls = .ref C ∧ d = none ∧ mg c = some (.ref C) ∧ look t c = some true ∧ rd a c D σ H
theorem allA_out {D : Ends} {f : Nat → O} (h : OutP K mg W D G0 H0 τ σt (allA f)) (a : Nat) : OutP K mg W D G0 H0 τ σt (f a) := by
  unfold allA at h
  split at h
  · next e => rw [e a]; exact h
  · exact h.elim
theorem exc_ok {X : Cx} (ok : OkS mx call k X) {t : List (Str × Bool)} {x c : Str} {b : Bool} (ht : t.all (fun p => decide ((p.1, x, p.2) ∈ mx.exm) && decide (p.1 ∈ mx.cls)) = true) (hl : look t c = some b) {C : Addr} (hC : X.mg c = some (.ref C)) :
    ExcC X.K C ∧ ∃ Dx, X.mg x = some (.ref Dx) ∧ PySem.W.exmOne X.K (.ref C) (.ref Dx) = some b := by
  have := List.all_eq_true.mp ht _ (look_mem hl)
  simp only [Bool.and_eq_true, decide_eq_true_eq] at this
  obtain ⟨h1, h2⟩ := this
  obtain ⟨C1, g1, g2⟩ := ok.ok.md.cl _ h2
  obtain ⟨C2, D2, g3, g4, g5⟩ := ok.ok.md.em _ h1
  have g1 : X.mg c = some (.ref C1) := g1
  have g3 : X.mg c = some (.ref C2) := g3
  rw [hC] at g1 g3
  cases g1
  cases g3
  exact ⟨g2.c, D2, g4, g5⟩
theorem exm_there {X : Cx} (ok : OkS mx call k X) {t : List (Str × Bool)} {x : Str} (h : t ≠ []) (ht : t.all (fun p => decide ((p.1, x, p.2) ∈ mx.exm) && decide (p.1 ∈ mx.cls)) = true) : ∃ Dx, X.mg x = some (.ref Dx) := by
  cases t with
  | nil => exact absurd rfl h
  | cons p r =>
    have := List.all_eq_true.mp ht p List.mem_cons_self
    simp only [Bool.and_eq_true, decide_eq_true_eq] at this
    obtain ⟨C2, D2, g3, g4, g5⟩ := ok.ok.md.em _ this.1
    exact ⟨D2, g4⟩
theorem psx {X : Cx} {ss : List Stmt} {t : TS} (h : ∀ D σ H, t D σ H → ∃ t', PSs X ss t' ∧ t' D σ H) : PSs X ss t := ⟨fun pins s σ H D I q => let ⟨_, a, b⟩ := h D σ H q; a.run pins s σ H D I b⟩
theorem suite_ps {X : Cx} (ok : OkS mx call k X) {s : List S} {suite : List Stmt} (hs : ∀ a c, SPs { mx with hot := true } (heldC a c) fl k s) {t : List (Str × Bool)} {x : Str} (ht : t.all (fun p => decide ((p.1, x, p.2) ∈ mx.exm) && decide (p.1 ∈ mx.cls)) = true)
    (hm : mSs { mx with hot := true } X.N X.env.scope s suite = true) (a : Addr) (oe : Obj) (cls : Value) (d : Option Addr) (pn : List (Addr × Obj)) (hz : Zc cls d oe) (hf : ∃ vs, oe.data = .fields vs) :
    PSs (X.suite a ((a, oe) :: pn)) suite (tH X.mg X.K t (fun a c => tS X.K X.mg W0 (heldC a c) fl s) a cls d) := by
  refine psx fun D σ H ⟨c, C, e1, e2, e3, e4, e5⟩ => ?_
  subst e1 e2
  obtain ⟨hE, _⟩ := exc_ok ok ht e4 e3
  exact ⟨_, hs a c (X.suite a ((a, oe) :: pn)) W0 suite (ok_suite ok e3 hE hz hf) takes0 hm, e5⟩
theorem Ro.setO (R : Ro K mg G0 H0 ρ σ τ σt H) (o : ∀ G, Own K mg G H t v []) (i : Nat) : Ro K mg G0 H0 (ρ.set i (some t)) (σ.set i (some v)) τ σt H := by
  obtain ⟨G, F, r⟩ := R.rel
  have r2 := r.push R.len (Same.refl H) (Same.refl G) r.gh (fun b h _ => .inl h) (o G) List.nodup_nil fun b hb => nomatch hb
  rw [List.append_assoc, List.append_assoc] at r2
  exact Ro.put ⟨R.l1, by simp [R.l2], r2⟩ R.l2 i
theorem Ro.clr (R : Ro K mg G0 H0 ρ σ τ σt H) (i : Nat) : Ro K mg G0 H0 (ρ.set i none) (σ.set i none) τ σt H := by
  refine ⟨by simp [R.l1], R.l2, R.rel.weak fun l t e => ?_⟩
  by_cases hl : l = i
  · subst hl
    by_cases h : l < ρ.length
    · rw [List.getElem?_append_left (by simpa using h), List.getElem?_set_self h] at e; cases e
    · rw [List.set_eq_of_length_le (by omega)] at e
      exact ⟨e, by rw [List.set_eq_of_length_le (by have := R.l1; omega)]⟩
  · exact ⟨by rwa [set_un hl] at e, set_un hl⟩
/-- the clauses of a try without a name -/
theorem many_ok {X : Cx} (ok : OkS mx call k X) : ∀ {suites : List (List S)} {tbls : List (List (Str × Bool))} {hds : List ExceptHandler}, (∀ s ∈ suites, ∀ a c, SPs { mx with hot := true } (heldC a c) fl k s) → mHs mx X.N X.env.scope none suites tbls hds = true →
    ∃ l, HdsOk X hds l ∧ ∀ {W : WX} {D : Ends} {G0 H0 : Hp} {τ : Env} {σt : St} {c : Str} {ρ : Env}, τ.length = σt.length → OutP X.K X.mg W D G0 H0 τ σt (evHs fl none c suites tbls ρ) → OutP X.K X.mg (wMany X.K W D l) D G0 H0 τ σt (.ex c ρ)
  | [], [], [], _, _ => ⟨[], .nil, fun {W D G0 H0 τ σt c ρ} _ m => by simp only [evHs] at m; exact m⟩
  | s :: ss, t :: ts, h :: hds, hs, hm => by
    match h, hm with
    | .ExceptHandler (some (.Name x np)) n suite pos, hm =>
      have hm : (glB X.env.scope x && okN x && nmB X.N X.env.scope none n && !t.isEmpty && t.all (fun p => decide ((p.1, x, p.2) ∈ mx.exm) && decide (p.1 ∈ mx.cls)) && !suite.isEmpty && mSs { mx with hot := true } X.N X.env.scope s suite && mHs mx X.N X.env.scope none ss ts hds) = true := hm
      simp only [Bool.and_eq_true, Bool.not_eq_true', List.isEmpty_eq_false_iff] at hm
      obtain ⟨⟨⟨⟨⟨⟨⟨h1, h2⟩, h3⟩, ht⟩, h4⟩, h5⟩, h6⟩, h7⟩ := hm
      cases n with
      | some n => cases h3
      | none =>
        cases suite with
        | nil => exact absurd rfl h5
        | cons b0 suite =>
          obtain ⟨l, l1, l2⟩ := many_ok ok (fun s h => hs s (List.mem_cons_of_mem _ h)) h7
          obtain ⟨Dx, hx⟩ := exm_there ok ht h4
          refine ⟨_, .cons (c := .ref Dx) ⟨glB_ok h1, okN_1 h2, .inl hx⟩ (suite_ps ok (hs s List.mem_cons_self) h4 h6) l1, fun {W D G0 H0 τ σt c ρ} hl m => ?_⟩
          simp only [evHs] at m
          intro σ' H' C R hC
          cases hk : look t c with
          | none => rw [hk] at m; exact m.elim
          | some b =>
            rw [hk] at m
            obtain ⟨hE, Dy, y1, y2⟩ := exc_ok ok h4 hk hC
            rw [hx] at y1
            cases y1
            refine ⟨b, y2, fun hb a ha => ?_, fun hb => ?_⟩
            · subst hb
              refine ⟨c, C, rfl, rfl, hC, hk, G0, H0, ρ, τ, σt, R, ?_⟩
              have m := allA_out m a
              have m : OutP X.K X.mg W D G0 H0 τ σt (endO none (evSs (heldC a c) fl s ρ)) := m
              cases ho : evSs (heldC a c) fl s ρ with
              | nx ρ1 => rw [ho] at m; exact m
              | rt t => rw [ho] at m; exact m
              | ex c ρ1 => rw [ho] at m; exact m.elim
              | no => rw [ho] at m; exact m.elim
            · subst hb
              exact l2 hl m σ' H' C R hC
theorem mHs_nil {N : List Str} {sc : Scope} {nm : Option Nat} {suites : List (List S)} {tbls : List (List (Str × Bool))} (h : mHs mx N sc nm suites tbls [] = true) : suites = [] ∧ tbls = [] := by
  cases suites with
  | nil => cases tbls with
    | nil => exact ⟨rfl, rfl⟩
    | cons => exact Bool.noConfusion h
  | cons s ss => cases tbls <;> exact Bool.noConfusion h
theorem mHs_one {N : List Str} {sc : Scope} {nm : Option Nat} {suites : List (List S)} {tbls : List (List (Str × Bool))} {hd0 : ExceptHandler} (h : mHs mx N sc nm suites tbls [hd0] = true) :
    ∃ s t x np n suite hp, suites = [s] ∧ tbls = [t] ∧ hd0 = .ExceptHandler (some (.Name x np)) n suite hp := by
  cases suites with
  | nil => cases tbls <;> exact Bool.noConfusion h
  | cons s ss => cases tbls with
    | nil => exact Bool.noConfusion h
    | cons t ts =>
      match hd0, h with
      | .ExceptHandler (some (.Name x np)) n suite hp, h =>
        have h : (_ && mHs mx N sc nm ss ts []) = true := h
        rw [Bool.and_eq_true] at h
        obtain ⟨rfl, rfl⟩ := mHs_nil h.2
        exact ⟨s, t, x, np, n, suite, hp, rfl, rfl, rfl⟩
theorem sp_try {nm : Option Nat} {body : List S} {tbls : List (List (Str × Bool))} {suites : List (List S)} (hb : SPs mx call fl k body) (hs : ∀ s ∈ suites, ∀ a c, SPs { mx with hot := true } (heldC a c) fl k s) : SP1 mx call fl k (.tryE nm body tbls suites) := fun X W st ok tk h => by
  cases st with
  | Try body' hds els fin pos =>
    match els, fin, h with
    | [], [], h =>
      have h : (!mx.hot && mSs mx X.N X.env.scope body body' && mHs mx X.N X.env.scope nm suites tbls hds && (nm.isNone || decide (hds.length = 1)) && !hds.isEmpty) = true := h
      simp only [Bool.and_eq_true, Bool.not_eq_true', Bool.or_eq_true, decide_eq_true_eq, List.isEmpty_eq_false_iff] at h
      obtain ⟨⟨⟨⟨h0, h1⟩, h2⟩, h3⟩, h4⟩ := h
      have pb : ∀ (W' : WX) (pn : List (Addr × Obj)) (xe : Value → Shared → Prop), Takes (X.tr pn xe) W' → PassesOwn (model X.prog X.w) X.A X.env xe → PSs (X.tr pn xe) body' (tS X.K X.mg W' call fl body) :=
        fun W' pn xe tk' hp => hb (X.tr pn xe) W' body' (ok_tr ok h0 hp) tk' h1
      have body_out : ∀ (W' : WX) (D : Ends) (G0 H0 : Hp) (τ : Env) (σt : St) (ρ : Env), OutP X.K X.mg W D G0 H0 τ σt (evS call fl (.tryE nm body tbls suites) ρ) →
          (∀ c ρ1, OutP X.K X.mg W D G0 H0 τ σt (evHs fl nm c suites tbls ρ1) → OutP X.K X.mg W' D G0 H0 τ σt (.ex c ρ1)) → OutP X.K X.mg W' D G0 H0 τ σt (evSs call fl body ρ) := fun W' D G0 H0 τ σt ρ m z => by
        simp only [evS] at m
        cases ho : evSs call fl body ρ with
        | nx ρ1 => rw [ho] at m; exact m
        | rt t => rw [ho] at m; exact m
        | ex c ρ1 => rw [ho] at m; exact z c ρ1 m
        | no => rw [ho] at m; exact m.elim
      cases nm with
      | none =>
        obtain ⟨l, l1, l2⟩ := many_ok ok hs h2
        cases hds with
        | nil => exact absurd rfl h4
        | cons hd0 hds =>
          exact psImp (ps_try_many ok.stk ok.frame tk pb l1) fun D σ H ⟨G0, H0, ρ, τ, σt, R, m⟩ => ⟨G0, H0, ρ, τ, σt, R, body_out _ _ _ _ _ _ _ m fun c ρ1 m1 => l2 R.l2 m1⟩
      | some i =>
        have h3 : hds.length = 1 := h3.resolve_left Bool.noConfusion
        obtain ⟨hd0, rfl⟩ := one_of h3
        obtain ⟨s, t, x, np, n, suite, hp, rfl, rfl, rfl⟩ := mHs_one h2
        all_goals
          have h2 : (glB X.env.scope x && okN x && nmB X.N X.env.scope (some i) n && !t.isEmpty && t.all (fun p => decide ((p.1, x, p.2) ∈ mx.exm) && decide (p.1 ∈ mx.cls)) && !suite.isEmpty && mSs { mx with hot := true } X.N X.env.scope s suite && true) = true := h2
          simp only [Bool.and_eq_true, Bool.not_eq_true', List.isEmpty_eq_false_iff] at h2
          obtain ⟨⟨⟨⟨⟨⟨⟨a1, a2⟩, a3⟩, at'⟩, a4⟩, a5⟩, a6⟩, _⟩ := h2
          cases n with
          | none => cases a3
          | some n =>
            have a3 : (decide (X.N[i]? = some n) && lclB X.env.scope n) = true := a3
            rw [Bool.and_eq_true, decide_eq_true_eq] at a3
            cases suite with
            | nil => exact absurd rfl a5
            | cons b0 suite =>
              obtain ⟨Dx, hx⟩ := exm_there ok at' a4
              refine psImp (ps_try_as (i := i) ok.stk ok.frame ok.ok.nd a3.1 (lclB_ok a3.2) ⟨glB_ok a1, okN_1 a2, .inl hx⟩ tk pb (suite_ps ok (hs s List.mem_cons_self) a4 a6)) fun D σ H ⟨G0, H0, ρ, τ, σt, R, m⟩ => ⟨G0, H0, ρ, τ, σt, R, body_out _ _ _ _ _ _ _ m fun c ρ1 m1 => ?_⟩
              simp only [evHs] at m1
              intro σ' H' C R' hC
              cases hk : look t c with
              | none => rw [hk] at m1; exact m1.elim
              | some b =>
                rw [hk] at m1
                obtain ⟨hE, Dy, y1, y2⟩ := exc_ok ok a4 hk hC
                rw [hx] at y1
                cases y1
                refine ⟨b, y2, fun hb a ha => ?_, fun hb => ?_⟩
                · subst hb
                  refine ⟨c, C, rfl, rfl, hC, hk, G0, H0, ρ1.set i (some (.exc a c)), τ, σt, R'.setO (fun _ => .exc) i, ?_⟩
                  have m := allA_out m1 a
                  have m : OutP X.K X.mg W D G0 H0 τ σt (endO (some i) (evSs (heldC a c) fl s (ρ1.set i (some (.exc a c))))) := m
                  cases ho : evSs (heldC a c) fl s (ρ1.set i (some (.exc a c))) with
                  | nx ρ2 => rw [ho] at m; exact fun σ2 H2 R2 => m _ H2 (R2.clr i)
                  | rt t => rw [ho] at m; exact m
                  | ex c ρ2 => rw [ho] at m; exact m.elim
                  | no => rw [ho] at m; exact m.elim
                · subst hb
                  exact m1 σ' H' C R' hC
    | _ :: _, _, h => exact Bool.noConfusion h
    | [], _ :: _, h => exact Bool.noConfusion h
  | _ => exact Bool.noConfusion h
end
theorem sq_inPl : ∀ {s : S} {mx : Mx} {call : Nat → List T → Rs T} {fl k : Nat}, inPl s = true → SPq mx call fl k s := fun {s _ _ _ _} h => by
  cases s with
  | app i e => exact sq_app
  | put i ke e => exact sq_put
  | lm0 m i => exact sq_lm0
  | lm1 m i e => exact sq_lm1
  | ins i a b => exact sq_ins
  | _ => cases h
theorem sp_pnA {i : Nat} {s : S} {mx : Mx} {call : Nat → List T → Rs T} {fl k : Nat} : SP1 mx call fl k (.pn i s) := by
  by_cases h : inPl s = true
  · exact sp_pn (sq_inPl h)
  · intro X W st ok tk e
    have e : (inPl s && mS mx X.N X.env.scope s st) = true := by cases st <;> exact e
    rw [Bool.and_eq_true] at e
    exact absurd e.1 h
mutual
theorem sp_all : ∀ (s : S) {mx : Mx} {call : Nat → List T → Rs T} {fl k : Nat}, notFz s = true → SP1 mx call fl k s
  | .asg i e, _, _, _, _, _ => sp_asg
  | .upk is e, _, _, _, _, _ => sp_upk
  | .aug i op e, _, _, _, _, _ => sp_aug
  | .app i e, _, _, _, _, _ => sq_app.sp
  | .put i ke e, _, _, _, _, _ => sq_put.sp
  | .lm0 m i, _, _, _, _, _ => sq_lm0.sp
  | .lm1 m i e, _, _, _, _, _ => sq_lm1.sp
  | .ins i a b, _, _, _, _, _ => sq_ins.sp
  | .pn i s, _, _, _, _, _ => sp_pnA
  | .cio tg f es j i, _, _, _, _, _ => sp_cio
  | .retP e j, _, _, _, _, _ => sp_retP
  | .ret e, _, _, _, _, _ => sp_ret
  | .iff c a b, _, _, _, _, _ => sp_iff (sps_all a) (sps_all b)
  | .fr i src body, _, _, _, _, _ => sp_fr (sps_all body)
  | .frT is src body, _, _, _, _, _ => sp_frT (sps_all body)
  | .frR i none hi body, _, _, _, _, _ => sp_frR1 (sps_all body)
  | .frR i (some lo) hi body, _, _, _, _, _ => sp_frR2 (sps_all body)
  | .whl c body, _, _, _, _, _ => sp_whl (sps_all body)
  | .exp e, _, _, _, _, _ => sp_exp
  | .rse c, _, _, _, _, _ => sp_rse
  | .tryE nm body tbls suites, _, _, _, _, _ => sp_try (sps_all body) fun s hs a c => spl_all suites s hs
theorem spl_all : ∀ (suites : List (List S)) (s : List S) {mx : Mx} {call : Nat → List T → Rs T} {fl k : Nat}, s ∈ suites → SPs mx call fl k s
  | [], _, _, _, _, _, h => nomatch h
  | s :: ss, s', _, _, _, _, h => (List.mem_cons.mp h).elim (fun e => e ▸ sps_all s) fun h => spl_all ss s' h
theorem sps_all : ∀ (ss : List S) {mx : Mx} {call : Nat → List T → Rs T} {fl k : Nat}, SPs mx call fl k ss
  | [], _, _, _, _ => sps_nil
  | s :: ss, _, _, _, _ => by
    by_cases h : notFz s = true
    · exact sps_cons h (sp_all s h) (sps_all ss)
    · cases s with
      | fz i => exact sps_fz (sps_all ss)
      | _ => exact absurd rfl h
end
end Gl

set_option Elab.async false
set_option linter.all false
set_option maxRecDepth 100000
set_option maxHeartbeats 4000000
/-! GlQ: defs, and the law's end. -/
namespace Gl
open PySem L2

/-- a def: its name, how many parameters, its names (the parameters first), its body -/
structure Df where
  name : Str
  n : Nat
  N : List Str
  body : List S
def initE (d : Df) (ts : List T) : Env := ts.map some ++ List.replicate (d.N.length - ts.length) none
def outR : O → Rs T
  | .nx _ => .ok (.imm .none)
  | .rt t => .ok t
  | .ex c _ => .ex c
  | .no => .no
noncomputable def evF (ds : List Df) (fl : Nat) : Nat → Nat → List T → Rs T
  | 0, _, _ => .no
  | n + 1, f, ts => match ds[f]? with
    | some d => outR (evSs (evF ds fl n) fl d.body (initE d ts))
    | none => .no
/-- what the text and the module say of a def -/
def FactF (K : PySem.W.Frag) (mg : Str → Option Value) (mx : Mx) (d : Df) : Prop := ∃ (st : Stmt) (a : Addr) (fd : FuncData), Fun K d.name d.name st a fd ∧ FnScope d.N (d.N.take d.n) (defScope st) ∧ Binds K fd (d.N.take d.n) [] ∧ mg d.name = some (.ref a) ∧
  mSs mx d.N (defScope st) d.body (defBody st) = true ∧ d.n ≤ d.N.length
/-- what the module holds beside the defs: constants, classes of refusals, what except and isinstance answer of them -/
structure Tx where
  glb : List (Str × PyData) := []
  cls : List Str := []
  exm : List (Str × Str × Bool) := []
  kit : List (Str × Str × Bool) := []
def dmx (ds : List Df) (tx : Tx) : Mx := ⟨ds.map fun d => (d.name, d.n), tx.glb, tx.cls, tx.exm, tx.kit, false⟩
/-- .. that it is so -/
structure TxF (K : PySem.W.Frag) (mg : Str → Option Value) (tx : Tx) : Prop where
  bl : ∀ x ∈ blNames, mg x = none
  cl : ∀ x ∈ tx.cls, ∃ C, mg x = some (.ref C) ∧ ExF K C
  em : ∀ p ∈ tx.exm, ∃ C D, mg p.1 = some (.ref C) ∧ mg p.2.1 = some (.ref D) ∧ PySem.W.exmOne K (.ref C) (.ref D) = some p.2.2
  ki : ∀ p ∈ tx.kit, ∃ C, mg p.1 = some (.ref C) ∧ ((∃ D, mg p.2.1 = some (.ref D) ∧ PySem.W.kitOne K (.ref C) (.ref D) = some p.2.2) ∨ (p.2.1 = "ValueError" ∧ mg "ValueError" = none ∧ PySem.W.kitOne K (.ref C) (.type "ValueError") = some p.2.2))
  gl : ∀ (x : Str) (d : PyData), (x, d) ∈ tx.glb → ∃ v u, mg x = some u ∧ RelV v u ∧ ∀ G, Rp K G d v
section
variable {K : PySem.W.Frag} {mg : Str → Option Value} {G H : Hp}
theorem start_ro {H0 : Hp} {F : Nat → List Addr} {d : Df} {ts : List T} {vs : List V} (RG : RelG K mg G H0 G F (ts.map some) (vs.map some) H) (hts : ts.length = d.n) (hl : vs.length = d.n) (hn : d.n ≤ d.N.length) : Ro K mg G H0 (initE d ts) (L2.start d.N vs) [] [] H := by
  refine ⟨by unfold initE L2.start; simp; omega, rfl, G, F, ?_⟩
  rw [List.append_nil, List.append_nil]
  refine RG.weak fun i t q => ?_
  have hi : i < ts.length := by
    by_cases hi : i < ts.length
    · exact hi
    · unfold initE at q
      rw [List.getElem?_append_right (by simpa using hi), List.getElem?_replicate] at q
      split at q <;> cases q
  refine ⟨by unfold initE at q; rwa [List.getElem?_append_left (by simpa using hi)] at q, ?_⟩
  unfold L2.start
  rw [List.getElem?_append_left (by simp; omega)]
end
theorem fn_step {P : Program} {w : World} {K : PySem.W.Frag} {mg : Str → Option Value} {base : Heap} {ds : List Df} {mx : Mx} {fl n f : Nat} {d : Df} {st : Stmt} {a : Addr} {fd : FuncData} (h0 : mx.hot = false) (ih : Md P w K mg base mx (evF ds fl n) n) (e : ds[f]? = some d)
    (F1 : Fun K d.name d.name st a fd) (F2 : FnScope d.N (d.N.take d.n) (defScope st)) (F5 : mSs mx d.N (defScope st) d.body (defBody st) = true) (F6 : d.n ≤ d.N.length) :
    FnOk P w K mg base (L2.CX P w) (n + 1) a fd (d.N.take d.n) (spP K mg (evF ds fl (n + 1)) f d.n) := by
  refine Fun.okX F1 F2 (fun vs H Q E h => by rw [h.1]; simp; omega) fun cdv A outer s H vs Q E hr h => ?_
  obtain ⟨hl, G, H0, F0, ts, hts, RG, z⟩ := h
  have ok : OkS mx (evF ds fl n) n (cxOf (L2.CX P w) P w K mg base d.N d.name (defScope st) a cdv A outer s H E) := ⟨⟨F2.nd, fun _ => rfl, fun _ => hr, hr.un, ih, fun z => by rw [h0] at z; cases z⟩, fun _ => passes_of rfl, rfl, rfl, fun _ => rfl⟩
  have tk : Takes (cxOf (L2.CX P w) P w K mg base d.N d.name (defScope st) a cdv A outer s H E) (fun cls d _ H => E cls d H) := takes_of rfl rfl rfl rfl
  refine ⟨_, sps_all (fl := fl) d.body _ _ (defBody st) ok tk F5, G, H0, initE d ts, [], [], start_ro RG hts hl F6, ?_⟩
  simp only [evF, e] at z
  show OutP K mg (fun cls d _ H => E cls d H) _ G H0 [] [] (evSs (evF ds fl n) fl d.body (initE d ts))
  cases ho : evSs (evF ds fl n) fl d.body (initE d ts) with
  | nx ρ' =>
    rw [ho] at z
    intro σ' H' R
    obtain ⟨G', F', r⟩ := R.rel
    have r2 := r.pushI R.len .non
    refine z .non H' (RelR.of ?_)
    exact Rel.one (j := ρ'.length + 0) r2 (by simp) (v := .non) (by rw [R.l1]; simp)
  | rt t => rw [ho] at z; exact z
  | ex c ρ' =>
    rw [ho] at z
    intro σ' H' C R hC
    obtain ⟨G', F', r⟩ := R.rel
    exact z H' C r.h0 hC
  | no => rw [ho] at z; exact z.elim
theorem md_all {P : Program} {w : World} {K : PySem.W.Frag} {mg : Str → Option Value} {base : Heap} {ds : List Df} {tx : Tx} {fl : Nat} (hf : ∀ (f : Nat) (d : Df), ds[f]? = some d → FactF K mg (dmx ds tx) d) (hx : TxF K mg tx) : ∀ n, Md P w K mg base (dmx ds tx) (evF ds fl n) n := by
  have look : ∀ {f : Nat} {x : Str} {m : Nat}, (dmx ds tx).fns[f]? = some (x, m) → ∃ d, ds[f]? = some d ∧ x = d.name ∧ m = d.n := fun {f x m} h => by
    unfold dmx at h
    rw [List.getElem?_map] at h
    cases e : ds[f]? with
    | none => rw [e] at h; cases h
    | some d => rw [e] at h; cases h; exact ⟨d, rfl, rfl, rfl⟩
  intro n
  induction n with
  | zero =>
    refine ⟨fun _ f x m h => ?_, hx.bl, hx.cl, hx.em, hx.ki, hx.gl⟩
    obtain ⟨d, e, rfl, rfl⟩ := look h
    obtain ⟨st, a, fd, F1, F2, F3, F4, F5, F6⟩ := hf f d e
    refine ⟨a, fd, d.N.take d.n, F4, F1.kp, F3, by simp; omega, fun vs H Q E h => by rw [h.1]; simp; omega, fun A outer s H args us vs Q E _ _ _ _ h => ?_⟩
    obtain ⟨_, G, H0, F, ts, _, _, z⟩ := h
    exact z.elim
  | succ n ih =>
    refine ⟨fun _ f x m h => ?_, hx.bl, hx.cl, hx.em, hx.ki, hx.gl⟩
    obtain ⟨d, e, rfl, rfl⟩ := look h
    obtain ⟨st, a, fd, F1, F2, F3, F4, F5, F6⟩ := hf f d e
    exact ⟨a, fd, d.N.take d.n, F4, F1.kp, F3, by simp; omega, fn_step rfl ih e F1 F2 F5 F6⟩
/-- the law's own promise -/
def spL (K : PySem.W.Frag) : Sp := fun vs H Q _ => ∃ (a : Addr) (ns : List Int), vs = [.ref a] ∧ ns.length ≤ 63 ∧ SqL K H a (ns.map V.int) ∧ ∀ H', Q (.bl true) H'
theorem law_fn {P : Program} {w : World} {K : PySem.W.Frag} {mg : Str → Option Value} {ds : List Df} {tx : Tx} {fl n f : Nat} {d : Df} {fa a : Addr} {fd : FuncData} {st : Stmt} {x : Str} (hf : ∀ (f : Nat) (d : Df), ds[f]? = some d → FactF K mg (dmx ds tx) d) (hx : TxF K mg tx) (hd : ds[f]? = some d) (hn : d.n = 1) (hN : d.N.take 1 = [x]) (hfa : mg d.name = some (.ref fa)) (ha : mg d.name = some (.ref a))
    (F1 : Fun K d.name d.name st a fd) (F2 : FnScope d.N (d.N.take d.n) (defScope st)) (F5 : mSs (dmx ds tx) d.N (defScope st) d.body (defBody st) = true) (F6 : d.n ≤ d.N.length)
    (law : ∀ ns : List Int, ns.length ≤ 63 → evF ds fl (n + 1) f [.scr ns] = .ok (.imm (.bool true))) :
    ∀ base : Heap, FnOk P w K mg base (L2.CX P w) (n + 1) fa fd [x] (spL K) := by
  rw [ha] at hfa
  cases hfa
  intro base
  have := fn_step (P := P) (w := w) (base := base) (fl := fl) (n := n) rfl (md_all hf hx n) hd F1 F2 F5 F6
  rw [hn, hN] at this
  refine this.imp fun vs H Q E ⟨a, ns, ev, hl, hS, q⟩ => ?_
  subst ev
  refine ⟨rfl, H, H, fun _ => [], [.scr ns], rfl, RelG.plain (Same.refl H) (.cons (f := []) (.scr hS) .nil), ?_⟩
  rw [law ns hl]
  intro v H' R
  obtain ⟨G, F, r⟩ := R.2 rfl
  obtain ⟨w, qw, o⟩ := r.own 0 _ rfl
  cases qw
  rw [o.bl]
  exact q H'
theorem cx_end {P : Program} {w : World} {H : Hp} {s : Shared} {e : Value} {s' : Shared} (h : L2.CX P w [] H s (fun _ _ _ => False) e s') : False := by
  obtain ⟨_, _, _, _, _, _, _, _, _, _, _, _, z⟩ := h
  exact z
theorem kit_ref {K : PySem.W.Frag} {C D : Addr} {b : Bool} (h1 : PySem.W.subIn K (.ref C) (.ref C) = some true) (h2 : PySem.W.subIn K (.ref C) (.ref D) = some b) (hd : PySem.W.hasDictIn K D = true) (ht : PySem.W.typeIn K (.ref D) = some (.type "type")) : PySem.W.kitOne K (.ref C) (.ref D) = some b := by
  unfold PySem.W.kitOne
  by_cases e : C = D
  · subst e
    rw [h1] at h2
    cases h2
    rw [if_pos (by simp)]
  · have e1 : ¬ ((Value.ref C == Value.ref D) = true) := by
      intro z
      exact e (Value.ref.inj (beq_iff_eq.mp z))
    rw [if_neg e1]
    obtain ⟨cd, hc, _⟩ := PySem.W.any_some hd
    have e2 : ((PySem.W.clsIn K D).isSome && PySem.W.typeIn K (.ref D) == some (.type "type")) = true := by rw [hc, ht] <;> rfl
    show (if ((PySem.W.clsIn K D).isSome && PySem.W.typeIn K (.ref D) == some (.type "type")) = true then PySem.W.subIn K (.ref C) (.ref D) else none) = some b
    rw [if_pos e2]
    exact h2
theorem kit_ve {K : PySem.W.Frag} {C : Addr} (h : PySem.W.subIn K (.ref C) (.type "ValueError") = some true) : PySem.W.kitOne K (.ref C) (.type "ValueError") = some true := by
  unfold PySem.W.kitOne
  rw [if_neg (by intro z; cases (beq_iff_eq.mp z))]
  have : PySem.W.kitMeta "ValueError" = true := by decide +kernel
  show (if PySem.W.kitMeta "ValueError" = true then PySem.W.subIn K (.ref C) (.type "ValueError") else none) = some true
  rw [if_pos this]
  exact h
end Gl

set_option Elab.async false
set_option linter.all false
set_option maxRecDepth 100000
set_option maxHeartbeats 4000000
/-! GlR: reckoning with the evaluator. -/
namespace Gl
open PySem L2
theorem evF_succ {ds : List Df} {fl n f : Nat} {ts : List T} {d : Df} (h : ds[f]? = some d) : evF ds fl (n + 1) f ts = outR (evSs (evF ds fl n) fl d.body (initE d ts)) := by
  simp only [evF, h]
@[simp] theorem O.of_ok {α : Type} {a : α} {ρ : Env} {f : α → O} : O.of (.ok a) ρ f = f a := rfl
@[simp] theorem O.of_ex {α : Type} {c : Str} {ρ : Env} {f : α → O} : O.of (.ex c : Rs α) ρ f = .ex c ρ := rfl
def O.seq (o : O) (k : Env → O) : O := match o with | .nx ρ => k ρ | o => o
section
variable {call : Nat → List T → Rs T} {fl : Nat} {pk : Bool} {ρ : Env} {α β : Type}
theorem seq_nx {k : Env → O} : (O.nx ρ).seq k = k ρ := rfl
theorem seq_rt {k : Env → O} {t : T} : (O.rt t).seq k = .rt t := rfl
theorem seq_ex {k : Env → O} {c : Str} : (O.ex c ρ).seq k = .ex c ρ := rfl
theorem evSs_nil : evSs call fl [] ρ = .nx ρ := by simp only [evSs]
theorem evSs_cons {s : S} {ss : List S} : evSs call fl (s :: ss) ρ = (evS call fl s ρ).seq (evSs call fl ss) := by
  simp only [evSs, O.seq]
  all_goals cases evS call fl s ρ <;> rfl
theorem out_nx : outR (.nx ρ) = .ok (.imm .none) := rfl
theorem out_rt {t : T} : outR (.rt t) = .ok t := rfl
theorem out_ex {c : Str} : outR (.ex c ρ) = .ex c := rfl
theorem bind_ok {a : α} {f : α → Rs β} : (Rs.ok a).bind f = f a := rfl
theorem bind_ex {c : Str} {f : α → Rs β} : (Rs.ex c : Rs α).bind f = .ex c := rfl
theorem of_some {a : α} : Rs.of (some a) = .ok a := rfl
/-! names, constants -/
def varR (pk : Bool) (o : Option (Option T)) : Rs T := match o with | some (some (.pin _ k ts)) => (if pk then .ok (.node k ts) else .no) | some (some t) => if pk || t.plain then .ok t else .no | _ => .no
theorem x_var {i : Nat} : evX call pk (.var i) ρ = varR pk ρ[i]? := by
  simp only [evX, varR]
  all_goals cases ρ[i]? with
  | none => rfl
  | some o =>
    cases o with
    | none => rfl
    | some t => cases t <;> rfl
theorem var_nd {k : Kind} {ts : List T} : varR true (some (some (.node k ts))) = .ok (.node k ts) := rfl
theorem var_L {ds : List PyData} : varR true (some (some (T.L ds))) = .ok (T.L ds) := rfl
/-- a list of one's own at a known address -/
def PL (a : Nat) (ds : List PyData) : T := .pin a .lst (ds.map .imm)
theorem var_PL {a : Nat} {ds : List PyData} : varR true (some (some (PL a ds))) = .ok (T.L ds) := rfl
theorem var_imm {d : PyData} : varR pk (some (some (.imm d))) = .ok (.imm d) := by cases pk <;> rfl
theorem var_scr {ns : List Int} : varR pk (some (some (.scr ns))) = .ok (.scr ns) := by cases pk <;> rfl
theorem var_fK {kvs : List (Ky × PyData)} : varR pk (some (some (.fK kvs))) = .ok (.fK kvs) := by cases pk <;> rfl
theorem var_fT {kvs : List (List Ky × PyData)} : varR pk (some (some (.fT kvs))) = .ok (.fT kvs) := by cases pk <;> rfl
theorem x_int {i : Int} : evX call pk (.cst (.int i)) ρ = .ok (.imm (.int i)) := by simp only [evX, isScal, if_true]
theorem x_str {x : Str} : evX call pk (.cst (.str x)) ρ = .ok (.imm (.str x)) := by simp only [evX, isScal, if_true]
theorem x_bl {b : Bool} : evX call pk (.cst (.bool b)) ρ = .ok (.imm (.bool b)) := by simp only [evX, isScal, if_true]
theorem x_non : evX call pk (.cst .none) ρ = .ok (.imm .none) := by simp only [evX, isScal, if_true]
theorem x_gint {x : Str} {i : Int} : evX call pk (.glb x (.int i)) ρ = .ok (.imm (.int i)) := by simp only [evX, isScal, if_true]
theorem x_gstr {x y : Str} : evX call pk (.glb x (.str y)) ρ = .ok (.imm (.str y)) := by simp only [evX, isScal, if_true]
/-! operations -/
def binR (op : Operator) (x y : T) : Rs T := .of (binT op x y)
theorem x_bin {op : Operator} {a b : E} : evX call pk (.bin op a b) ρ = (evX call true a ρ).bind fun x => (evX call true b ρ).bind (binR op x) := by simp only [evX] <;> rfl
def notR (x : T) : Rs T := match truT x with | some b => .ok (.imm (.bool (!b))) | none => .no
theorem x_not {a : E} : evX call pk (.not a) ρ = (evX call true a ρ).bind notR := by simp only [evX] <;> rfl
theorem not_bl {b : Bool} : notR (.imm (.bool b)) = .ok (.imm (.bool (!b))) := rfl
def negR (x : T) : Rs T := match x with | .imm (.int i) => .ok (.imm (.int (-i))) | _ => .no
theorem x_neg {a : E} : evX call pk (.neg a) ρ = (evX call true a ρ).bind negR := by simp only [evX] <;> rfl
theorem neg_int {i : Int} : negR (.imm (.int i)) = .ok (.imm (.int (-i))) := rfl
def cmpR (op : CmpOp) (x y : T) : Rs T := match cmpT op x y with | some r => .ok (.imm (.bool r)) | none => .no
theorem x_cmp {op : CmpOp} {a b : E} : evX call pk (.cmp op a b) ρ = (evX call true a ρ).bind fun x => (evX call true b ρ).bind (cmpR op x) := by simp only [evX] <;> rfl
def chnR (o : Option Bool) (k : Rs T) : Rs T := match o with | some true => k | some false => .ok (.imm (.bool false)) | none => .no
theorem x_chn {op op' : CmpOp} {a b c : E} : evX call pk (.chn op op' a b c) ρ = (evX call true a ρ).bind fun x => (evX call true b ρ).bind fun y => chnR (cmpT op x y) ((evX call true c ρ).bind (cmpR op' y)) := by
  simp only [evX]
  refine congrArg _ (funext fun x => congrArg _ (funext fun y => ?_))
  cases cmpT op x y with
  | none => rfl
  | some b => cases b <;> rfl
theorem chn_t {k : Rs T} : chnR (some true) k = k := rfl
theorem chn_f {k : Rs T} : chnR (some false) k = .ok (.imm (.bool false)) := rfl
def idxR (x y : T) : Rs T := match y with | .imm d => .of (idxT x d) | _ => .no
theorem x_idx {a i : E} : evX call pk (.idx a i) ρ = (evX call true a ρ).bind fun x => (evX call true i ρ).bind (idxR x) := by simp only [evX] <;> rfl
theorem idx_imm {x : T} {d : PyData} : idxR x (.imm d) = .of (idxT x d) := rfl
theorem x_slc {a : E} {lo hi : Option E} : evX call pk (.slc a lo hi) ρ = (evX call true a ρ).bind fun x => (evO call lo ρ).bind fun l => (evO call hi ρ).bind fun h => .of (slcT x l h) := by simp only [evX]
theorem x_sls {a : E} {lo hi : Option E} {k : Nat} : evX call pk (.sls a lo hi k) ρ = (evX call true a ρ).bind fun x => (evO call lo ρ).bind fun l => (evO call hi ρ).bind fun h => .of (slsT x l h k) := by simp only [evX]
theorem o_none : evO call none ρ = .ok none := by simp only [evO]
def optR (t : T) : Rs (Option Int) := match t with | .imm (.int i) => .ok (some i) | _ => .no
theorem o_some {e : E} : evO call (some e) ρ = (evX call true e ρ).bind optR := by simp only [evO] <;> rfl
theorem opt_int {i : Int} : optR (.imm (.int i)) = .ok (some i) := rfl
/-! displays -/
theorem xs_nil : evXs call pk [] ρ = .ok [] := by simp only [evXs]
theorem xs_cons {e : E} {es : List E} : evXs call pk (e :: es) ρ = (evX call pk e ρ).bind fun t => (evXs call pk es ρ).bind fun ts => .ok (t :: ts) := by simp only [evXs]
theorem x_tup {es : List E} : evX call pk (.tup es) ρ = (evXs call false es ρ).bind fun ts => .ok (mkTup ts) := by simp only [evX]
theorem x_lst {es : List E} : evX call pk (.lst es) ρ = (evXs call false es ρ).bind fun ts => .ok (.node .lst (ts.map frzE)) := by simp only [evX]
theorem frzE_eq {t : T} : frzE t = getT t.fr t := rfl
theorem getT_some {t t' : T} : getT (some t') t = t' := rfl
theorem x_dnK : evX call pk .dnK ρ = .ok (.node (.dK []) []) := by simp only [evX]
theorem x_dnT : evX call pk .dnT ρ = .ok (.node (.dT []) []) := by simp only [evX]
theorem imms_nil : imms [] = some [] := rfl
theorem imms_cons {d : PyData} {ts : List T} : imms (.imm d :: ts) = (imms ts).map (d :: ·) := by
  simp only [imms]
  all_goals cases imms ts <;> rfl
theorem mk_tup {ts : List T} {ds : List PyData} (h : imms ts = some ds) : mkTup ts = .imm (.tuple ds) := by unfold mkTup; rw [h]
/-! calls -/
theorem x_call {f : Nat} {es : List E} : evX call pk (.call f es) ρ = (evAs call es ρ).bind (callT call f) := by simp only [evX] <;> rfl
def frzR (t : T) : Rs T := .of t.fr
def argR (b : Bool) (x y : Rs T) : Rs T := if b then x else y.bind frzR
theorem arg_t {x y : Rs T} : argR true x y = x := rfl
theorem arg_f {x y : Rs T} : argR false x y = y.bind frzR := rfl
theorem as_nil : evAs call [] ρ = .ok [] := by simp only [evAs]
theorem as_cons {e : E} {es : List E} : evAs call (e :: es) ρ = (argR (isVar e) (evX call true e ρ) (evX call false e ρ)).bind fun t => (evAs call es ρ).bind fun ts => .ok (t :: ts) := by simp only [evAs] <;> rfl
theorem frz_imm {d : PyData} : frzR (.imm d) = .ok (.imm d) := rfl
theorem frz_scr {ns : List Int} : frzR (.scr ns) = .ok (.scr ns) := rfl
theorem frL_plain : ∀ {ts : List T}, ts.all T.plain = true → frL ts = some ts
  | [], _ => rfl
  | t :: ts, h => by
    rw [List.all_cons, Bool.and_eq_true] at h
    have := frL_plain h.2
    simp only [frL, this]
    cases t with
    | node => cases h.1
    | pin => cases h.1
    | io => cases h.1
    | _ => rfl
/-- all arguments plain -/
def plainB : List T → Bool
  | [] => true
  | .imm _ :: ts => plainB ts
  | .fK _ :: ts => plainB ts
  | .fT _ :: ts => plainB ts
  | .scr _ :: ts => plainB ts
  | .exc .. :: ts => plainB ts
  | _ :: _ => false
theorem pB_nil : plainB [] = true := id rfl
theorem pB_imm {d : PyData} {ts : List T} : plainB (.imm d :: ts) = plainB ts := id rfl
theorem pB_fK {d : List (Ky × PyData)} {ts : List T} : plainB (.fK d :: ts) = plainB ts := id rfl
theorem pB_fT {d : List (List Ky × PyData)} {ts : List T} : plainB (.fT d :: ts) = plainB ts := id rfl
theorem pB_scr {d : List Int} {ts : List T} : plainB (.scr d :: ts) = plainB ts := id rfl
theorem pB_exc {a : Nat} {c : Str} {ts : List T} : plainB (.exc a c :: ts) = plainB ts := id rfl
theorem plainB_ok : ∀ {ts : List T}, plainB ts = true → ts.all T.plain = true
  | [], _ => rfl
  | t :: ts, h => by
    cases t with
    | node => cases h
    | pin => cases h
    | io => cases h
    | imm d => have a := plainB_ok (ts := ts) h; rw [List.all_cons, a]; rfl
    | fK d => have a := plainB_ok (ts := ts) h; rw [List.all_cons, a]; rfl
    | fT d => have a := plainB_ok (ts := ts) h; rw [List.all_cons, a]; rfl
    | scr d => have a := plainB_ok (ts := ts) h; rw [List.all_cons, a]; rfl
    | exc d c => have a := plainB_ok (ts := ts) h; rw [List.all_cons, a]; rfl
/-- a value, not what is handed back -/
def vl (r : Rs T) : Rs T := match r with | .ok t => (if t.isV then .ok t else .no) | r => r
theorem vl_imm {d : PyData} : vl (.ok (.imm d)) = .ok (.imm d) := rfl
theorem vl_nd {k : Kind} {ts : List T} : vl (.ok (.node k ts)) = .ok (.node k ts) := rfl
theorem vl_L {ds : List PyData} : vl (.ok (.L ds)) = .ok (.L ds) := rfl
theorem vl_fK {kvs : List (Ky × PyData)} : vl (.ok (.fK kvs)) = .ok (.fK kvs) := rfl
theorem vl_fT {kvs : List (List Ky × PyData)} : vl (.ok (.fT kvs)) = .ok (.fT kvs) := rfl
theorem vl_ex {c : Str} : vl (.ex c) = .ex c := rfl
theorem call_plain {f : Nat} {ts : List T} (h : plainB ts = true) : callT call f ts = vl (call f ts) := by
  have a := plainB_ok h
  unfold callT vl
  rw [frL_plain a]
  dsimp only
  generalize call f ts = r
  cases r with
  | ok t =>
    have h1 : t.isV = false → noRef t = false ∧ noLsT t = false := fun z => by cases t <;> first | exact ⟨rfl, rfl⟩ | cases z
    cases hv : t.isV with
    | true => simp only [a, hv, Bool.and_self, Bool.true_or, if_true]
    | false =>
      obtain ⟨z1, z2⟩ := h1 hv
      simp [a, z1, z2]
  | _ => rfl
def refR (r : Rs T) : Rs T := match r with | .ok t => if noRef t then .ok t else .no | .ex c => .ex c | .no => .no
theorem ref_int {i : Int} : refR (.ok (.imm (.int i))) = .ok (.imm (.int i)) := rfl
theorem ref_str {x : Str} : refR (.ok (.imm (.str x))) = .ok (.imm (.str x)) := rfl
theorem ref_bl {b : Bool} : refR (.ok (.imm (.bool b))) = .ok (.imm (.bool b)) := rfl
theorem ref_non : refR (.ok (.imm .none)) = .ok (.imm .none) := rfl
/-- with lists of one's own of plain items: no list lies in the answer, but that it is one itself -/
def refP (r : Rs T) : Rs T := match r with | .ok t => if noRef t || noLsT t then .ok t else .no | .ex c => .ex c | .no => .no
theorem refP_int {i : Int} : refP (.ok (.imm (.int i))) = .ok (.imm (.int i)) := rfl
theorem refP_str {x : Str} : refP (.ok (.imm (.str x))) = .ok (.imm (.str x)) := rfl
theorem refP_bl {b : Bool} : refP (.ok (.imm (.bool b))) = .ok (.imm (.bool b)) := rfl
theorem refP_non : refP (.ok (.imm .none)) = .ok (.imm .none) := rfl
theorem refP_L {ds : List PyData} (h : noLsA ds = true) : refP (.ok (.L ds)) = .ok (.L ds) := by
  have : noLsT (.L ds) = true := by simp only [noLsT, T.L, imms_map]; exact h
  simp only [refP, this, Bool.or_true, if_true]
theorem refP_imm {d : PyData} (h : noLs d = true) : refP (.ok (.imm d)) = .ok (.imm d) := by
  have : noLsT (.imm d) = true := h
  simp only [refP, this, Bool.or_true, if_true]
/-- with trees of one's own: the answer is no reference -/
theorem call_own {f : Nat} {ts as : List T} {d : PyData} (h : frL ts = some as) (e : call f as = .ok (.imm d)) (hd : isScal d = true) : callT call f ts = .ok (.imm d) := by
  unfold callT
  rw [h]
  simp only [e, noRef, hd, Bool.or_true, Bool.true_or, if_true]
/-! built-ins, methods -/
def biR (b : Bi) (ts : List T) : Rs T := .of (biT b ts)
theorem x_bi {b : Bi} {es : List E} : evX call pk (.bi b es) ρ = (evXs call true es ρ).bind (biR b) := by simp only [evX] <;> rfl
def lenR (o : Option Nat) : Rs T := match o with | some n => .ok (.imm (.int (n : Int))) | none => .no
theorem bi_len {t : T} : biR .len [t] = lenR (lenT t) := by
  unfold biR lenR
  simp only [biT]
  all_goals cases lenT t <;> rfl
theorem len_some {n : Nat} : lenR (some n) = .ok (.imm (.int (n : Int))) := rfl
theorem len_lst {ts : List T} : lenT (.node .lst ts) = some ts.length := rfl
theorem len_tup {ds : List PyData} : lenT (.imm (.tuple ds)) = some ds.length := rfl
theorem len_list {ds : List PyData} : lenT (.imm (.list ds)) = some ds.length := rfl
theorem len_scr {ns : List Int} : lenT (.scr ns) = some ns.length := by simp [lenT, T.kids]
theorem len_str {x : Str} (h : x.length ≤ sizeLine) : lenT (.imm (.str x)) = some x.length := by simp [lenT, h]
theorem len_L {ds : List PyData} : lenT (.L ds) = some ds.length := by unfold T.L; rw [len_lst, List.length_map]
def kidR (o : Option (Bool × List PyData)) (f : List PyData → T) : Rs T := match o with | some (_, ds) => .ok (f ds) | none => .no
def listO (t : T) : Option (List PyData) := match t.kids with | some (_, ds) => some ds | none => keysT t
def listR (o : Option (List PyData)) : Rs T := match o with | some ds => .ok (.L ds) | none => .no
theorem bi_list {t : T} : biR .list [t] = listR (listO t) := by
  unfold biR listR listO
  simp only [biT]
  all_goals cases t.kids with
  | none => try dsimp only
            all_goals cases keysT t <;> rfl
  | some p => rfl
theorem list_some {ds : List PyData} : listR (some ds) = .ok (.L ds) := rfl
theorem listO_tup {ds : List PyData} : listO (.imm (.tuple ds)) = some ds := rfl
theorem listO_list {ds : List PyData} : listO (.imm (.list ds)) = some ds := rfl
theorem listO_scr {ns : List Int} : listO (.scr ns) = some (ns.map .int) := by simp [listO, T.kids]
theorem listO_L {ds : List PyData} : listO (.L ds) = some ds := by simp only [listO, T.L, T.kids, imms_map]
theorem listO_fK {kvs : List (Ky × PyData)} : listO (.fK kvs) = some (kvs.map fun kv => ofKey kv.1) := by simp [listO, T.kids, keysT, T.dkv]
theorem listO_fT {kvs : List (List Ky × PyData)} : listO (.fT kvs) = some (kvs.map fun kv => .tuple (kv.1.map ofKey)) := by simp [listO, T.kids, keysT, T.dkv, T.dtv]
theorem bi_sorted {t : T} {ds : List PyData} (hk : t.kids = some (true, ds)) (h : sortB ds = true) : biR .sorted [t] = .ok (.L (sortD ds)) := by
  simp only [biR, biT, hk, h, if_true, Rs.of]
theorem bi_tuple {t : T} : biR .tuple [t] = kidR t.kids fun ds => .imm (.tuple ds) := by
  unfold biR kidR
  simp only [biT]
  all_goals cases t.kids <;> rfl
theorem kid_some {b : Bool} {ds : List PyData} {f : List PyData → T} : kidR (some (b, ds)) f = .ok (f ds) := rfl
theorem kids_L {ds : List PyData} : (T.L ds).kids = some (true, ds) := by simp only [T.L, T.kids, imms_map]
theorem kids_tup {ds : List PyData} : (T.imm (.tuple ds)).kids = some (false, ds) := rfl
theorem kids_list {ds : List PyData} : (T.imm (.list ds)).kids = some (true, ds) := rfl
theorem bi_max {i j : Int} : biR .max2 [.imm (.int i), .imm (.int j)] = .ok (.imm (.int (if j > i then j else i))) := rfl
theorem bi_min {i j : Int} : biR .min2 [.imm (.int i), .imm (.int j)] = .ok (.imm (.int (if j < i then j else i))) := rfl
theorem bi_str {i : Int} (h : i.natAbs.log2 < 1920) : biR .str [.imm (.int i)] = .ok (.imm (.str (toString i))) := by simp [biR, biT, h]
def isiR (c : Cl) (x : T) : Rs T := match isiT c x with | some r => .ok (.imm (.bool r)) | none => .no
theorem x_isi {a : E} {c : Cl} : evX call pk (.isi a c) ρ = (evX call true a ρ).bind (isiR c) := by simp only [evX] <;> rfl
theorem isi_bl {b : Bool} : isiR .bool (.imm (.bool b)) = .ok (.imm (.bool true)) := rfl
theorem isi_str {x : Str} : isiR .str (.imm (.str x)) = .ok (.imm (.bool true)) := rfl
theorem isi_tup {ds : List PyData} : isiR .tuple (.imm (.tuple ds)) = .ok (.imm (.bool true)) := rfl
theorem isi_list {ds : List PyData} : isiR .list (.imm (.list ds)) = .ok (.imm (.bool true)) := rfl
theorem isi_L {ds : List PyData} : isiR .list (.L ds) = .ok (.imm (.bool true)) := rfl
theorem isi_int {i : Int} : isiR .int (.imm (.int i)) = .ok (.imm (.bool true)) := rfl
def mthR (m : Mt) (x : T) (k : Rs (List T)) : Rs T := if mtR m x then k.bind fun ts => .of (mtT m x ts) else .no
theorem x_mth {a : E} {m : Mt} {es : List E} : evX call pk (.mth a m es) ρ = (evX call true a ρ).bind fun x => mthR m x (evXs call true es ρ) := by simp only [evX] <;> rfl
theorem mth_str {m : Mt} {x : Str} {ts : List T} (h : (match m with | .get => false | _ => true) = true) : mthR m (.imm (.str x)) (.ok ts) = .of (mtT m (.imm (.str x)) ts) := by
  cases m <;> first | rfl | cases h
/-! and, or -/
def bopR (c : Bool) (k : Rs T) (t : T) : Rs T := match truT t with | some b => if b = c then k else .ok (.imm (.bool b)) | none => .no
theorem x_bop {c : Bool} {es : List E} : evX call pk (.bop c es) ρ = evB call c es ρ := by simp only [evX]
theorem b_one {c : Bool} {e : E} : evB call c [e] ρ = evX call false e ρ := by simp only [evB]
theorem b_cons {c : Bool} {e e2 : E} {es : List E} : evB call c (e :: e2 :: es) ρ = (evX call true e ρ).bind (bopR c (evB call c (e2 :: es) ρ)) := by simp only [evB] <;> rfl
theorem bop_bl {c b : Bool} {k : Rs T} : bopR c k (.imm (.bool b)) = if b = c then k else .ok (.imm (.bool b)) := rfl
/-! statements -/
def truR (t : T) : Rs Bool := .of (truT t)
theorem t_ev {c : E} : evT call c ρ = (evX call true c ρ).bind truR := rfl
theorem tru_bl {b : Bool} : truR (.imm (.bool b)) = .ok b := rfl
theorem s_asg {i : Nat} {e : E} : evS call fl (.asg i e) ρ = O.of (evX call false e ρ) ρ fun t => .nx (ρ.set i (some t)) := by simp only [evS]
def upkR (o : Option Env) : O := match o with | some ρ' => .nx ρ' | none => .no
theorem s_upk {is : List Nat} {e : E} : evS call fl (.upk is e) ρ = O.of (evX call true e ρ) ρ fun t => upkR (upkT is t ρ) := by simp only [evS] <;> rfl
theorem upk_some : upkR (some ρ) = .nx ρ := rfl
theorem upkT_tup {is : List Nat} {ds : List PyData} : upkT is (.imm (.tuple ds)) ρ = upkGo is ds ρ := rfl
theorem upkGo_nil : upkGo [] [] ρ = some ρ := rfl
theorem upkGo_cons {i : Nat} {is : List Nat} {d : PyData} {ds : List PyData} : upkGo (i :: is) (d :: ds) ρ = upkGo is ds (ρ.set i (some (.imm d))) := rfl
def setR' (i : Nat) (ρ : Env) (o : Option T) : O := match o with | some t => .nx (ρ.set i (some t)) | none => .no
theorem set_some {i : Nat} {t : T} : setR' i ρ (some t) = .nx (ρ.set i (some t)) := rfl
def appR (call : Nat → List T → Rs T) (i : Nat) (e : E) (ρ : Env) (o : Option (Option T)) : O := match o with
  | some (some (.node .lst ts)) => O.of (evX call false e ρ) ρ fun x => setR' i ρ (appT (.node .lst ts) x)
  | _ => .no
theorem s_app {i : Nat} {e : E} : evS call fl (.app i e) ρ = appR call i e ρ ρ[i]? := by
  simp only [evS, appR]
  all_goals cases ρ[i]? with
  | none => rfl
  | some o =>
    cases o with
    | none => rfl
    | some t => cases t with
      | node k ts => cases k <;> rfl
      | _ => rfl
theorem app_lst {i : Nat} {e : E} {ts : List T} : appR call i e ρ (some (some (.node .lst ts))) = O.of (evX call false e ρ) ρ fun x => setR' i ρ (appT (.node .lst ts) x) := rfl
theorem app_L {i : Nat} {e : E} {ds : List PyData} : appR call i e ρ (some (some (.L ds))) = O.of (evX call false e ρ) ρ fun x => setR' i ρ (appT (.L ds) x) := rfl
theorem appT_L {ds : List PyData} {d : PyData} (h : ds.length < sizeLine) : appT (.L ds) (.imm d) = some (.L (ds ++ [d])) := by
  simp [appT, T.L, T.fr, h]
def putR (call : Nat → List T → Rs T) (i : Nat) (k e : E) (ρ : Env) (o : Option (Option T)) : O := match o with
  | some (some a) => O.of (evX call false e ρ) ρ fun x => O.of (evX call true k ρ) ρ fun k => (match k with | .imm d => setR' i ρ (putT a d x) | _ => .no)
  | _ => .no
theorem s_put {i : Nat} {k e : E} : evS call fl (.put i k e) ρ = putR call i k e ρ ρ[i]? := by
  simp only [evS, putR]
  all_goals cases ρ[i]? with
  | none => rfl
  | some o => cases o <;> rfl
theorem put_t {i : Nat} {k e : E} {a : T} : putR call i k e ρ (some (some a)) = O.of (evX call false e ρ) ρ fun x => O.of (evX call true k ρ) ρ fun k => (match k with | .imm d => setR' i ρ (putT a d x) | _ => .no) := rfl
theorem putT_L {ds : List PyData} {d : PyData} {j : Int} {n : Nat} (h : ixD ds.length j = some n) : putT (.L ds) (.int j) (.imm d) = some (.L (ds.set n d)) := by
  simp [putT, T.L, h, List.map_set]
theorem s_ret {e : E} : evS call fl (.ret e) ρ = O.of (retR call e ρ) ρ .rt := by simp only [evS]
def moveR (o : Option (Option T)) : Rs T := match o with | some (some t) => .ok t | _ => .no
theorem ret_var {i : Nat} : retR call (.var i) ρ = moveR ρ[i]? := by
  simp only [retR, moveR]
  all_goals cases ρ[i]? with
  | none => rfl
  | some o => cases o <;> rfl
theorem move_t {t : T} : moveR (some (some t)) = .ok t := rfl
theorem ret_e {e : E} (h : (match e with | .var _ => false | _ => true) = true) : retR call e ρ = evX call false e ρ := by
  cases e <;> first | rfl | cases h
def iffR (b : Bool) (x y : O) : O := match b with | true => x | false => y
theorem s_iff {c : E} {a b : List S} : evS call fl (.iff c a b) ρ = O.of (evT call c ρ) ρ fun t => iffR t (evSs call fl a ρ) (evSs call fl b ρ) := by simp only [evS] <;> rfl
theorem iff_t {x y : O} : iffR true x y = x := rfl
theorem iff_f {x y : O} : iffR false x y = y := rfl
noncomputable def forB (call : Nat → List T → Rs T) (fl i : Nat) (body : List S) (ds : List PyData) (ρ : Env) : O := forGo (fun d ρ => evSs call fl body (ρ.set i (some (.imm d)))) ds ρ
noncomputable def forC (call : Nat → List T → Rs T) (fl : Nat) (is : List Nat) (body : List S) (ds : List PyData) (ρ : Env) : O := forGo (fun d ρ => (upkR (upkT is (.imm d) ρ)).seq (evSs call fl body)) ds ρ
theorem s_fr {i : Nat} {src : E} {body : List S} : evS call fl (.fr i src body) ρ = O.of (srcR call src ρ) ρ fun p => forB call fl i body p.2 ρ := by simp only [evS, forB]
theorem s_frT {is : List Nat} {src : E} {body : List S} : evS call fl (.frT is src body) ρ = O.of (srcR call src ρ) ρ fun p => forC call fl is body p.2 ρ := by
  simp only [evS, forC]
  congr 1; funext p; congr 1; funext d ρ
  cases upkT is (.imm d) ρ <;> rfl
theorem s_frR {i : Nat} {lo : Option E} {hi : E} {body : List S} : evS call fl (.frR i lo hi body) ρ = O.of (rngR call lo hi ρ) ρ fun p => forB call fl i body p.2 ρ := by simp only [evS, forB]
def srcS (t : T) : Rs (T × List PyData) := match srcT t with | some ds => .ok (t, ds) | none => .no
theorem src_e {src : E} : srcR call src ρ = (evX call false src ρ).bind srcS := rfl
theorem src_str {x : Str} : srcS (.imm (.str x)) = .ok (.imm (.str x), signs x) := rfl
theorem src_tup {ds : List PyData} : srcS (.imm (.tuple ds)) = .ok (.imm (.tuple ds), ds) := rfl
theorem src_list {ds : List PyData} : srcS (.imm (.list ds)) = .ok (.imm (.list ds), ds) := rfl
theorem src_L {ds : List PyData} : srcS (.L ds) = .ok (.L ds, ds) := by
  simp only [srcS, srcT, T.L, T.kids, imms_map]
theorem src_scr {ns : List Int} : srcS (.scr ns) = .ok (.scr ns, ns.map .int) := rfl
def rngS (lo : Int) (h : T) : Rs (T × List PyData) := match h with
  | .imm (.int n) => match rngD lo n with
    | some ds => .ok (.imm .none, ds)
    | none => .no
  | _ => .no
theorem rng_n {hi : E} : rngR call none hi ρ = (evX call true hi ρ).bind (rngS 0) := by simp only [rngR, o_none, bind_ok] <;> rfl
theorem rng_s {lo hi : E} : rngR call (some lo) hi ρ = ((evX call true lo ρ).bind optR).bind fun l => (evX call true hi ρ).bind (rngS (l.getD 0)) := by simp only [rngR, o_some] <;> rfl
def rngO (o : Option (List PyData)) : Rs (T × List PyData) := match o with | some ds => .ok (.imm .none, ds) | none => .no
theorem rngS_int {lo n : Int} : rngS lo (.imm (.int n)) = rngO (rngD lo n) := id rfl
theorem rngO_some {ds : List PyData} : rngO (some ds) = .ok (.imm .none, ds) := rfl
def fzR (i : Nat) (ρ : Env) (o : Option (Option T)) : O := match o with | some (some t) => setR' i ρ t.fr | _ => .no
theorem s_fz {i : Nat} : evS call fl (.fz i) ρ = fzR i ρ ρ[i]? := by
  simp only [evS, fzR]
  all_goals cases ρ[i]? with
  | none => rfl
  | some o => cases o <;> rfl
theorem fz_t {i : Nat} {t : T} : fzR i ρ (some (some t)) = setR' i ρ t.fr := rfl
theorem frz_fr {t t' : T} (h : t.fr = some t') : frzR t = .ok t' := by simp [frzR, h]
theorem fr_imm {d : PyData} : (T.imm d).fr = some (.imm d) := rfl
theorem fr_scr {ns : List Int} : (T.scr ns).fr = some (.scr ns) := rfl
theorem fdatL_imms : ∀ {ts : List T} {ds : List PyData}, imms ts = some ds → fdatL ts = some ds
  | [], ds, h => by simpa [imms, fdatL] using h
  | t :: ts, ds, h => by
    cases t with
    | imm d =>
      simp only [imms] at h
      cases h2 : imms ts with
      | none => rw [h2] at h; cases h
      | some es => rw [h2] at h; cases h; simp [fdatL, T.fdat, fdatL_imms h2]
    | _ => simp [imms] at h
theorem fr_L {ds : List PyData} : (T.L ds).fr = some (.imm (.list ds)) := by
  simp only [T.L, T.fr, fdatL_imms (imms_map ds)]
theorem appT_LL {ds es : List PyData} (h : ds.length < sizeLine) : appT (.L ds) (.L es) = some (.L (ds ++ [.list es])) := by
  have e := fr_L (ds := es)
  unfold appT
  simp only [T.L] at e ⊢
  simp only [e, List.length_map, h, if_true]
  simp
theorem frz_L {ds : List PyData} : frzR (.L ds) = .ok (.imm (.list ds)) := frz_fr fr_L
theorem s_exp {e : E} : evS call fl (.exp e) ρ = O.of (evX call true e ρ) ρ fun _ => .nx ρ := by simp only [evS]
end
section
variable {i j : Int} {x y : Str} {b c : Bool}
theorem eq_int : cmpT .Eq (.imm (.int i)) (.imm (.int j)) = some (decide (i = j)) := by
  simp [cmpT, cmpEq, T.dat, PyData.depth, PyData.eqv, W.beq_decide]
theorem ne_int : cmpT .NotEq (.imm (.int i)) (.imm (.int j)) = some (!decide (i = j)) := by
  simp [cmpT, cmpEq, T.dat, PyData.depth, PyData.eqv, W.beq_decide, onot]
theorem eq_str : cmpT .Eq (.imm (.str x)) (.imm (.str y)) = some (decide (x = y)) := by
  simp [cmpT, cmpEq, T.dat, PyData.depth, PyData.eqv, W.beq_decide]
theorem ne_str : cmpT .NotEq (.imm (.str x)) (.imm (.str y)) = some (!decide (x = y)) := by
  simp [cmpT, cmpEq, T.dat, PyData.depth, PyData.eqv, W.beq_decide, onot]
theorem eq_bl : cmpT .Eq (.imm (.bool b)) (.imm (.bool c)) = some (decide (b = c)) := by
  simp [cmpT, cmpEq, T.dat, PyData.depth, PyData.eqv, W.beq_decide]
theorem ne_bl : cmpT .NotEq (.imm (.bool b)) (.imm (.bool c)) = some (!decide (b = c)) := by
  simp [cmpT, cmpEq, T.dat, PyData.depth, PyData.eqv, W.beq_decide, onot]
theorem lt_int : cmpT .Lt (.imm (.int i)) (.imm (.int j)) = some (decide (i < j)) := rfl
theorem gt_int : cmpT .Gt (.imm (.int i)) (.imm (.int j)) = some (decide (j < i)) := rfl
theorem le_int : cmpT .LtE (.imm (.int i)) (.imm (.int j)) = some (decide (i ≤ j)) := rfl
theorem ge_int : cmpT .GtE (.imm (.int i)) (.imm (.int j)) = some (decide (j ≤ i)) := rfl
theorem lt_str : cmpT .Lt (.imm (.str x)) (.imm (.str y)) = some (decide (x.cps.toList < y.cps.toList)) := rfl
theorem is_bl : cmpT .Is (.imm (.bool b)) (.imm (.bool c)) = some (decide (b = c)) := rfl
theorem in_sign {k : Nat} : cmpT .In (.imm (.str ⟨#[k]⟩)) (.imm (.str y)) = some (decide (k ∈ y.cps.toList)) := by
  simp [cmpT, cmpIn]
theorem notIn_sign {k : Nat} : cmpT .NotIn (.imm (.str ⟨#[k]⟩)) (.imm (.str y)) = some (!decide (k ∈ y.cps.toList)) := by
  simp [cmpT, cmpIn, onot]
theorem add_int : binT .Add (.imm (.int i)) (.imm (.int j)) = some (.imm (.int (i + j))) := rfl
theorem sub_int : binT .Sub (.imm (.int i)) (.imm (.int j)) = some (.imm (.int (i - j))) := rfl
theorem mod_int (h : 0 < j) : binT .Mod (.imm (.int i)) (.imm (.int j)) = some (.imm (.int (i % j))) := by
  simp [binT, intOp, h]
theorem div_int (h : 0 < j ∧ j < 1073741824) : binT .FloorDiv (.imm (.int i)) (.imm (.int j)) = some (.imm (.int (i / j))) := by
  have h' : 0 < j ∧ j.natAbs < 1073741824 := by omega
  simp only [binT, intOp, h', and_self, if_true]
theorem mul_int (h : (-18446744073709551616 < i ∧ i < 18446744073709551616) ∨ (-18446744073709551616 < j ∧ j < 18446744073709551616)) : binT .Mult (.imm (.int i)) (.imm (.int j)) = some (.imm (.int (i * j))) := by
  have h' : i.natAbs < 18446744073709551616 ∨ j.natAbs < 18446744073709551616 := by omega
  simp only [binT, intOp, h', if_true]
theorem pow_int (h : 0 ≤ j ∧ j ≤ 1000000 ∧ i.natAbs < 18446744073709551616) : binT .Pow (.imm (.int i)) (.imm (.int j)) = some (.imm (.int (i ^ j.toNat))) := by
  have h' : 0 ≤ j ∧ j.natAbs ≤ 1000000 ∧ i.natAbs < 18446744073709551616 := by omega
  simp only [binT, intOp, h', and_self, if_true]
theorem add_str (h : x.length + y.length ≤ sizeLine) : binT .Add (.imm (.str x)) (.imm (.str y)) = some (.imm (.str (x ++ y))) := by
  simp [binT, h]
theorem ix_str {j k : Nat} (hl : x.length ≤ sizeLine) (h : x.cps.toList[j]? = some k) : idxT (.imm (.str x)) (.int (j : Int)) = some (.imm (.str ⟨#[k]⟩)) := by
  have hj : j < x.length := by have := (List.getElem?_eq_some_iff.mp h).1; rwa [Array.length_toList] at this
  have : ixD x.length (j : Int) = some j := by unfold ixD; simp; exact hj
  simp only [idxT, hl, if_true, this, h]
theorem ix_scr {ns : List Int} {j : Nat} {k : Int} (h : ns[j]? = some k) : idxT (.scr ns) (.int (j : Int)) = some (.imm (.int k)) := by
  have hj := (List.getElem?_eq_some_iff.mp h).1
  have : ixD ns.length (j : Int) = some j := by unfold ixD; simp; exact hj
  simp [idxT, dget, T.dkv, T.dtv, T.kids, this, h]
end
section
variable {i j : Int} {x y : Str} {b c : Bool}
theorem r_add_int : binR .Add (.imm (.int i)) (.imm (.int j)) = .ok (.imm (.int (i + j))) := rfl
theorem r_sub_int : binR .Sub (.imm (.int i)) (.imm (.int j)) = .ok (.imm (.int (i - j))) := rfl
theorem r_mod_int (h : 0 < j) : binR .Mod (.imm (.int i)) (.imm (.int j)) = .ok (.imm (.int (i % j))) := by unfold binR; rw [mod_int h]; rfl
theorem r_div_int (h : 0 < j ∧ j < 1073741824) : binR .FloorDiv (.imm (.int i)) (.imm (.int j)) = .ok (.imm (.int (i / j))) := by unfold binR; rw [div_int h]; rfl
theorem r_mul_int (h : (-18446744073709551616 < i ∧ i < 18446744073709551616) ∨ (-18446744073709551616 < j ∧ j < 18446744073709551616)) : binR .Mult (.imm (.int i)) (.imm (.int j)) = .ok (.imm (.int (i * j))) := by unfold binR; rw [mul_int h]; rfl
theorem r_mul_l (h : -18446744073709551616 < i) (h2 : i < 18446744073709551616) : binR .Mult (.imm (.int i)) (.imm (.int j)) = .ok (.imm (.int (i * j))) := r_mul_int (.inl ⟨h, h2⟩)
theorem r_mul_r (h : -18446744073709551616 < j) (h2 : j < 18446744073709551616) : binR .Mult (.imm (.int i)) (.imm (.int j)) = .ok (.imm (.int (i * j))) := r_mul_int (.inr ⟨h, h2⟩)
theorem r_pow_int (h : 0 ≤ j ∧ j ≤ 1000000 ∧ i.natAbs < 18446744073709551616) : binR .Pow (.imm (.int i)) (.imm (.int j)) = .ok (.imm (.int (i ^ j.toNat))) := by unfold binR; rw [pow_int h]; rfl
theorem r_add_str (h : x.length + y.length ≤ sizeLine) : binR .Add (.imm (.str x)) (.imm (.str y)) = .ok (.imm (.str (x ++ y))) := by unfold binR; rw [add_str h]; rfl
theorem c_eq_int : cmpR .Eq (.imm (.int i)) (.imm (.int j)) = .ok (.imm (.bool (decide (i = j)))) := by unfold cmpR; rw [eq_int]
theorem c_ne_int : cmpR .NotEq (.imm (.int i)) (.imm (.int j)) = .ok (.imm (.bool (!decide (i = j)))) := by unfold cmpR; rw [ne_int]
theorem c_eq_str : cmpR .Eq (.imm (.str x)) (.imm (.str y)) = .ok (.imm (.bool (decide (x = y)))) := by unfold cmpR; rw [eq_str]
theorem c_ne_str : cmpR .NotEq (.imm (.str x)) (.imm (.str y)) = .ok (.imm (.bool (!decide (x = y)))) := by unfold cmpR; rw [ne_str]
theorem c_eq_bl : cmpR .Eq (.imm (.bool b)) (.imm (.bool c)) = .ok (.imm (.bool (decide (b = c)))) := by unfold cmpR; rw [eq_bl]
theorem c_ne_bl : cmpR .NotEq (.imm (.bool b)) (.imm (.bool c)) = .ok (.imm (.bool (!decide (b = c)))) := by unfold cmpR; rw [ne_bl]
theorem c_lt_int : cmpR .Lt (.imm (.int i)) (.imm (.int j)) = .ok (.imm (.bool (decide (i < j)))) := rfl
theorem c_gt_int : cmpR .Gt (.imm (.int i)) (.imm (.int j)) = .ok (.imm (.bool (decide (j < i)))) := rfl
theorem c_le_int : cmpR .LtE (.imm (.int i)) (.imm (.int j)) = .ok (.imm (.bool (decide (i ≤ j)))) := rfl
theorem c_ge_int : cmpR .GtE (.imm (.int i)) (.imm (.int j)) = .ok (.imm (.bool (decide (j ≤ i)))) := rfl
theorem c_lt_str : cmpR .Lt (.imm (.str x)) (.imm (.str y)) = .ok (.imm (.bool (decide (x.cps.toList < y.cps.toList)))) := rfl
theorem c_is_bl : cmpR .Is (.imm (.bool b)) (.imm (.bool c)) = .ok (.imm (.bool (decide (b = c)))) := rfl
theorem c_in_sign {k : Nat} : cmpR .In (.imm (.str ⟨#[k]⟩)) (.imm (.str y)) = .ok (.imm (.bool (decide (k ∈ y.cps.toList)))) := by unfold cmpR; rw [in_sign]
theorem c_notIn_sign {k : Nat} : cmpR .NotIn (.imm (.str ⟨#[k]⟩)) (.imm (.str y)) = .ok (.imm (.bool (!decide (k ∈ y.cps.toList)))) := by unfold cmpR; rw [notIn_sign]
end
/-! ### loops -/
theorem forGo_inv {f : PyData → Env → O} (P : Nat → Env → Prop) : ∀ {ds : List PyData} {ρ : Env} (k0 : Nat), P k0 ρ → (∀ k d ρ, ds[k]? = some d → P (k0 + k) ρ → ∃ ρ', f d ρ = .nx ρ' ∧ P (k0 + (k + 1)) ρ') → ∃ ρ', forGo f ds ρ = .nx ρ' ∧ P (k0 + ds.length) ρ'
  | [], ρ, k0, h0, _ => ⟨ρ, rfl, h0⟩
  | d :: ds, ρ, k0, h0, st => by
    obtain ⟨ρ1, h1, h2⟩ := st 0 d ρ rfl h0
    obtain ⟨ρ2, h3, h4⟩ := forGo_inv P (ds := ds) (ρ := ρ1) (k0 + 1) (by simpa using h2) fun k d ρ hd hp => by
      obtain ⟨ρ', a, b⟩ := st (k + 1) d ρ (by simpa using hd) (by rwa [show k0 + (k + 1) = k0 + 1 + k by omega])
      exact ⟨ρ', a, by rwa [show k0 + 1 + (k + 1) = k0 + (k + 1 + 1) by omega]⟩
    refine ⟨ρ2, ?_, by rw [List.length_cons, show k0 + (ds.length + 1) = k0 + 1 + ds.length by omega]; exact h4⟩
    rw [forGo_cons, h1]; exact h3
/-- a loop that ends early at the first item that fails -/
theorem forGo_all {f : PyData → Env → O} (P : Nat → Env → Prop) (p : PyData → Bool) (o : O) : ∀ {ds : List PyData} {ρ : Env} (k0 : Nat), P k0 ρ → (∀ k d ρ, ds[k]? = some d → P (k0 + k) ρ → (p d = true ∧ ∃ ρ', f d ρ = .nx ρ' ∧ P (k0 + (k + 1)) ρ') ∨ (p d = false ∧ f d ρ = o ∧ ∀ ρ', o ≠ .nx ρ')) →
    (ds.all p = true ∧ ∃ ρ', forGo f ds ρ = .nx ρ' ∧ P (k0 + ds.length) ρ') ∨ (ds.all p = false ∧ forGo f ds ρ = o)
  | [], ρ, k0, h0, _ => .inl ⟨rfl, ρ, rfl, h0⟩
  | d :: ds, ρ, k0, h0, st => by
    rcases st 0 d ρ rfl h0 with ⟨hp, ρ1, h1, h2⟩ | ⟨hp, h1, hn⟩
    · have ih := forGo_all P p o (ds := ds) (ρ := ρ1) (k0 + 1) (by simpa using h2) fun k d ρ hd hp => by
        rcases st (k + 1) d ρ (by simpa using hd) (by rwa [show k0 + (k + 1) = k0 + 1 + k by omega]) with ⟨a, ρ', b, c⟩ | z
        · exact .inl ⟨a, ρ', b, by rwa [show k0 + 1 + (k + 1) = k0 + (k + 1 + 1) by omega]⟩
        · exact .inr z
      rcases ih with ⟨h3, ρ2, h4, h5⟩ | ⟨h3, h4⟩
      · refine .inl ⟨by rw [List.all_cons, hp, h3]; rfl, ρ2, ?_, by rw [List.length_cons, show k0 + (ds.length + 1) = k0 + 1 + ds.length by omega]; exact h5⟩
        rw [forGo_cons, h1]; exact h4
      · refine .inr ⟨by rw [List.all_cons, h3, Bool.and_false], ?_⟩
        rw [forGo_cons, h1]; exact h4
    · refine .inr ⟨by rw [List.all_cons, hp, Bool.false_and], ?_⟩
      rw [forGo_cons, h1]
      cases o with
      | nx ρ' => exact absurd rfl (hn ρ')
      | _ => rfl
theorem forB_inv {call : Nat → List T → Rs T} {fl i : Nat} {body : List S} {ds : List PyData} {ρ : Env} (P : Nat → Env → Prop) (h0 : P 0 ρ) (st : ∀ k d ρ, ds[k]? = some d → P k ρ → ∃ ρ', evSs call fl body (ρ.set i (some (.imm d))) = .nx ρ' ∧ P (k + 1) ρ') :
    ∃ ρ', forB call fl i body ds ρ = .nx ρ' ∧ P ds.length ρ' := by
  obtain ⟨ρ', a, b⟩ := forGo_inv (f := fun d ρ => evSs call fl body (ρ.set i (some (.imm d)))) P (ds := ds) (ρ := ρ) 0 h0 fun k d ρ hd hp => by
    rw [Nat.zero_add] at hp ⊢
    exact st k d ρ hd hp
  exact ⟨ρ', a, by rwa [Nat.zero_add] at b⟩
theorem forB_all {call : Nat → List T → Rs T} {fl i : Nat} {body : List S} {ds : List PyData} {ρ : Env} (P : Nat → Env → Prop) (p : PyData → Bool) (o : O) (ho : ∀ ρ', o ≠ .nx ρ') (h0 : P 0 ρ)
    (st : ∀ k d ρ, ds[k]? = some d → P k ρ → (p d = true ∧ ∃ ρ', evSs call fl body (ρ.set i (some (.imm d))) = .nx ρ' ∧ P (k + 1) ρ') ∨ (p d = false ∧ evSs call fl body (ρ.set i (some (.imm d))) = o)) :
    (ds.all p = true ∧ ∃ ρ', forB call fl i body ds ρ = .nx ρ' ∧ P ds.length ρ') ∨ (ds.all p = false ∧ forB call fl i body ds ρ = o) := by
  rcases forGo_all (f := fun d ρ => evSs call fl body (ρ.set i (some (.imm d)))) P p o (ds := ds) (ρ := ρ) 0 h0 (fun k d ρ hd hp => by
    rw [Nat.zero_add] at hp ⊢
    rcases st k d ρ hd hp with z | ⟨a, b⟩
    · exact .inl z
    · exact .inr ⟨a, b, ho⟩) with ⟨a, ρ', b, c⟩ | z
  · exact .inl ⟨a, ρ', b, by rwa [Nat.zero_add] at c⟩
  · exact .inr z
theorem rng0 {n : Nat} (h : n < 4611686018427387904) : rngD 0 (n : Int) = some ((List.range n).map fun (k : Nat) => PyData.int (k : Int)) := by
  unfold rngD
  rw [if_pos ⟨by decide, by omega⟩]
  simp
theorem rng_get {n k : Nat} {d : PyData} (h : ((List.range n).map fun (k : Nat) => PyData.int (k : Int))[k]? = some d) : k < n ∧ d = .int (k : Int) := by
  rw [List.getElem?_map] at h
  by_cases hk : k < n
  · rw [List.getElem?_range hk] at h
    cases h
    exact ⟨hk, rfl⟩
  · rw [List.getElem?_eq_none (by simpa using hk)] at h
    cases h
theorem signs_get {x : Str} {k : Nat} {d : PyData} (h : (signs x)[k]? = some d) : ∃ c, x.cps.toList[k]? = some c ∧ d = .str ⟨#[c]⟩ := by
  unfold signs at h
  rw [List.getElem?_map] at h
  cases e : x.cps.toList[k]? with
  | none => rw [e] at h; cases h
  | some c => rw [e] at h; cases h; exact ⟨c, rfl, rfl⟩
theorem strlen {x : Str} : x.length = x.cps.toList.length := Array.length_toList.symm
theorem ix_ex {x : Str} {i : Int} (h0 : 0 ≤ i) (h1 : i < x.length) (hl : x.length ≤ sizeLine) : ∃ g, x.cps.toList[i.toNat]? = some g ∧ idxT (.imm (.str x)) (.int i) = some (.imm (.str ⟨#[g]⟩)) := by
  have hj : i.toNat < x.cps.toList.length := by rw [Array.length_toList]; show i.toNat < x.length; omega
  refine ⟨x.cps.toList[i.toNat], List.getElem?_eq_getElem hj, ?_⟩
  have := ix_str (x := x) (j := i.toNat) hl (List.getElem?_eq_getElem hj)
  rwa [Int.toNat_of_nonneg h0] at this
/-- texts of one sign each -/
def ones (gs : List Nat) : List PyData := gs.map fun g => .str ⟨#[g]⟩
theorem signs_ones (x : Str) : signs x = ones x.cps.toList := rfl
theorem texts_map : ∀ xs : List Str, texts (xs.map .str) = some xs
  | [] => rfl
  | x :: xs => by simp [texts, texts_map xs]
theorem join_nil : ∀ gs : List Nat, Str.join (Str.ofString "") (gs.map fun g => (⟨#[g]⟩ : Str)) = ⟨gs.toArray⟩ := by
  intro gs
  refine TL.ext_tl ?_
  have e0 : TL.tl (Str.ofString "") = [] := by decide +kernel
  rw [TL.tl_join, e0]
  show _ = gs
  have : ∀ gs : List Nat, TL.joinL [] ((gs.map fun g => (⟨#[g]⟩ : Str)).map TL.tl) = gs := by
    intro gs
    induction gs with
    | nil => rfl
    | cons g gs ih =>
      cases gs with
      | nil => rfl
      | cons h gs => 
        show [g] ++ ([] ++ TL.joinL [] (((h :: gs).map fun g => (⟨#[g]⟩ : Str)).map TL.tl)) = _
        rw [ih]; rfl
  exact this gs
theorem join_ones {gs : List Nat} (h : gs.length ≤ 16777216) : mtT .join (.imm (.str (Str.ofString ""))) [.L (ones gs)] = some (.imm (.str ⟨gs.toArray⟩)) := by
  have e : ones gs = (gs.map fun g => (⟨#[g]⟩ : Str)).map .str := by simp [ones]
  have e0 : (Str.ofString "").length = 0 := by decide +kernel
  have hs : (((gs.map fun g => (⟨#[g]⟩ : Str))).map (·.length)).sum = gs.length := by
    rw [List.map_map]
    induction gs with
    | nil => rfl
    | cons g gs ih => 
      simp only [List.map_cons, List.sum_cons, List.length_cons]
      rw [ih (by simp at h; omega) (by simp [ones])]
      show 1 + _ = _
      omega
  simp only [mtT, kids_L, e, texts_map]
  rw [if_pos (by rw [hs, e0]; simp; exact h), join_nil]
theorem ones_get {gs : List Nat} {k : Nat} {d : PyData} (h : (ones gs)[k]? = some d) : ∃ g, gs[k]? = some g ∧ d = .str ⟨#[g]⟩ := by
  unfold ones at h
  rw [List.getElem?_map] at h
  cases e : gs[k]? with
  | none => rw [e] at h; cases h
  | some c => rw [e] at h; cases h; exact ⟨c, rfl, rfl⟩
theorem ones_app {gs : List Nat} {g : Nat} : ones gs ++ [.str ⟨#[g]⟩] = ones (gs ++ [g]) := by simp [ones]
theorem ones_set {gs : List Nat} {g n : Nat} : (ones gs).set n (.str ⟨#[g]⟩) = ones (gs.set n g) := by simp [ones, List.map_set]
theorem ones_len {gs : List Nat} : (ones gs).length = gs.length := by simp [ones]
theorem small_n {n : Nat} (h : n ≤ 16777216) : n ≤ sizeLine := by rw [sizeLine_eq]; exact h
theorem ixD_in {n : Nat} {i : Int} (h0 : 0 ≤ i) (h1 : i < n) : ixD n i = some i.toNat := by
  unfold ixD
  rw [if_pos h0, if_pos h1]
theorem cut_from {α : Type} {xs : List α} {k : Nat} : cutL xs (some (k : Int)) none = xs.drop k := by
  unfold cutL cutB
  simp only [HT.sIx_nat, HT.sIx_none]
  by_cases h : k ≤ xs.length
  · rw [Nat.min_eq_left h]
    exact List.take_of_length_le (by simp)
  · rw [Nat.min_eq_right (by omega), List.drop_eq_nil_of_le (Nat.le_refl _), List.drop_eq_nil_of_le (by omega)]
    simp
theorem cut_to {α : Type} {xs : List α} {k : Nat} : cutL xs none (some (k : Int)) = xs.take k := by
  unfold cutL cutB
  simp only [HT.sIx_nat, HT.sIx_none, List.drop_zero, Nat.sub_zero]
  by_cases h : k ≤ xs.length
  · rw [Nat.min_eq_left h]
  · rw [Nat.min_eq_right (by omega), List.take_of_length_le (Nat.le_refl _), List.take_of_length_le (by omega)]
def mkO (ts : List T) (o : Option (List PyData)) : T := match o with | some ds => .imm (.tuple ds) | none => .node .tup ts
theorem mk_eq {ts : List T} : mkTup ts = mkO ts (imms ts) := id rfl
theorem mkO_some {ts : List T} {ds : List PyData} : mkO ts (some ds) = .imm (.tuple ds) := rfl
def frO (o : Option (List PyData)) : Option T := match o with | some ds => some (.imm (.list ds)) | none => none
theorem fr_lst {ts : List T} : (T.node .lst ts).fr = frO (fdatL ts) := by
  simp only [T.fr, frO]
  all_goals cases fdatL ts <;> rfl
theorem frO_some {ds : List PyData} : frO (some ds) = some (.imm (.list ds)) := rfl
theorem fdL_nil : fdatL [] = some [] := by simp only [fdatL]
theorem fdL_imm {d : PyData} {ts : List T} : fdatL (.imm d :: ts) = (fdatL ts).map (d :: ·) := by
  simp only [fdatL, T.fdat]
  all_goals cases fdatL ts <;> rfl
theorem fdL_lst {us ts : List T} {ds : List PyData} (h : fdatL us = some ds) : fdatL (.node .lst us :: ts) = (fdatL ts).map (.list ds :: ·) := by
  simp only [fdatL, T.fdat, h]
  all_goals cases fdatL ts <;> rfl
theorem om_some {α β : Type} {f : α → β} {a : α} : (some a).map f = some (f a) := rfl
/-! ### ways: tuples of texts -/
def Wy (ws : List Str) : PyData := .tuple (ws.map .str)
theorem wy_def {ws : List Str} : PyData.tuple (ws.map .str) = Wy ws := rfl
theorem dep_strs : ∀ ws : List Str, PyData.depthAll (ws.map .str) = 0
  | [] => by simp only [List.map_nil, PyData.depthAll]
  | w :: ws => by simp only [List.map_cons, PyData.depthAll, PyData.depth, dep_strs ws]; rfl
theorem dep_wy {ws : List Str} : (Wy ws).depth = 1 := by
  unfold Wy
  simp only [PyData.depth, dep_strs]
theorem eqv_wy {a b : List Str} : PyData.eqv (Wy a) (Wy b) = decide (a = b) := by
  unfold Wy
  simp only [PyData.eqv]
  exact W.eqvAll_map (α := Str) a b
theorem c_eq_wy {a b : List Str} : cmpR .Eq (.imm (Wy a)) (.imm (Wy b)) = .ok (.imm (.bool (decide (a = b)))) := by
  simp [cmpR, cmpT, cmpEq, T.dat, dep_wy, eqv_wy]
theorem c_ne_wy {a b : List Str} : cmpR .NotEq (.imm (Wy a)) (.imm (Wy b)) = .ok (.imm (.bool (!decide (a = b)))) := by
  simp [cmpR, cmpT, cmpEq, T.dat, dep_wy, eqv_wy, onot]
theorem isi_wy {a : List Str} : isiR .tuple (.imm (Wy a)) = .ok (.imm (.bool true)) := rfl
theorem len_wy {a : List Str} : lenT (.imm (Wy a)) = some a.length := by
  show some (a.map PyData.str).length = _
  rw [List.length_map]
theorem listO_wy {a : List Str} : listO (.imm (Wy a)) = some (a.map .str) := rfl
theorem kids_wy {a : List Str} : (T.imm (Wy a)).kids = some (false, a.map .str) := rfl
theorem src_wy {a : List Str} : srcS (.imm (Wy a)) = .ok (.imm (Wy a), a.map .str) := rfl
theorem cut_map {α β : Type} (f : α → β) (xs : List α) (lo hi : Option Int) : cutL (xs.map f) lo hi = (cutL xs lo hi).map f := by
  unfold cutL cutB
  simp only [List.length_map, List.map_take, List.map_drop]
theorem slc_wy {a : List Str} {lo hi : Option Int} : slcT (.imm (Wy a)) lo hi = some (.imm (Wy (cutL a lo hi))) := by
  unfold Wy
  simp only [slcT, T.kids, cut_map]
theorem ix_wy {a : List Str} {j : Nat} {w : Str} (h : a[j]? = some w) : idxT (.imm (Wy a)) (.int (j : Int)) = some (.imm (.str w)) := by
  have hj : j < a.length := (List.getElem?_eq_some_iff.mp h).1
  have e : ixD (a.map PyData.str).length (j : Int) = some j := by
    rw [List.length_map, ixD_in (by omega) (by omega)]; rfl
  unfold Wy
  simp only [idxT, dget, T.dkv, T.dtv, T.kids, e, List.getElem?_map, h]
  rfl
theorem add_wy {a b : List Str} (h : a.length + b.length ≤ sizeLine) : binR .Add (.imm (Wy a)) (.imm (Wy b)) = .ok (.imm (Wy (a ++ b))) := by
  have h1 : a.length ≤ sizeLine := by omega
  have h2 : b.length ≤ sizeLine := by omega
  unfold Wy binR
  simp only [binT, seqAdd, T.isScr, T.kids, Bool.or_self, Bool.false_eq_true, if_false, List.length_map, h, h1, h2, and_self, if_true, List.map_append]
  rfl
theorem cut_neg1 {α : Type} {xs : List α} : cutL xs none (some (-1)) = xs.dropLast := by
  unfold cutL cutB HT.sIx
  simp only [List.drop_zero, Nat.sub_zero, List.dropLast_eq_take]
  congr 1
  have : (-1 : Int) < 0 := by decide
  rw [if_pos this]
  omega
/-! ### comprehensions -/
def lcB (call : Nat → List T → Rs T) (i : Nat) (elt : E) (c : Option E) (ρ : Env) (ds : List PyData) : Rs T := (lcGo (lcStep call i elt c ρ) ds).bind fun r => if r.length ≤ sizeLine then .ok (.L r) else .no
def lcI (ρ : Env) (i : Nat) (k : Rs T) : Rs T := if ρ.length ≤ i then .no else k
theorem x_lc {call : Nat → List T → Rs T} {pk : Bool} {i : Nat} {src elt : E} {c : Option E} {ρ : Env} : evX call pk (.lc i src elt c) ρ = lcI ρ i ((srcR call src ρ).bind fun p => lcB call i elt c ρ p.2) := by rw [evX_lc]; rfl
theorem x_lcR {call : Nat → List T → Rs T} {pk : Bool} {i : Nat} {lo : Option E} {hi elt : E} {c : Option E} {ρ : Env} : evX call pk (.lcR i lo hi elt c) ρ = lcI ρ i ((rngR call lo hi ρ).bind fun p => lcB call i elt c ρ p.2) := by rw [evX_lcR]; rfl
theorem lcI_ok {ρ : Env} {i : Nat} {k : Rs T} (h : i < ρ.length) : lcI ρ i k = k := if_neg (by omega)
def immR (t : T) : Rs (Option PyData) := immOf t
theorem imm_ok {d : PyData} : immR (.imm d) = .ok (some d) := rfl
theorem imm_L {ds : List PyData} : immR (.L ds) = .ok (some (.list ds)) := by unfold immR immOf; rw [fr_L]
section
variable {call : Nat → List T → Rs T} {fl i : Nat} {ρ : Env} {e e2 : E} {ds ds' : List PyData} {k : List PyData → O}
theorem s_lm0 {m : LM0} : evS call fl (.lm0 m i) ρ = lmG ρ[i]? fun ds => lmS i ρ (lm0T m ds) := by simp only [evS]
theorem s_lm1 {m : LM1} : evS call fl (.lm1 m i e) ρ = lmG ρ[i]? fun ds => O.of (evX call true e ρ) ρ fun x => lmS i ρ (lm1T m ds x) := by simp only [evS]
theorem s_ins : evS call fl (.ins i e e2) ρ = lmG ρ[i]? fun ds => O.of (evX call true e ρ) ρ fun x => O.of (evX call true e2 ρ) ρ fun y => lmS i ρ (insT ds x y) := by simp only [evS]
theorem lmG_L : lmG (some (some (.L ds))) k = k ds := by unfold lmG; simp only [T.L, imms_map]
theorem lmS_some : lmS i ρ (some ds) = .nx (ρ.set i (some (T.L ds))) := rfl
theorem lm_pop (h : ds ≠ []) : lm0T .pop ds = some ds.dropLast := if_neg h
theorem lm_rev : lm0T .rev ds = some ds.reverse := rfl
theorem lm_clr : lm0T .clr ds = some [] := rfl
theorem lm_popI {j : Nat} (h : j < ds.length) (hl : ds.length ≤ 16777216) : lm1T .popI ds (.imm (.int (j : Int))) = some (ds.eraseIdx j) := by
  simp only [lm1T]
  rw [if_pos ⟨by omega, by omega, by omega⟩]
  rfl
theorem lm_extL {zs : List PyData} (h : ds.length + zs.length ≤ 16777216) : lm1T .ext ds (.L zs) = some (ds ++ zs) := by
  simp only [lm1T, lstOf, T.L, imms_map]
  rw [if_pos (small_n h)]
theorem lm_ext {zs : List PyData} (h : ds.length + zs.length ≤ 16777216) : lm1T .ext ds (.imm (.list zs)) = some (ds ++ zs) := by
  simp only [lm1T, lstOf]
  rw [if_pos (small_n h)]
theorem ins_nat {j : Nat} {d : PyData} (h : j ≤ 16777216) (hl : ds.length < 16777216) : insT ds (.imm (.int (j : Int))) (.imm d) = some (ds.take j ++ [d] ++ ds.drop j) := by
  have h0 : (sizeLine : Nat) = 16777216 := by decide
  simp only [insT]
  rw [if_pos ⟨by omega, by omega, by omega⟩]
  rfl
theorem s_whl {c : E} {body : List S} : evS call fl (.whl c body) ρ = whGo (evT call c) (evSs call fl body) fl ρ := by simp only [evS]
theorem wh_no {c : Env → Rs Bool} {b : Env → O} {n : Nat} (h : c ρ = .ok false) : whGo c b (n + 1) ρ = .nx ρ := by simp only [whGo, h]
theorem wh_yes {c : Env → Rs Bool} {b : Env → O} {n : Nat} (h : c ρ = .ok true) : whGo c b (n + 1) ρ = (b ρ).seq (whGo c b n) := by
  simp only [whGo, h]
  unfold O.seq
  cases b ρ <;> rfl
theorem s_aug {op : Operator} {a b t : T} (h : ρ[i]? = some (some a)) (he : evX call true e ρ = .ok b) (ht : augT op a b = some t) : evS call fl (.aug i op e) ρ = .nx (ρ.set i (some t)) := by
  simp only [evS, h, he, O.of, ht]
end
theorem step_none {call : Nat → List T → Rs T} {i : Nat} {elt : E} {ρ : Env} {d : PyData} : lcStep call i elt none ρ d = (evX call false elt (ρ.set i (some (.imm d)))).bind immR := by
  simp only [lcStep, evC, bind_ok, if_true]
  rfl
def ifR {α : Type} (b : Bool) (x y : α) : α := if b = true then x else y
theorem if_tt {α : Type} {x y : α} : ifR true x y = x := rfl
theorem if_ff {α : Type} {x y : α} : ifR false x y = y := rfl
theorem step_some {call : Nat → List T → Rs T} {i : Nat} {elt c : E} {ρ : Env} {d : PyData} : lcStep call i elt (some c) ρ d = (evT call c (ρ.set i (some (.imm d)))).bind fun b => ifR b ((evX call false elt (ρ.set i (some (.imm d)))).bind immR) (.ok none) := by
  simp only [lcStep, evC_some]
  rfl
theorem lcGo_map {f : PyData → Rs (Option PyData)} {g : PyData → PyData} : ∀ {ds : List PyData}, (∀ d ∈ ds, f d = .ok (some (g d))) → lcGo f ds = .ok (ds.map g)
  | [], _ => rfl
  | d :: ds, h => by
    simp only [lcGo, h d List.mem_cons_self, lcGo_map fun d hd => h d (List.mem_cons_of_mem _ hd)]
    rfl
theorem lcGo_opt {f : PyData → Rs (Option PyData)} {g : PyData → Option PyData} : ∀ {ds : List PyData}, (∀ d ∈ ds, f d = .ok (g d)) → lcGo f ds = .ok (ds.filterMap g)
  | [], _ => rfl
  | d :: ds, h => by
    simp only [lcGo, h d List.mem_cons_self, lcGo_opt fun d hd => h d (List.mem_cons_of_mem _ hd), List.filterMap_cons]
    cases g d <;> rfl
theorem lc_map {call : Nat → List T → Rs T} {i : Nat} {elt : E} {c : Option E} {ρ : Env} {ds : List PyData} {g : PyData → PyData} (h : ∀ d ∈ ds, lcStep call i elt c ρ d = .ok (some (g d))) (hz : ds.length ≤ sizeLine) : lcB call i elt c ρ ds = .ok (.L (ds.map g)) := by
  unfold lcB
  rw [lcGo_map h]
  simp only [bind_ok, List.length_map, hz, if_true]
theorem rng1 {n : Nat} (h : n < 4611686018427387904) : rngD 1 (n : Int) = some ((List.range (n - 1)).map fun (k : Nat) => PyData.int ((1 + k : Nat) : Int)) := by
  unfold rngD
  rw [if_pos ⟨by decide, by omega⟩]
  have : ((n : Int) - 1).toNat = n - 1 := by omega
  rw [this]
  simp
theorem isPL_plain {ts : List T} (h : ts.all T.plain = true) : ts.all T.isPL = true := by
  rw [List.all_eq_true] at *
  intro t ht
  have := h t ht
  cases t with
  | node k us => cases this
  | pin => cases this
  | io => cases this
  | _ => rfl
/-- a call with a list of one's own ahead -/
theorem call_L {call : Nat → List T → Rs T} {f : Nat} {ds : List PyData} {ts : List T} (h : plainB ts = true) : callT call f (.L ds :: ts) = refP (call f (.imm (.list ds) :: ts)) := by
  have a := plainB_ok h
  have a2 : (T.L ds :: ts).all T.isPL = true := by
    rw [List.all_cons, isPL_plain a, Bool.and_true]
    simp only [T.L, T.isPL, imms_map]
    rfl
  unfold callT
  have e : frL (.L ds :: ts) = some (.imm (.list ds) :: ts) := by simp only [frL, fr_L, frL_plain a]
  have hp : (T.L ds :: ts).all T.plain = false := by
    rw [List.all_cons]
    rfl
  rw [e]
  dsimp only
  rw [hp, a2]
  unfold refP
  generalize call f (.imm (.list ds) :: ts) = r
  cases r <;> simp
theorem ix_list {ds : List PyData} {j : Nat} {d : PyData} (h : ds[j]? = some d) : idxT (.imm (.list ds)) (.int (j : Int)) = some (.imm d) := by
  have hj : j < ds.length := (List.getElem?_eq_some_iff.mp h).1
  have e : ixD ds.length (j : Int) = some j := by rw [ixD_in (by omega) (by omega)]; rfl
  simp only [idxT, dget, T.dkv, T.dtv, T.kids, e, h]
theorem forB_nil {call : Nat → List T → Rs T} {fl i : Nat} {body : List S} {ρ : Env} : forB call fl i body [] ρ = .nx ρ := rfl
theorem forB_cons {call : Nat → List T → Rs T} {fl i : Nat} {body : List S} {d : PyData} {ds : List PyData} {ρ : Env} : forB call fl i body (d :: ds) ρ = (evSs call fl body (ρ.set i (some (.imm d)))).seq (forB call fl i body ds) := by
  unfold forB
  rw [forGo_cons]
  unfold O.seq
  cases evSs call fl body (ρ.set i (some (.imm d))) <;> rfl
theorem forC_nil {call : Nat → List T → Rs T} {fl : Nat} {is : List Nat} {body : List S} {ρ : Env} : forC call fl is body [] ρ = .nx ρ := rfl
theorem forC_cons {call : Nat → List T → Rs T} {fl : Nat} {is : List Nat} {body : List S} {d : PyData} {ds : List PyData} {ρ : Env} : forC call fl is body (d :: ds) ρ = ((upkR (upkT is (.imm d) ρ)).seq (evSs call fl body)).seq (forC call fl is body ds) := by
  unfold forC
  rw [forGo_cons]
  unfold O.seq
  generalize upkR (upkT is (.imm d) ρ) = o
  cases o with
  | nx ρ' =>
    try dsimp only
    all_goals cases evSs call fl body ρ' <;> rfl
  | _ => rfl
def srcO (ts : List T) (o : Option (List PyData)) : Rs (T × List PyData) := match o with | some ds => .ok (.node .lst ts, ds) | none => .no
theorem src_lst {ts : List T} : srcS (.node .lst ts) = srcO ts (imms ts) := by
  simp only [srcS, srcT, T.kids, srcO]
  all_goals cases imms ts <;> rfl
theorem srcO_some {ts : List T} {ds : List PyData} : srcO ts (some ds) = .ok (.node .lst ts, ds) := rfl
/-! ### refusals -/
theorem s_rse {call : Nat → List T → Rs T} {fl : Nat} {c : Str} {ρ : Env} : evS call fl (.rse c) ρ = .ex c ρ := by simp only [evS]
noncomputable def tryO (fl : Nat) (nm : Option Nat) (suites : List (List S)) (tbls : List (List (Str × Bool))) (o : O) : O := match o with | .ex c ρ' => evHs fl nm c suites tbls ρ' | o => o
theorem s_try {call : Nat → List T → Rs T} {fl : Nat} {nm : Option Nat} {body : List S} {tbls : List (List (Str × Bool))} {suites : List (List S)} {ρ : Env} : evS call fl (.tryE nm body tbls suites) ρ = tryO fl nm suites tbls (evSs call fl body ρ) := by
  simp only [evS, tryO]
  all_goals cases evSs call fl body ρ <;> rfl
section
variable {fl : Nat} {nm : Option Nat} {suites : List (List S)} {tbls : List (List (Str × Bool))} {ρ : Env}
theorem try_nx : tryO fl nm suites tbls (.nx ρ) = .nx ρ := rfl
theorem try_rt {t : T} : tryO fl nm suites tbls (.rt t) = .rt t := rfl
theorem try_ex {c : Str} : tryO fl nm suites tbls (.ex c ρ) = evHs fl nm c suites tbls ρ := rfl
theorem h_yes {c : Str} {s : List S} {t : List (Str × Bool)} (h : look t c = some true) : evHs fl nm c (s :: suites) (t :: tbls) ρ = allA fun a => endO nm (evSs (heldC a c) fl s (setN nm (some (.exc a c)) ρ)) := by
  simp only [evHs, h]
theorem h_no {c : Str} {s : List S} {t : List (Str × Bool)} (h : look t c = some false) : evHs fl nm c (s :: suites) (t :: tbls) ρ = evHs fl nm c suites tbls ρ := by
  simp only [evHs, h]
theorem h_nil {c : Str} : evHs fl nm c [] [] ρ = .ex c ρ := by simp only [evHs]
theorem allA_const {o : O} : allA (fun _ => o) = o := by simp [allA]
theorem setN_none {t : Option T} : setN none t ρ = ρ := rfl
theorem setN_some {i : Nat} {t : Option T} : setN (some i) t ρ = ρ.set i t := rfl
theorem end_nx : endO nm (.nx ρ) = .nx (setN nm none ρ) := rfl
theorem end_rt {t : T} : endO nm (.rt t) = .rt t := rfl
end
def lookB (o : Option Bool) : Rs T := match o with | some b => .ok (.imm (.bool b)) | none => .no
theorem lookB_some {b : Bool} : lookB (some b) = .ok (.imm (.bool b)) := rfl
def eisR (call : Nat → List T → Rs T) (tbl : List (Str × Bool)) (o : Option (Option T)) : Rs T := match o with
  | some (some (.exc a c)) => match call HX [.exc a c] with
    | .ok _ => lookB (look tbl c)
    | _ => .no
  | _ => .no
theorem x_eis {call : Nat → List T → Rs T} {pk : Bool} {i : Nat} {tbl : List (Str × Bool)} {ρ : Env} : evX call pk (.eis i tbl) ρ = eisR call tbl ρ[i]? := by
  simp only [evX, eisR]
  rfl
theorem eis_held {a : Nat} {c : Str} {tbl : List (Str × Bool)} : eisR (heldC a c) tbl (some (some (.exc a c))) = lookB (look tbl c) := by
  simp [eisR, heldC]
/-! ### products -/
theorem r_mul_str {x : Str} {k : Int} (h1 : k.natAbs ≤ 1000000) (h2 : x.length * k.toNat ≤ 10000000) : binR .Mult (.imm (.str x)) (.imm (.int k)) = .ok (.imm (.str ⟨(List.replicate k.toNat x.cps.toList).flatten.toArray⟩)) := by
  simp only [binR, binT, seqMul, h1, h2, and_self, if_true]
  rfl
/-! ### loops, the goal first -/
theorem forB_run {call : Nat → List T → Rs T} {fl i : Nat} {body : List S} {ds : List PyData} {ρ : Env} (R : O → Prop) (P : Nat → Env → Prop) (h0 : P 0 ρ)
    (st : ∀ k d ρ, ds[k]? = some d → P k ρ → ∃ ρ', evSs call fl body (ρ.set i (some (.imm d))) = .nx ρ' ∧ P (k + 1) ρ') (fin : ∀ ρ', P ds.length ρ' → R (.nx ρ')) : R (forB call fl i body ds ρ) := by
  obtain ⟨ρ', a, b⟩ := forB_inv P h0 st
  rw [a]; exact fin ρ' b
/-- .. over range(n) -/
theorem forB_rng {call : Nat → List T → Rs T} {fl i : Nat} {body : List S} {n : Nat} {ρ : Env} (R : O → Prop) (P : Nat → Env → Prop) (h0 : P 0 ρ)
    (st : ∀ k ρ, k < n → P k ρ → ∃ ρ', evSs call fl body (ρ.set i (some (.imm (.int (k : Int))))) = .nx ρ' ∧ P (k + 1) ρ') (fin : ∀ ρ', P n ρ' → R (.nx ρ')) : R (forB call fl i body ((List.range n).map fun (k : Nat) => PyData.int (k : Int)) ρ) := by
  refine forB_run R P h0 (fun k d ρ hd hp => ?_) fun ρ' h => fin ρ' (by simpa using h)
  obtain ⟨hk, rfl⟩ := rng_get hd
  exact st k ρ hk hp
/-- .. over what is written by a map; the invariant speaks of what is taken -/
theorem forB_map {α : Type} {call : Nat → List T → Rs T} {fl i : Nat} {body : List S} {f : α → PyData} {as : List α} {ρ : Env} (R : O → Prop) (P : List α → Env → Prop) (h0 : P [] ρ)
    (st : ∀ pre a post ρ, as = pre ++ a :: post → P pre ρ → ∃ ρ', evSs call fl body (ρ.set i (some (.imm (f a)))) = .nx ρ' ∧ P (pre ++ [a]) ρ') (fin : ∀ ρ', P as ρ' → R (.nx ρ')) : R (forB call fl i body (as.map f) ρ) := by
  refine forB_run R (fun k ρ => P (as.take k) ρ) (by simpa using h0) (fun k d ρ hd hp => ?_) fun ρ' h => fin ρ' (by simpa using h)
  rw [List.getElem?_map] at hd
  cases e : as[k]? with
  | none => rw [e] at hd; cases hd
  | some a =>
    rw [e] at hd
    cases hd
    have hk := (List.getElem?_eq_some_iff.mp e).1
    obtain ⟨ρ', h1, h2⟩ := st (as.take k) a (as.drop (k + 1)) ρ (by
      have e2 := (List.getElem?_eq_some_iff.mp e).2
      rw [← e2, List.getElem_cons_drop, List.take_append_drop]) hp
    refine ⟨ρ', h1, ?_⟩
    rwa [List.take_succ, e]
/-- a loop that may end early: at the first item that p refuses it ends as o -/
theorem forB_ret {α : Type} {call : Nat → List T → Rs T} {fl i : Nat} {body : List S} {f : α → PyData} {as : List α} {ρ : Env} (R : O → Prop) (p : α → Bool) (o : O) (ho : ∀ ρ', o ≠ .nx ρ') (P : Env → Prop) (h0 : P ρ)
    (st : ∀ a ρ, a ∈ as → P ρ → (p a = true ∧ ∃ ρ', evSs call fl body (ρ.set i (some (.imm (f a)))) = .nx ρ' ∧ P ρ') ∨ (p a = false ∧ evSs call fl body (ρ.set i (some (.imm (f a)))) = o)) (fin : as.all p = true → ∀ ρ', P ρ' → R (.nx ρ')) (bad : as.all p = false → R o) : R (forB call fl i body (as.map f) ρ) := by
  induction as generalizing ρ with
  | nil => exact fin rfl ρ h0
  | cons a as ih =>
    rw [List.map_cons, forB_cons]
    rcases st a ρ List.mem_cons_self h0 with ⟨h1, ρ', h2, h3⟩ | ⟨h1, h2⟩
    · rw [h2, seq_nx]
      exact ih h3 (fun b ρ hb => st b ρ (List.mem_cons_of_mem _ hb)) (fun hp => fin (by rw [List.all_cons, h1, hp]; rfl)) fun hp => bad (by rw [List.all_cons, h1, hp]; rfl)
    · rw [h2]
      have : o.seq (forB call fl i body (as.map f)) = o := by
        cases o with
        | nx ρ' => exact absurd rfl (ho ρ')
        | _ => rfl
      rw [this]
      exact bad (by rw [List.all_cons, h1]; rfl)
/-- .. over range(n) -/
theorem forB_retR {call : Nat → List T → Rs T} {fl i : Nat} {body : List S} {n : Nat} {ρ : Env} (R : O → Prop) (p : Nat → Bool) (o : O) (ho : ∀ ρ', o ≠ .nx ρ') (P : Env → Prop) (h0 : P ρ)
    (st : ∀ k ρ, k < n → P ρ → (p k = true ∧ ∃ ρ', evSs call fl body (ρ.set i (some (.imm (.int (k : Int))))) = .nx ρ' ∧ P ρ') ∨ (p k = false ∧ evSs call fl body (ρ.set i (some (.imm (.int (k : Int))))) = o)) (fin : (∀ k, k < n → p k = true) → ∀ ρ', P ρ' → R (.nx ρ')) (bad : (∃ k, k < n ∧ p k = false) → R o) :
    R (forB call fl i body ((List.range n).map fun (k : Nat) => PyData.int (k : Int)) ρ) := by
  refine forB_ret R p o ho P h0 (fun a ρ ha hp => st a ρ (List.mem_range.mp ha) hp) (fun h => fin fun k hk => List.all_eq_true.mp h k (List.mem_range.mpr hk)) fun h => ?_
  rw [List.all_eq_false] at h
  obtain ⟨k, hk, h⟩ := h
  exact bad ⟨k, List.mem_range.mp hk, by simpa using h⟩
/-- every item is looked at and nothing is kept -/
theorem forB_each {α : Type} {call : Nat → List T → Rs T} {fl i : Nat} {body : List S} {f : α → PyData} {as : List α} {ρ : Env} (R : O → Prop) (P : Env → Prop) (h0 : P ρ)
    (st : ∀ a ρ, a ∈ as → P ρ → ∃ ρ', evSs call fl body (ρ.set i (some (.imm (f a)))) = .nx ρ' ∧ P ρ') (fin : ∀ ρ', P ρ' → R (.nx ρ')) : R (forB call fl i body (as.map f) ρ) := by
  refine forB_map R (fun _ ρ => P ρ) h0 (fun pre a post ρ e hp => st a ρ (by rw [e]; simp) hp) fin
/-! ### a test that only sets slots -/
def ifE (b : Bool) (l l' : Env) : Env := if b then l else l'
def ifO (b : Bool) (x y : Option T) : Option T := if b then x else y
def ifI (b : Bool) (i j : Int) : Int := if b then i else j
theorem iff_nx {b : Bool} {l l' : Env} : iffR b (.nx l) (.nx l') = .nx (ifE b l l') := by cases b <;> rfl
theorem ifE_nil {b : Bool} : ifE b [] [] = [] := by cases b <;> rfl
theorem ifE_cons {b : Bool} {x y : Option T} {l l' : Env} : ifE b (x :: l) (y :: l') = ifO b x y :: ifE b l l' := by cases b <;> rfl
theorem ifO_same {b : Bool} {x : Option T} : ifO b x x = x := by cases b <;> rfl
theorem ifO_int {b : Bool} {i j : Int} : ifO b (some (.imm (.int i))) (some (.imm (.int j))) = some (.imm (.int (ifI b i j))) := by cases b <;> rfl
theorem ifO_t {x y : Option T} : ifO true x y = x := rfl
theorem ifO_f {x y : Option T} : ifO false x y = y := rfl
theorem ifI_t {x y : Int} : ifI true x y = x := rfl
theorem ifI_f {x y : Int} : ifI false x y = y := rfl
theorem ifI_bd {b : Bool} {i j lo hi : Int} (h1 : lo ≤ i ∧ i ≤ hi) (h2 : lo ≤ j ∧ j ≤ hi) : lo ≤ ifI b i j ∧ ifI b i j ≤ hi := by cases b <;> assumption
/-- .. a natural number within a bound -/
theorem ifI_nat {b : Bool} {i j : Int} {hi : Nat} (h1 : 0 ≤ i ∧ i ≤ hi) (h2 : 0 ≤ j ∧ j ≤ hi) : ∃ m : Nat, m ≤ hi ∧ ifI b i j = (m : Int) := by
  have := ifI_bd (b := b) h1 h2
  exact ⟨(ifI b i j).toNat, by omega, by omega⟩
theorem fdL_L {us : List PyData} {ts : List T} : fdatL (.L us :: ts) = (fdatL ts).map (.list us :: ·) := fdL_lst (fdatL_imms (imms_map us))
theorem datL_imms : ∀ ds : List PyData, datL (ds.map .imm) = some ds
  | [] => by simp only [List.map_nil, datL]
  | d :: ds => by simp only [List.map_cons, datL, T.dat, datL_imms ds]
theorem dat_L (ds : List PyData) : (T.L ds).dat = some (.list ds) := by simp only [T.L, T.dat, datL_imms]
theorem c_eq_dat {a b : T} {d e : PyData} (h1 : a.dat = some d) (h2 : b.dat = some e) (h : d.depth ≤ 64) : cmpR .Eq a b = .ok (.imm (.bool (PyData.eqv d e))) := by
  simp only [cmpR, cmpT, cmpEq, h1, h2, h, true_or, if_true]
theorem c_ne_dat {a b : T} {d e : PyData} (h1 : a.dat = some d) (h2 : b.dat = some e) (h : d.depth ≤ 64) : cmpR .NotEq a b = .ok (.imm (.bool (!PyData.eqv d e))) := by
  simp only [cmpR, cmpT, cmpEq, h1, h2, h, true_or, if_true, onot]
theorem plain_strs : ∀ ws : List Str, PyData.plainAll (ws.map .str) = true
  | [] => by simp only [List.map_nil, PyData.plainAll]
  | w :: ws => by simp only [List.map_cons, PyData.plainAll, PyData.plain, plain_strs ws]; rfl
theorem slc_list {ds : List PyData} {lo hi : Option Int} : slcT (.imm (.list ds)) lo hi = some (.L (cutL ds lo hi)) := by simp only [slcT, T.kids]
theorem slc_L {ds : List PyData} {lo hi : Option Int} : slcT (.L ds) lo hi = some (.L (cutL ds lo hi)) := by simp only [slcT, T.L, T.kids, imms_map]
theorem cut_len {α : Type} (xs : List α) (lo hi : Option Int) : (cutL xs lo hi).length ≤ xs.length := by
  unfold cutL
  simp
  omega
theorem cut_mem {α : Type} {xs : List α} {lo hi : Option Int} {x : α} (h : x ∈ cutL xs lo hi) : x ∈ xs := List.mem_of_mem_drop (List.mem_of_mem_take h)
theorem mod_nat (i : Int) (q : Nat) : ∃ c : Nat, c ≤ q ∧ i % ((q : Int) + 1) = (c : Int) := by
  have h1 := Int.emod_nonneg i (show (q : Int) + 1 ≠ 0 by omega)
  have h2 := Int.emod_lt_of_pos i (show 0 < (q : Int) + 1 by omega)
  exact ⟨(i % ((q : Int) + 1)).toNat, by omega, by omega⟩
theorem mod_nat0 (i : Int) {q : Nat} (h : 0 < q) : ∃ c : Nat, c < q ∧ i % (q : Int) = (c : Int) := by
  have h1 := Int.emod_nonneg i (show (q : Int) ≠ 0 by omega)
  have h2 := Int.emod_lt_of_pos i (show 0 < (q : Int) by omega)
  exact ⟨(i % (q : Int)).toNat, by omega, by omega⟩
/-- a test that sets a text or a way -/
def ifG {α : Type} (b : Bool) (x y : α) : α := if b then x else y
theorem ifO_str {b : Bool} {x y : Str} : ifO b (some (.imm (.str x))) (some (.imm (.str y))) = some (.imm (.str (ifG b x y))) := by cases b <;> rfl
theorem ifO_wy {b : Bool} {x y : List Str} : ifO b (some (.imm (Wy x))) (some (.imm (Wy y))) = some (.imm (Wy (ifG b x y))) := by cases b <;> rfl
theorem ifG_t {α : Type} {x y : α} : ifG true x y = x := rfl
theorem ifG_f {α : Type} {x y : α} : ifG false x y = y := rfl
theorem ifG_of {α : Type} {b : Bool} {x y : α} {P : α → Prop} (h1 : P x) (h2 : P y) : P (ifG b x y) := by cases b <;> assumption
/-! ### the marks are unlike -/
theorem sne0 : (Str.ofString "file" = Str.ofString "link") = False := eq_false (by decide +kernel)
theorem sne1 : (Str.ofString "file" = Str.ofString "folder") = False := eq_false (by decide +kernel)
theorem sne2 : (Str.ofString "file" = Str.ofString "gone") = False := eq_false (by decide +kernel)
theorem sne3 : (Str.ofString "file" = Str.ofString "shut") = False := eq_false (by decide +kernel)
theorem sne4 : (Str.ofString "file" = Str.ofString "") = False := eq_false (by decide +kernel)
theorem sne5 : (Str.ofString "link" = Str.ofString "file") = False := eq_false (by decide +kernel)
theorem sne6 : (Str.ofString "link" = Str.ofString "folder") = False := eq_false (by decide +kernel)
theorem sne7 : (Str.ofString "link" = Str.ofString "gone") = False := eq_false (by decide +kernel)
theorem sne8 : (Str.ofString "link" = Str.ofString "shut") = False := eq_false (by decide +kernel)
theorem sne9 : (Str.ofString "link" = Str.ofString "") = False := eq_false (by decide +kernel)
theorem sne10 : (Str.ofString "folder" = Str.ofString "file") = False := eq_false (by decide +kernel)
theorem sne11 : (Str.ofString "folder" = Str.ofString "link") = False := eq_false (by decide +kernel)
theorem sne12 : (Str.ofString "folder" = Str.ofString "gone") = False := eq_false (by decide +kernel)
theorem sne13 : (Str.ofString "folder" = Str.ofString "shut") = False := eq_false (by decide +kernel)
theorem sne14 : (Str.ofString "folder" = Str.ofString "") = False := eq_false (by decide +kernel)
theorem sne15 : (Str.ofString "gone" = Str.ofString "file") = False := eq_false (by decide +kernel)
theorem sne16 : (Str.ofString "gone" = Str.ofString "link") = False := eq_false (by decide +kernel)
theorem sne17 : (Str.ofString "gone" = Str.ofString "folder") = False := eq_false (by decide +kernel)
theorem sne18 : (Str.ofString "gone" = Str.ofString "shut") = False := eq_false (by decide +kernel)
theorem sne19 : (Str.ofString "gone" = Str.ofString "") = False := eq_false (by decide +kernel)
theorem sne20 : (Str.ofString "shut" = Str.ofString "file") = False := eq_false (by decide +kernel)
theorem sne21 : (Str.ofString "shut" = Str.ofString "link") = False := eq_false (by decide +kernel)
theorem sne22 : (Str.ofString "shut" = Str.ofString "folder") = False := eq_false (by decide +kernel)
theorem sne23 : (Str.ofString "shut" = Str.ofString "gone") = False := eq_false (by decide +kernel)
theorem sne24 : (Str.ofString "shut" = Str.ofString "") = False := eq_false (by decide +kernel)
theorem sne25 : (Str.ofString "" = Str.ofString "file") = False := eq_false (by decide +kernel)
theorem sne26 : (Str.ofString "" = Str.ofString "link") = False := eq_false (by decide +kernel)
theorem sne27 : (Str.ofString "" = Str.ofString "folder") = False := eq_false (by decide +kernel)
theorem sne28 : (Str.ofString "" = Str.ofString "gone") = False := eq_false (by decide +kernel)
theorem sne29 : (Str.ofString "" = Str.ofString "shut") = False := eq_false (by decide +kernel)
theorem cast0 : ((0 : Nat) : Int) = 0 := rfl
theorem cast1 : ((1 : Nat) : Int) = 1 := rfl
theorem cast2 : ((2 : Nat) : Int) = 2 := rfl
theorem cast3 : ((3 : Nat) : Int) = 3 := rfl
/-! ### what is handed over -/
section
variable {call : Nat → List T → Rs T} {fl i j a f : Nat} {ρ : Env} {e : E} {es : List E} {k : Kind} {ts : List T} {t : T} {ds ds' : List PyData} {s : S} {tg : Tg} {xs : List T}
def retPR (t : T) (o : Option (Option T)) : O := match o with | some (some (.pin a k ts)) => (if t.isV then .rt (.io t (.pin a k ts)) else .no) | _ => .no
theorem s_retP : evS call fl (.retP e j) ρ = O.of (evX call false e ρ) ρ fun t => retPR t ρ[j]? := by simp only [evS] <;> rfl
theorem isV_imm {d : PyData} : (T.imm d).isV = true := id rfl
theorem isV_nd : (T.node k ts).isV = true := id rfl
theorem isV_L : (T.L ds).isV = true := id rfl
theorem retP_PL (h : t.isV = true) : retPR t (some (some (PL a ds))) = .rt (.io t (PL a ds)) := by
  unfold retPR PL
  simp only [h, if_true]
def pnE (i a : Nat) (ρ : Env) (o : Option (Option T)) : O := match o with | some (some (.node k ts)) => .nx (ρ.set i (some (.pin a k ts))) | _ => .no
def pnO (i a : Nat) (o : O) : O := match o with | .nx ρ => pnE i a ρ ρ[i]? | .ex c ρ => .ex c (ρ.set i none) | _ => .no
noncomputable def pnR (call : Nat → List T → Rs T) (fl i : Nat) (s : S) (ρ : Env) (o : Option (Option T)) : O := match o with | some (some (.pin a k ts)) => pnO i a (evS call fl s (ρ.set i (some (.node k ts)))) | _ => .no
theorem s_pn : evS call fl (.pn i s) ρ = pnR call fl i s ρ ρ[i]? := by
  simp only [evS, pnR]
  all_goals cases ρ[i]? with
  | none => rfl
  | some o =>
    cases o with
    | none => rfl
    | some t =>
      cases t with
      | pin a k ts =>
        dsimp only
        unfold pnO
        cases evS call fl s (ρ.set i (some (.node k ts))) with
        | nx ρ' =>
          dsimp only
          unfold pnE
          cases ρ'[i]? with
          | none => rfl
          | some o =>
            cases o with
            | none => rfl
            | some t => cases t <;> rfl
        | _ => rfl
      | _ => rfl
theorem pn_PL : pnR call fl i s ρ (some (some (PL a ds))) = pnO i a (evS call fl s (ρ.set i (some (T.L ds)))) := rfl
theorem pnO_nx : pnO i a (.nx ρ) = pnE i a ρ ρ[i]? := rfl
theorem pnE_L : pnE i a ρ (some (some (T.L ds))) = .nx (ρ.set i (some (PL a ds))) := rfl
def ioP (tg : Tg) (i a : Nat) (ρ : Env) (r : Rs T) : O := ioO tg ρ i (fun k ts => .pin a k ts) a r
def ioL (tg : Tg) (i a : Nat) (ρ : Env) (r : Rs T) : O := ioO tg ρ i .node a r
noncomputable def cioR (call : Nat → List T → Rs T) (tg : Tg) (f j i : Nat) (xs : List T) (ρ : Env) (o : Option (Option T)) : O := match o with
  | some (some (.pin a k ts)) => ioP tg i a ρ (callIO call f xs j (.pin a k ts))
  | some (some (.node k ts)) => allA fun a => ioL tg i a ρ (callIO call f xs j (.pin a k ts))
  | _ => .no
theorem s_cio : evS call fl (.cio tg f es j i) ρ = O.of (evAs call es ρ) ρ fun xs => cioR call tg f j i xs ρ ρ[i]? := by
  simp only [evS, cioR]
  all_goals first
    | rfl
    | (congr 1; funext xs; cases ρ[i]? with
       | none => rfl
       | some o =>
         cases o with
         | none => rfl
         | some t => cases t <;> rfl)
theorem cio_PL : cioR call tg f j i xs ρ (some (some (PL a ds))) = ioP tg i a ρ (callIO call f xs j (PL a ds)) := rfl
theorem cio_L : cioR call tg f j i xs ρ (some (some (T.L ds))) = allA fun a => ioL tg i a ρ (callIO call f xs j (PL a ds)) := rfl
theorem cIO_ok {p : T} (h : plainB (xs.set j (.imm .none)) = true) : callIO call f xs j p = call f (xs.set j p) := by
  unfold callIO
  rw [if_pos (plainB_ok h)]
theorem ioP_ok : ioP tg i a ρ (.ok (.io t (PL a ds))) = tgO tg t (ρ.set i (some (PL a ds))) := by
  show (if a = a then tgO tg t (ρ.set i (some (PL a ds))) else .no) = _
  rw [if_pos rfl]
theorem ioL_ok : ioL tg i a ρ (.ok (.io t (PL a ds))) = tgO tg t (ρ.set i (some (T.L ds))) := by
  show (if a = a then tgO tg t (ρ.set i (some (T.L ds))) else .no) = _
  rw [if_pos rfl]
theorem ioP_ex {c : Str} : ioP tg i a ρ (.ex c) = .ex c (ρ.set i none) := rfl
theorem ioL_ex {c : Str} : ioL tg i a ρ (.ex c) = .ex c (ρ.set i none) := rfl
theorem tg_non : tgO .non t ρ = .nx ρ := rfl
theorem tg_one {x : Nat} : tgO (.one x) t ρ = .nx (ρ.set x (some t)) := rfl
theorem tg_many {is : List Nat} : tgO (.many is) t ρ = upkR (upkT is t ρ) := by
  show (match upkT is t ρ with | some ρ' => O.nx ρ' | none => O.no) = _
  unfold upkR
  all_goals cases upkT is t ρ <;> rfl
end
/-! the rules by one name -/
def eVs0 := And.intro @seq_nx (And.intro @seq_rt (And.intro @seq_ex (And.intro @evSs_nil (And.intro @evSs_cons (And.intro @out_nx (And.intro @out_rt (And.intro @out_ex (And.intro @bind_ok (And.intro @bind_ex (And.intro @of_some (And.intro @x_var (And.intro @var_nd (And.intro @var_L (And.intro @var_PL (And.intro @vl_imm (And.intro @vl_nd (And.intro @vl_L (And.intro @vl_fK (And.intro @vl_fT (And.intro @vl_ex (And.intro @s_retP (And.intro @isV_imm (And.intro @isV_nd (And.intro @isV_L (And.intro @retP_PL (And.intro @s_pn (And.intro @pn_PL (And.intro @pnO_nx (And.intro @pnE_L (And.intro @s_cio (And.intro @cio_PL (And.intro @cio_L (And.intro @cIO_ok (And.intro @ioP_ok (And.intro @ioL_ok (And.intro @ioP_ex (And.intro @ioL_ex (And.intro @tg_non (@tg_one)))))))))))))))))))))))))))))))))))))))
def eVs1 := And.intro @tg_many (And.intro @var_imm (And.intro @var_scr (And.intro @var_fK (And.intro @var_fT (And.intro @x_int (And.intro @x_str (And.intro @x_bl (And.intro @x_non (And.intro @x_gint (And.intro @x_gstr (And.intro @x_bin (And.intro @x_not (And.intro @not_bl (And.intro @x_neg (And.intro @neg_int (And.intro @x_cmp (And.intro @x_chn (And.intro @x_idx (And.intro @idx_imm (And.intro @x_slc (And.intro @x_sls (And.intro @o_none (And.intro @o_some (And.intro @opt_int (And.intro @xs_nil (And.intro @xs_cons (And.intro @x_tup (And.intro @x_lst (And.intro @frzE_eq (And.intro @getT_some (And.intro @x_dnK (And.intro @x_dnT (And.intro @x_call (And.intro @as_nil (And.intro @as_cons (And.intro @arg_t (And.intro @arg_f (And.intro @frz_imm (@frz_scr)))))))))))))))))))))))))))))))))))))))
def eVs2 := And.intro @frz_L (And.intro @x_bi (And.intro @bi_len (And.intro @len_some (And.intro @len_lst (And.intro @len_tup (And.intro @len_list (And.intro @len_scr (And.intro @len_L (And.intro @bi_list (And.intro @list_some (And.intro @listO_tup (And.intro @listO_list (And.intro @listO_scr (And.intro @listO_L (And.intro @listO_fK (And.intro @listO_fT (And.intro @listO_wy (And.intro @bi_tuple (And.intro @kid_some (And.intro @kids_L (And.intro @kids_tup (And.intro @kids_list (And.intro @bi_max (And.intro @bi_min (And.intro @x_isi (And.intro @isi_bl (And.intro @isi_str (And.intro @isi_tup (And.intro @isi_list (And.intro @isi_L (And.intro @isi_int (And.intro @x_mth (And.intro @mth_str (And.intro @isi_wy (And.intro @len_wy (And.intro @kids_wy (And.intro @src_wy (And.intro @slc_wy (@c_eq_wy)))))))))))))))))))))))))))))))))))))))
def eVs3 := And.intro @c_ne_wy (And.intro @cut_neg1 (And.intro @cut_to (And.intro @cut_from (And.intro @step_none (And.intro @step_some (And.intro @imm_L (And.intro @s_lm0 (And.intro @s_lm1 (And.intro @s_ins (And.intro @lmG_L (And.intro @lmS_some (And.intro @lm_rev (And.intro @lm_clr (And.intro @if_tt (And.intro @if_ff (And.intro @imm_ok (And.intro @x_lc (And.intro @x_lcR (And.intro @call_L (And.intro @ref_int (And.intro @ref_str (And.intro @ref_bl (And.intro @ref_non (And.intro @refP_int (And.intro @refP_str (And.intro @refP_bl (And.intro @refP_non (And.intro @x_bop (And.intro @b_one (And.intro @b_cons (And.intro @bop_bl (And.intro @t_ev (And.intro @tru_bl (And.intro @s_asg (And.intro @s_upk (And.intro @upk_some (And.intro @upkT_tup (And.intro @upkGo_nil (@upkGo_cons)))))))))))))))))))))))))))))))))))))))
def eVs4 := And.intro @set_some (And.intro @s_app (And.intro @app_lst (And.intro @app_L (And.intro @s_put (And.intro @put_t (And.intro @s_ret (And.intro @ret_var (And.intro @move_t (And.intro @ret_e (And.intro @s_iff (And.intro @iff_t (And.intro @iff_f (And.intro @iff_nx (And.intro @ifE_nil (And.intro @ifE_cons (And.intro @ifO_same (And.intro @ifO_int (And.intro @ifO_t (And.intro @ifO_f (And.intro @sne0 (And.intro @sne1 (And.intro @sne2 (And.intro @sne3 (And.intro @sne4 (And.intro @sne5 (And.intro @sne6 (And.intro @sne7 (And.intro @sne8 (And.intro @sne9 (And.intro @sne10 (And.intro @sne11 (And.intro @sne12 (And.intro @sne13 (And.intro @sne14 (And.intro @sne15 (And.intro @sne16 (And.intro @sne17 (And.intro @sne18 (@sne19)))))))))))))))))))))))))))))))))))))))
def eVs5 := And.intro @sne20 (And.intro @sne21 (And.intro @sne22 (And.intro @sne23 (And.intro @sne24 (And.intro @sne25 (And.intro @sne26 (And.intro @sne27 (And.intro @sne28 (And.intro @sne29 (And.intro @cast0 (And.intro @cast1 (And.intro @cast2 (And.intro @cast3 (And.intro @ifI_t (And.intro @ifI_f (And.intro @ifO_str (And.intro @ifO_wy (And.intro @ifG_t (And.intro @ifG_f (And.intro @s_fr (And.intro @s_frT (And.intro @s_frR (And.intro @src_e (And.intro @src_str (And.intro @src_tup (And.intro @src_list (And.intro @src_L (And.intro @src_lst (And.intro @srcO_some (And.intro @forC_nil (And.intro @forC_cons (And.intro @src_scr (And.intro @rng_n (And.intro @rng_s (And.intro @rngS_int (And.intro @rngO_some (And.intro @s_fz (And.intro @fz_t (@mk_eq)))))))))))))))))))))))))))))))))))))))
def eVs6 := And.intro @mkO_some (And.intro @imms_nil (And.intro @imms_cons (And.intro @om_some (And.intro @fr_imm (And.intro @fr_scr (And.intro @fr_L (And.intro @fr_lst (And.intro @fdL_nil (And.intro @fdL_imm (And.intro @fdL_L (And.intro @frO_some (And.intro @slc_list (And.intro @slc_L (And.intro @cut_map (And.intro @s_exp (And.intro @s_rse (And.intro @s_try (And.intro @try_nx (And.intro @try_rt (And.intro @try_ex (And.intro @setN_none (And.intro @setN_some (And.intro @end_nx (And.intro @end_rt (And.intro @x_eis (And.intro @eis_held (And.intro @lookB_some (And.intro @allA_const (And.intro @h_nil (And.intro @pB_exc (And.intro @r_add_int (And.intro @r_sub_int (And.intro @r_mod_int (And.intro @r_div_int (And.intro @r_mul_l (And.intro @r_mul_r (And.intro @c_eq_int (And.intro @c_ne_int (@c_eq_str)))))))))))))))))))))))))))))))))))))))
def eVs7 := And.intro @c_ne_str (And.intro @c_eq_bl (And.intro @c_ne_bl (And.intro @c_lt_int (And.intro @c_gt_int (And.intro @c_le_int (And.intro @c_ge_int (And.intro @c_lt_str (And.intro @c_is_bl (And.intro @c_in_sign (And.intro @c_notIn_sign (And.intro @call_plain (And.intro @pB_nil (And.intro @pB_imm (And.intro @pB_fK (And.intro @pB_fT (@pB_scr))))))))))))))))
end Gl

set_option Elab.async false
set_option linter.all false
set_option maxRecDepth 100000
set_option maxHeartbeats 4000000
/-! GlT: defs that many laws share. -/
namespace Gl
open PySem L2
theorem len_mk {gs : List Nat} : (⟨gs.toArray⟩ : Str).length = gs.length := by simp [Str.length]
theorem str_app {gs hs : List Nat} : (⟨gs.toArray⟩ : Str) ++ (⟨hs.toArray⟩ : Str) = ⟨(gs ++ hs).toArray⟩ := TL.ext_tl (by rw [TL.tl_append, TL.tl_mk, TL.tl_mk, TL.tl_mk])
theorem str_app1 {gs : List Nat} {g : Nat} : (⟨gs.toArray⟩ : Str) ++ (⟨#[g]⟩ : Str) = ⟨(gs ++ [g]).toArray⟩ := str_app (hs := [g])
theorem str_nil : Str.ofString "" = (⟨([] : List Nat).toArray⟩ : Str) := by decide +kernel
theorem str_eta {x : Str} : (⟨x.cps.toList.toArray⟩ : Str) = x := by
  obtain ⟨c⟩ := x
  simp
/-- a + b of texts by their signs -/
theorem add_mk {gs hs : List Nat} (h : gs.length + hs.length ≤ 16777216) : binR .Add (.imm (.str ⟨gs.toArray⟩)) (.imm (.str ⟨hs.toArray⟩)) = .ok (.imm (.str ⟨(gs ++ hs).toArray⟩)) := by
  have := r_add_str (x := ⟨gs.toArray⟩) (y := ⟨hs.toArray⟩) (small_n (by rw [len_mk, len_mk]; exact h))
  rw [str_app] at this
  exact this
theorem add_mk1 {gs : List Nat} {g : Nat} (h : gs.length < 16777216) : binR .Add (.imm (.str ⟨gs.toArray⟩)) (.imm (.str ⟨#[g]⟩)) = .ok (.imm (.str ⟨(gs ++ [g]).toArray⟩)) := add_mk (hs := [g]) h
/-! ### the script's cells -/
def tCell : Df := ⟨"_law_cell_at", 2, ["_law_script", "_law_k"], [.iff (.cmp .Lt (.var 1) (.bi .len [(.var 0)])) [.ret (.idx (.var 0) (.var 1))] [], .ret (.cst (.int 0))]⟩
section
variable {ds : List Df} {fl n f : Nat}
theorem t_cell (hf : ds[f]? = some tCell) (ns : List Int) (k : Int) (h : 0 ≤ k) : evF ds fl (n + 1) f [.scr ns, .imm (.int k)] = .ok (.imm (.int (ns.getD k.toNat 0))) := by
  obtain ⟨k, rfl⟩ := Int.eq_ofNat_of_zero_le h
  rw [evF_succ hf]
  simp only [tCell]
  simp only [eVs0, eVs1, eVs2, eVs3, eVs4, eVs5, eVs6, eVs7, O.of_ok, O.of_ex, isVar, initE, List.length_map, List.map_cons, List.map_nil, List.length_cons, List.length_nil, List.replicate_succ, List.replicate_zero, List.cons_append, List.nil_append, List.getElem?_cons_zero, List.getElem?_cons_succ, List.set_cons_zero, List.set_cons_succ, Bool.or_true, Bool.true_or, Bool.or_false, Bool.false_or, Bool.and_true, Bool.true_and, Bool.not_true, Bool.not_false, Bool.not_not, if_true, if_false, decide_true, decide_false, Bool.false_eq_true, Bool.true_eq_false, reduceIte, reduceCtorEq, Nat.reduceSub, Nat.reduceAdd, Int.reduceLT, Int.reduceEq, Int.reduceNeg, Int.reduceLE, Int.reducePow, Nat.reduceAdd, eq_self, and_self, and_true, true_and, not_true, not_false_eq_true]
  by_cases h : k < ns.length
  · have e : ns[k]? = some (ns.getD k 0) := by simp [h]
    have h' : (k : Int) < (ns.length : Int) := by omega
    simp only [eVs0, eVs1, eVs2, eVs3, eVs4, eVs5, eVs6, eVs7, O.of_ok, O.of_ex, isVar, initE, List.length_map, List.map_cons, List.map_nil, List.length_cons, List.length_nil, List.replicate_succ, List.replicate_zero, List.cons_append, List.nil_append, List.getElem?_cons_zero, List.getElem?_cons_succ, List.set_cons_zero, List.set_cons_succ, Bool.or_true, Bool.true_or, Bool.or_false, Bool.false_or, Bool.and_true, Bool.true_and, Bool.not_true, Bool.not_false, Bool.not_not, if_true, if_false, decide_true, decide_false, Bool.false_eq_true, Bool.true_eq_false, reduceIte, reduceCtorEq, Nat.reduceSub, Nat.reduceAdd, Int.reduceLT, Int.reduceEq, Int.reduceNeg, Int.reduceLE, Int.reducePow, Nat.reduceAdd, eq_self, and_self, and_true, true_and, not_true, not_false_eq_true, h', ix_scr e]
    simp
  · have h' : ¬ (k : Int) < (ns.length : Int) := by omega
    simp only [eVs0, eVs1, eVs2, eVs3, eVs4, eVs5, eVs6, eVs7, O.of_ok, O.of_ex, isVar, initE, List.length_map, List.map_cons, List.map_nil, List.length_cons, List.length_nil, List.replicate_succ, List.replicate_zero, List.cons_append, List.nil_append, List.getElem?_cons_zero, List.getElem?_cons_succ, List.set_cons_zero, List.set_cons_succ, Bool.or_true, Bool.true_or, Bool.or_false, Bool.false_or, Bool.and_true, Bool.true_and, Bool.not_true, Bool.not_false, Bool.not_not, if_true, if_false, decide_true, decide_false, Bool.false_eq_true, Bool.true_eq_false, reduceIte, reduceCtorEq, Nat.reduceSub, Nat.reduceAdd, Int.reduceLT, Int.reduceEq, Int.reduceNeg, Int.reduceLE, Int.reducePow, Nat.reduceAdd, eq_self, and_self, and_true, true_and, not_true, not_false_eq_true, h']
    simp [h]
/-! ### ways -/
def tAbove : Df := ⟨"above", 1, ["way"], [.ret (.slc (.var 0) none (some (.neg (.cst (.int 1)))))]⟩
theorem t_above (hf : ds[f]? = some tAbove) (ws : List Str) : evF ds fl (n + 1) f [.imm (Wy ws)] = .ok (.imm (Wy ws.dropLast)) := by
  rw [evF_succ hf]
  simp only [tAbove]
  simp only [eVs0, eVs1, eVs2, eVs3, eVs4, eVs5, eVs6, eVs7, O.of_ok, O.of_ex, isVar, initE, List.length_map, List.map_cons, List.map_nil, List.length_cons, List.length_nil, List.replicate_succ, List.replicate_zero, List.cons_append, List.nil_append, List.getElem?_cons_zero, List.getElem?_cons_succ, List.set_cons_zero, List.set_cons_succ, Bool.or_true, Bool.true_or, Bool.or_false, Bool.false_or, Bool.and_true, Bool.true_and, Bool.not_true, Bool.not_false, Bool.not_not, if_true, if_false, decide_true, decide_false, Bool.false_eq_true, Bool.true_eq_false, reduceIte, reduceCtorEq, Nat.reduceSub, Nat.reduceAdd, Int.reduceLT, Int.reduceEq, Int.reduceNeg, Int.reduceLE, Int.reducePow, Nat.reduceAdd, eq_self, and_self, and_true, true_and, not_true, not_false_eq_true, slc_wy, cut_neg1]
def tUnder : Df := ⟨"lies_under", 2, ["way", "other"], [.ret (.bop true [(.cmp .Gt (.bi .len [(.var 0)]) (.bi .len [(.var 1)])), (.cmp .Eq (.slc (.var 0) none (some (.bi .len [(.var 1)]))) (.var 1))])]⟩
theorem t_under (hf : ds[f]? = some tUnder) (a b : List Str) : evF ds fl (n + 1) f [.imm (Wy a), .imm (Wy b)] = .ok (.imm (.bool (decide (b.length < a.length ∧ a.take b.length = b)))) := by
  rw [evF_succ hf]
  simp only [tUnder]
  simp only [eVs0, eVs1, eVs2, eVs3, eVs4, eVs5, eVs6, eVs7, O.of_ok, O.of_ex, isVar, initE, List.length_map, List.map_cons, List.map_nil, List.length_cons, List.length_nil, List.replicate_succ, List.replicate_zero, List.cons_append, List.nil_append, List.getElem?_cons_zero, List.getElem?_cons_succ, List.set_cons_zero, List.set_cons_succ, Bool.or_true, Bool.true_or, Bool.or_false, Bool.false_or, Bool.and_true, Bool.true_and, Bool.not_true, Bool.not_false, Bool.not_not, if_true, if_false, decide_true, decide_false, Bool.false_eq_true, Bool.true_eq_false, reduceIte, reduceCtorEq, Nat.reduceSub, Nat.reduceAdd, Int.reduceLT, Int.reduceEq, Int.reduceNeg, Int.reduceLE, Int.reducePow, Nat.reduceAdd, eq_self, and_self, and_true, true_and, not_true, not_false_eq_true, len_wy, slc_wy, cut_to, c_eq_wy]
  by_cases h : (b.length : Int) < a.length
  · simp only [eVs0, eVs1, eVs2, eVs3, eVs4, eVs5, eVs6, eVs7, O.of_ok, O.of_ex, isVar, initE, List.length_map, List.map_cons, List.map_nil, List.length_cons, List.length_nil, List.replicate_succ, List.replicate_zero, List.cons_append, List.nil_append, List.getElem?_cons_zero, List.getElem?_cons_succ, List.set_cons_zero, List.set_cons_succ, Bool.or_true, Bool.true_or, Bool.or_false, Bool.false_or, Bool.and_true, Bool.true_and, Bool.not_true, Bool.not_false, Bool.not_not, if_true, if_false, decide_true, decide_false, Bool.false_eq_true, Bool.true_eq_false, reduceIte, reduceCtorEq, Nat.reduceSub, Nat.reduceAdd, Int.reduceLT, Int.reduceEq, Int.reduceNeg, Int.reduceLE, Int.reducePow, Nat.reduceAdd, eq_self, and_self, and_true, true_and, not_true, not_false_eq_true, h]
    have : b.length < a.length := by omega
    simp [this]
  · simp only [eVs0, eVs1, eVs2, eVs3, eVs4, eVs5, eVs6, eVs7, O.of_ok, O.of_ex, isVar, initE, List.length_map, List.map_cons, List.map_nil, List.length_cons, List.length_nil, List.replicate_succ, List.replicate_zero, List.cons_append, List.nil_append, List.getElem?_cons_zero, List.getElem?_cons_succ, List.set_cons_zero, List.set_cons_succ, Bool.or_true, Bool.true_or, Bool.or_false, Bool.false_or, Bool.and_true, Bool.true_and, Bool.not_true, Bool.not_false, Bool.not_not, if_true, if_false, decide_true, decide_false, Bool.false_eq_true, Bool.true_eq_false, reduceIte, reduceCtorEq, Nat.reduceSub, Nat.reduceAdd, Int.reduceLT, Int.reduceEq, Int.reduceNeg, Int.reduceLE, Int.reducePow, Nat.reduceAdd, eq_self, and_self, and_true, true_and, not_true, not_false_eq_true, h]
    have : ¬ b.length < a.length := by omega
    simp [this]
/-! ### names -/
def SG : Str := "abcdefghijklmnopqrstuvwxyz0123456789"
theorem SG_len : SG.length = 36 := by decide +kernel
/-- a name -/
def Nm (x : Str) : Prop := 0 < x.length ∧ x.length ≤ 12 ∧ ∀ g ∈ x.cps.toList, g ∈ SG.cps.toList
theorem sg_at (i : Int) : ∃ g, g ∈ SG.cps.toList ∧ idxT (.imm (.str SG)) (.int (i % 36)) = some (.imm (.str ⟨#[g]⟩)) := by
  obtain ⟨g, h, e⟩ := ix_ex (x := SG) (i := i % 36) (by omega) (by rw [SG_len]; omega) (small_n (by rw [SG_len]; omega))
  exact ⟨g, List.mem_of_getElem? h, e⟩
def tNameBc : Df := ⟨"_law_name_by", 1, ["_law_cell", "_law_signs", "_law_size", "_law_spot", "_law_mixed", "_law_name", "_law_k"], [.asg 1 (.cst (.str "abcdefghijklmnopqrstuvwxyz0123456789")), .asg 2 (.bin .Add (.cst (.int 1)) (.bin .Mod (.var 0) (.cst (.int 12)))), .asg 3 (.bin .Mod (.bin .FloorDiv (.var 0) (.cst (.int 12))) (.var 2)), .asg 4 (.bin .FloorDiv (.var 0) (.cst (.int 288))), .asg 5 (.cst (.str "")), .frR 6 none (.var 2) [.iff (.bop true [(.cmp .Eq (.bin .Mod (.bin .FloorDiv (.var 0) (.cst (.int 144))) (.cst (.int 2))) (.cst (.int 0))), (.cmp .NotEq (.var 6) (.var 3))]) [.asg 5 (.bin .Add (.var 5) (.idx (.var 1) (.bin .Mod (.bin .FloorDiv (.var 0) (.cst (.int 10368))) (.cst (.int 36)))))] [.asg 5 (.bin .Add (.var 5) (.idx (.var 1) (.bin .Mod (.var 4) (.cst (.int 36))))), .asg 4 (.bin .FloorDiv (.var 4) (.cst (.int 36)))]], .ret (.var 5)]⟩
theorem t_nameBc (hf : ds[f]? = some tNameBc) (c : Int) : ∃ x : Str, Nm x ∧ evF ds fl (n + 1) f [.imm (.int c)] = .ok (.imm (.str x)) := by
  have eSG : Str.ofString "abcdefghijklmnopqrstuvwxyz0123456789" = SG := rfl
  obtain ⟨m, hm, hm1, hm2⟩ : ∃ m : Nat, 1 + c % 12 = (m : Int) ∧ 0 < m ∧ m ≤ 12 := ⟨(1 + c % 12).toNat, by omega, by omega, by omega⟩
  have hp : (0 : Int) < m := by omega
  obtain ⟨g0, hg0, e0⟩ := sg_at (c / 10368)
  rw [evF_succ hf]
  simp only [tNameBc]
  simp only [eVs0, eVs1, eVs2, eVs3, eVs4, eVs5, eVs6, eVs7, O.of_ok, O.of_ex, isVar, initE, List.length_map, List.map_cons, List.map_nil, List.length_cons, List.length_nil, List.replicate_succ, List.replicate_zero, List.cons_append, List.nil_append, List.getElem?_cons_zero, List.getElem?_cons_succ, List.set_cons_zero, List.set_cons_succ, Bool.or_true, Bool.true_or, Bool.or_false, Bool.false_or, Bool.and_true, Bool.true_and, Bool.not_true, Bool.not_false, Bool.not_not, if_true, if_false, decide_true, decide_false, Bool.false_eq_true, Bool.true_eq_false, reduceIte, reduceCtorEq, Nat.reduceSub, Nat.reduceAdd, Int.reduceLT, Int.reduceEq, Int.reduceNeg, Int.reduceLE, Int.reducePow, Nat.reduceAdd, eq_self, and_self, and_true, true_and, not_true, not_false_eq_true, hm, hp, eSG]
  rw [rng0 (by omega), str_nil]
  simp only [eVs0, eVs1, eVs2, eVs3, eVs4, eVs5, eVs6, eVs7, O.of_ok, O.of_ex, isVar, initE, List.length_map, List.map_cons, List.map_nil, List.length_cons, List.length_nil, List.replicate_succ, List.replicate_zero, List.cons_append, List.nil_append, List.getElem?_cons_zero, List.getElem?_cons_succ, List.set_cons_zero, List.set_cons_succ, Bool.or_true, Bool.true_or, Bool.or_false, Bool.false_or, Bool.and_true, Bool.true_and, Bool.not_true, Bool.not_false, Bool.not_not, if_true, if_false, decide_true, decide_false, Bool.false_eq_true, Bool.true_eq_false, reduceIte, reduceCtorEq, Nat.reduceSub, Nat.reduceAdd, Int.reduceLT, Int.reduceEq, Int.reduceNeg, Int.reduceLE, Int.reducePow, Nat.reduceAdd, eq_self, and_self, and_true, true_and, not_true, not_false_eq_true]
  refine forB_rng (fun o => ∃ x : Str, Nm x ∧ outR (o.seq _) = Rs.ok (T.imm (PyData.str x)))
    (fun k ρ => ∃ gs : List Nat, gs.length = k ∧ (∀ g ∈ gs, g ∈ SG.cps.toList) ∧ ∃ (mx : Int) (w : Option T), ρ = [some (.imm (.int c)), some (.imm (.str SG)), some (.imm (.int m)), some (.imm (.int (c / 12 % m))), some (.imm (.int mx)), some (.imm (.str ⟨gs.toArray⟩)), w]) ⟨[], rfl, (fun g hg => nomatch hg), _, none, rfl⟩ ?_ ?_
  · rintro k ρ hk ⟨gs, hg, hs, mx, w, rfl⟩
    obtain ⟨g, hgs, e1⟩ := sg_at mx
    have ha : ∀ g, binR .Add (.imm (.str ⟨gs.toArray⟩)) (.imm (.str ⟨#[g]⟩)) = .ok (.imm (.str ⟨(gs ++ [g]).toArray⟩)) := fun g => add_mk1 (by omega)
    have hall : ∀ g, g ∈ SG.cps.toList → ∀ g' ∈ gs ++ [g], g' ∈ SG.cps.toList := fun g hg g' h => by
      rcases List.mem_append.mp h with h | h
      · exact hs g' h
      · rw [List.mem_singleton.mp h]; exact hg
    by_cases h1 : c / 144 % 2 = 0
    · by_cases h2 : (k : Int) = c / 12 % m
      · exact ⟨_, by simp only [eVs0, eVs1, eVs2, eVs3, eVs4, eVs5, eVs6, eVs7, O.of_ok, O.of_ex, isVar, initE, List.length_map, List.map_cons, List.map_nil, List.length_cons, List.length_nil, List.replicate_succ, List.replicate_zero, List.cons_append, List.nil_append, List.getElem?_cons_zero, List.getElem?_cons_succ, List.set_cons_zero, List.set_cons_succ, Bool.or_true, Bool.true_or, Bool.or_false, Bool.false_or, Bool.and_true, Bool.true_and, Bool.not_true, Bool.not_false, Bool.not_not, if_true, if_false, decide_true, decide_false, Bool.false_eq_true, Bool.true_eq_false, reduceIte, reduceCtorEq, Nat.reduceSub, Nat.reduceAdd, Int.reduceLT, Int.reduceEq, Int.reduceNeg, Int.reduceLE, Int.reducePow, Nat.reduceAdd, eq_self, and_self, and_true, true_and, not_true, not_false_eq_true, h1, ← h2, e1, ha] <;> rfl, gs ++ [g], by simp [hg], hall g hgs, _, _, by rw [h2]⟩
      · exact ⟨_, by simp only [eVs0, eVs1, eVs2, eVs3, eVs4, eVs5, eVs6, eVs7, O.of_ok, O.of_ex, isVar, initE, List.length_map, List.map_cons, List.map_nil, List.length_cons, List.length_nil, List.replicate_succ, List.replicate_zero, List.cons_append, List.nil_append, List.getElem?_cons_zero, List.getElem?_cons_succ, List.set_cons_zero, List.set_cons_succ, Bool.or_true, Bool.true_or, Bool.or_false, Bool.false_or, Bool.and_true, Bool.true_and, Bool.not_true, Bool.not_false, Bool.not_not, if_true, if_false, decide_true, decide_false, Bool.false_eq_true, Bool.true_eq_false, reduceIte, reduceCtorEq, Nat.reduceSub, Nat.reduceAdd, Int.reduceLT, Int.reduceEq, Int.reduceNeg, Int.reduceLE, Int.reducePow, Nat.reduceAdd, eq_self, and_self, and_true, true_and, not_true, not_false_eq_true, h1, h2, e0, ha] <;> rfl, gs ++ [g0], by simp [hg], hall g0 hg0, _, _, rfl⟩
    · exact ⟨_, by simp only [eVs0, eVs1, eVs2, eVs3, eVs4, eVs5, eVs6, eVs7, O.of_ok, O.of_ex, isVar, initE, List.length_map, List.map_cons, List.map_nil, List.length_cons, List.length_nil, List.replicate_succ, List.replicate_zero, List.cons_append, List.nil_append, List.getElem?_cons_zero, List.getElem?_cons_succ, List.set_cons_zero, List.set_cons_succ, Bool.or_true, Bool.true_or, Bool.or_false, Bool.false_or, Bool.and_true, Bool.true_and, Bool.not_true, Bool.not_false, Bool.not_not, if_true, if_false, decide_true, decide_false, Bool.false_eq_true, Bool.true_eq_false, reduceIte, reduceCtorEq, Nat.reduceSub, Nat.reduceAdd, Int.reduceLT, Int.reduceEq, Int.reduceNeg, Int.reduceLE, Int.reducePow, Nat.reduceAdd, eq_self, and_self, and_true, true_and, not_true, not_false_eq_true, h1, e1, ha] <;> rfl, gs ++ [g], by simp [hg], hall g hgs, _, _, rfl⟩
  · rintro ρ' ⟨gs, hg, hs, mx, w, rfl⟩
    exact ⟨⟨gs.toArray⟩, ⟨by rw [len_mk]; omega, by rw [len_mk]; omega, by simpa using hs⟩, by simp only [eVs0, eVs1, eVs2, eVs3, eVs4, eVs5, eVs6, eVs7, O.of_ok, O.of_ex, isVar, initE, List.length_map, List.map_cons, List.map_nil, List.length_cons, List.length_nil, List.replicate_succ, List.replicate_zero, List.cons_append, List.nil_append, List.getElem?_cons_zero, List.getElem?_cons_succ, List.set_cons_zero, List.set_cons_succ, Bool.or_true, Bool.true_or, Bool.or_false, Bool.false_or, Bool.and_true, Bool.true_and, Bool.not_true, Bool.not_false, Bool.not_not, if_true, if_false, decide_true, decide_false, Bool.false_eq_true, Bool.true_eq_false, reduceIte, reduceCtorEq, Nat.reduceSub, Nat.reduceAdd, Int.reduceLT, Int.reduceEq, Int.reduceNeg, Int.reduceLE, Int.reducePow, Nat.reduceAdd, eq_self, and_self, and_true, true_and, not_true, not_false_eq_true]⟩
end
end Gl

set_option Elab.async false
set_option linter.all false
set_option maxRecDepth 100000
set_option maxHeartbeats 4000000
/-! GlU: dicts by ways, entries, sorting. -/
namespace Gl
open PySem L2
/-! ### dicts by ways -/
def kyW (w : List Str) : List Ky := w.map .inr
theorem kyW_inj {a b : List Str} : kyW a = kyW b ↔ a = b := by
  unfold kyW
  constructor
  · intro h
    have := congrArg (List.filterMap fun k : Ky => match k with | .inr x => some x | .inl _ => none) h
    have e : ∀ a : List Str, (a.map Sum.inr : List Ky).filterMap (fun k : Ky => match k with | .inr x => some x | .inl _ => none) = a := by
      intro a
      induction a with
      | nil => rfl
      | cons x a ih => simp only [List.map_cons, List.filterMap_cons, ih]
    rwa [e, e] at this
  · intro h; rw [h]
theorem toKeys_wy : ∀ w : List Str, toKeys (w.map .str) = some (kyW w)
  | [] => rfl
  | x :: w => by simp only [List.map_cons, toKeys, toKey, toKeys_wy w]; rfl
def TW (m : List (List Str × PyData)) : T := .node (.dT (m.map fun p => kyW p.1)) (m.map fun p => .imm p.2)
def FW (m : List (List Str × PyData)) : T := .fT (m.map fun p => (kyW p.1, p.2))
section
variable {m : List (List Str × PyData)} {w : List Str} {d : PyData} {call : Nat → List T → Rs T} {pk : Bool}
theorem imms_snd : imms (m.map fun p => T.imm p.2) = some (m.map (·.2)) := by
  have := imms_map (m.map (·.2))
  rwa [List.map_map] at this
theorem zip_fs {α β γ δ : Type} (f : α → β → γ) (g : α → β → δ) : ∀ m : List (α × β), (m.map fun p => f p.1 p.2).zip (m.map fun p => g p.1 p.2) = m.map fun p => (f p.1 p.2, g p.1 p.2)
  | [] => rfl
  | p :: m => by simp only [List.map_cons, List.zip_cons_cons, zip_fs f g m]
theorem TW_zip : (m.map fun p => kyW p.1).zip (m.map (·.2)) = m.map fun p => (kyW p.1, p.2) := zip_fs (fun a _ => kyW a) (fun _ b => b) m
theorem TW_dtv : (TW m).dtv = some (m.map fun p => (kyW p.1, p.2)) := by simp only [TW, T.dtv, imms_snd, TW_zip]
theorem TW_dkv : (TW m).dkv = none := by simp only [TW, T.dkv]
theorem TW_kids : (TW m).kids = none := by simp only [TW, T.kids]
theorem look_nil {κ α : Type} [DecidableEq κ] {k : κ} : look ([] : List (κ × α)) k = none := rfl
theorem look_cons {κ α : Type} [DecidableEq κ] {k : κ} {p : κ × α} {l : List (κ × α)} : look (p :: l) k = if p.1 = k then some p.2 else look l k := by
  unfold look
  rw [List.find?_cons]
  by_cases h : p.1 = k
  · rw [decide_eq_true h, if_pos h]; rfl
  · rw [decide_eq_false h, if_neg h]
theorem look_wy : ∀ m : List (List Str × PyData), look (m.map fun p => (kyW p.1, p.2)) (kyW w) = look m w
  | [] => rfl
  | p :: m => by
    rw [List.map_cons, look_cons, look_cons, look_wy m]
    simp only [kyW_inj]
theorem dget_TW : dget (TW m) (Wy w) = some (look m w) := by
  unfold dget Wy
  simp only [TW_dkv, TW_dtv, toKeys_wy, look_wy]
theorem FW_dtv : (FW m).dtv = some (m.map fun p => (kyW p.1, p.2)) := rfl
theorem FW_dkv : (FW m).dkv = none := rfl
theorem FW_kids : (FW m).kids = none := rfl
theorem dget_FW : dget (FW m) (Wy w) = some (look m w) := by
  unfold dget Wy
  simp only [FW_dkv, FW_dtv, toKeys_wy, look_wy]
theorem in_of {b : T} {o : Option PyData} (hk : b.kids = none) (hs : ∀ z, b ≠ .imm z) (h : dget b d = some o) : cmpR .In (.imm d) b = .ok (.imm (.bool o.isSome)) ∧ cmpR .NotIn (.imm d) b = .ok (.imm (.bool (!o.isSome))) := by
  have e : cmpIn (.imm d) b = some o.isSome := by
    unfold cmpIn
    split
    · exact absurd rfl (hs _)
    · simp only [hk, h]
  simp only [cmpR, cmpT, e, onot, and_self]
theorem in_TW : cmpR .In (.imm (Wy w)) (TW m) = .ok (.imm (.bool (look m w).isSome)) := (in_of TW_kids (fun z h => by cases h) dget_TW).1
theorem notIn_TW : cmpR .NotIn (.imm (Wy w)) (TW m) = .ok (.imm (.bool (!(look m w).isSome))) := (in_of TW_kids (fun z h => by cases h) dget_TW).2
theorem in_FW : cmpR .In (.imm (Wy w)) (FW m) = .ok (.imm (.bool (look m w).isSome)) := (in_of FW_kids (fun z h => by cases h) dget_FW).1
theorem notIn_FW : cmpR .NotIn (.imm (Wy w)) (FW m) = .ok (.imm (.bool (!(look m w).isSome))) := (in_of FW_kids (fun z h => by cases h) dget_FW).2
theorem ix_TW (h : look m w = some d) : idxT (TW m) (Wy w) = some (.imm d) := by
  have := dget_TW (m := m) (w := w)
  rw [h] at this
  unfold TW at this ⊢
  simp only [idxT, this]
theorem ix_FW (h : look m w = some d) : idxT (FW m) (Wy w) = some (.imm d) := by
  have := dget_FW (m := m) (w := w)
  rw [h] at this
  unfold FW at this ⊢
  simp only [idxT, this]
theorem var_TW : varR true (some (some (TW m))) = .ok (TW m) := rfl
theorem vl_TW : vl (.ok (TW m)) = .ok (TW m) := rfl
theorem vl_FW : vl (.ok (FW m)) = .ok (FW m) := rfl
theorem fr_TW : (TW m).fr = some (FW m) := by simp only [TW, T.fr, imms_snd, TW_zip, FW]
theorem frz_TW : frzR (TW m) = .ok (FW m) := frz_fr fr_TW
theorem fr_FW : (FW m).fr = some (FW m) := rfl
theorem frz_FW : frzR (FW m) = .ok (FW m) := rfl
theorem var_FW : varR pk (some (some (FW m))) = .ok (FW m) := by cases pk <;> rfl
theorem dn_TW : T.node (.dT []) [] = TW [] := rfl
theorem pB_FW {ts : List T} : plainB (FW m :: ts) = plainB ts := id rfl
/-- a store -/
def dput {κ α : Type} [DecidableEq κ] (m : List (κ × α)) (k : κ) (d : α) : List (κ × α) := if k ∈ m.map (·.1) then m.map (fun p => if p.1 = k then (p.1, d) else p) else m ++ [(k, d)]
theorem put_TW (h : m.length < sizeLine) : putT (TW m) (Wy w) (.imm d) = some (TW (dput m w d)) := by
  have hm : kyW w ∈ (m.map fun p => kyW p.1) ↔ w ∈ m.map (·.1) := by
    simp only [List.mem_map]
    constructor
    · rintro ⟨p, hp, e⟩; exact ⟨p, hp, kyW_inj.mp e⟩
    · rintro ⟨p, hp, e⟩; exact ⟨p, hp, kyW_inj.mpr e⟩
  unfold TW Wy
  simp only [putT, toKeys_wy, putD, List.length_map, h, true_and, if_true, hm]
  unfold dput
  by_cases hw : w ∈ m.map (·.1)
  · simp only [hw, if_true]
    congr 2
    · rw [List.map_map]
      congr 1
      apply List.map_congr_left
      intro p _
      show kyW p.1 = kyW (if p.1 = w then (p.1, d) else p).1
      split <;> rfl
    · rw [List.map_map]
      clear hm hw h
      induction m with
      | nil => rfl
      | cons p m ih =>
        simp only [List.map_cons, List.zipWith_cons_cons, ih, kyW_inj]
        congr 1
        show (if p.1 = w then T.imm d else T.imm p.2) = T.imm (if p.1 = w then (p.1, d) else p).2
        split <;> rfl
  · simp only [hw, if_false, List.map_append, List.map_cons, List.map_nil]
theorem get_of {t : T} {o : Option PyData} (h1 : mtR .get t = true) (h : dget t d = some o) : mthR .get t (.ok [.imm d]) = .ok (.imm (o.getD .none)) := by
  simp only [mthR, h1, if_true, bind_ok]
  cases o with
  | none => simp only [mtT, h]; rfl
  | some r => simp only [mtT, h]; rfl
theorem get_TW : mthR .get (TW m) (.ok [.imm (Wy w)]) = .ok (.imm ((look m w).getD .none)) := get_of (by simp only [mtR, TW_dkv, TW_dtv]; rfl) dget_TW
theorem get_FW : mthR .get (FW m) (.ok [.imm (Wy w)]) = .ok (.imm ((look m w).getD .none)) := get_of (by simp only [mtR, FW_dkv, FW_dtv]; rfl) dget_FW
theorem keys_wy : (kyW w).map ofKey = w.map .str := by
  unfold kyW
  rw [List.map_map]
  rfl
theorem listO_TW : listO (TW m) = some (m.map fun p => Wy p.1) := by
  simp only [listO, TW_kids, keysT, TW_dkv, TW_dtv, List.map_map]
  congr 1
  apply List.map_congr_left
  intro p _
  show PyData.tuple ((kyW p.1).map ofKey) = Wy p.1
  rw [keys_wy]; rfl
theorem listO_FW : listO (FW m) = some (m.map fun p => Wy p.1) := by
  simp only [listO, FW_kids, keysT, FW_dkv, FW_dtv, List.map_map]
  congr 1
  apply List.map_congr_left
  intro p _
  show PyData.tuple ((kyW p.1).map ofKey) = Wy p.1
  rw [keys_wy]; rfl
/-- own trees among the arguments -/
theorem call_frP {f : Nat} {ts as : List T} (h : frL ts = some as) (hp : ts.all T.plain = false) (hq : ts.all T.isPL = true) : callT call f ts = refP (call f as) := by
  unfold callT
  rw [h]
  dsimp only
  rw [hp, hq]
  unfold refP
  generalize call f as = r
  cases r <;> simp
theorem call_fr {f : Nat} {ts as : List T} (h : frL ts = some as) (hp : ts.all T.plain = false) (hq : ts.all T.isPL = false) : callT call f ts = refR (call f as) := by
  unfold callT
  rw [h]
  dsimp only
  rw [hp, hq]
  unfold refR
  generalize call f as = r
  cases r <;> simp
theorem call_TW {f : Nat} {ts : List T} (h : plainB ts = true) : callT call f (TW m :: ts) = refR (call f (FW m :: ts)) := by
  have a := plainB_ok h
  exact call_fr (by simp only [frL, fr_TW, frL_plain a]) (by rw [List.all_cons]; rfl) (by rw [List.all_cons]; rfl)
end
/-! ### what a dict holds behind a store -/
section
variable {κ α : Type} [DecidableEq κ] {m : List (κ × α)} {k k' : κ} {d : α}
theorem look_some_iff : (look m k).isSome = true ↔ k ∈ m.map (·.1) := by
  induction m with
  | nil => simp [look_nil]
  | cons p m ih =>
    rw [look_cons]
    by_cases h : p.1 = k
    · rw [if_pos h]; simp [h]
    · rw [if_neg h, ih]
      simp only [List.map_cons, List.mem_cons]
      constructor
      · exact .inr
      · rintro (e | e)
        · exact absurd e.symm h
        · exact e
theorem look_none_iff : look m k = none ↔ k ∉ m.map (·.1) := by
  rw [← look_some_iff]
  cases look m k <;> simp
theorem look_in {v : α} (h : look m k = some v) : (k, v) ∈ m := look_mem h
theorem look_of_mem (nd : (m.map (·.1)).Nodup) {v : α} (h : (k, v) ∈ m) : look m k = some v := by
  induction m with
  | nil => cases h
  | cons p m ih =>
    rw [List.map_cons, List.nodup_cons] at nd
    rw [look_cons]
    rcases List.mem_cons.mp h with e | h
    · rw [← e, if_pos rfl]
    · have : ¬ p.1 = k := fun z => nd.1 (by rw [z]; exact List.mem_map.mpr ⟨_, h, rfl⟩)
      rw [if_neg this]
      exact ih nd.2 h
theorem dput_keys : (dput m k d).map (·.1) = if k ∈ m.map (·.1) then m.map (·.1) else m.map (·.1) ++ [k] := by
  unfold dput
  split
  · rw [List.map_map]
    apply List.map_congr_left
    intro p _
    show (if p.1 = k then (p.1, d) else p).1 = p.1
    split <;> rfl
  · simp
theorem dput_nodup (nd : (m.map (·.1)).Nodup) : ((dput m k d).map (·.1)).Nodup := by
  rw [dput_keys]
  split
  · exact nd
  · next h =>
    rw [List.nodup_append]
    exact ⟨nd, by simp, fun a ha b hb e => h (by rw [← List.mem_singleton.mp hb, ← e]; exact ha)⟩
theorem dput_len : (dput m k d).length ≤ m.length + 1 := by
  unfold dput
  split <;> simp
theorem dput_new (h : k ∉ m.map (·.1)) : dput m k d = m ++ [(k, d)] := if_neg h
theorem look_append {l : List (κ × α)} : look (m ++ l) k = (look m k).or (look l k) := by
  induction m with
  | nil => rfl
  | cons p m ih =>
    rw [List.cons_append, look_cons, look_cons, ih]
    split <;> rfl
theorem look_dput : look (dput m k d) k' = if k = k' then some d else look m k' := by
  unfold dput
  split
  · next h =>
    induction m with
    | nil => cases h
    | cons p m ih =>
      rw [List.map_cons, look_cons, look_cons]
      by_cases hp : p.1 = k
      · rw [if_pos hp]
        by_cases hk : k = k'
        · rw [if_pos (hp.trans hk), if_pos hk]
        · rw [if_neg (fun z => hk (hp.symm.trans z)), if_neg hk, if_neg (fun z => hk (hp.symm.trans z))]
          by_cases hm : k ∈ m.map (·.1)
          · rw [ih hm, if_neg hk]
          · congr 1
            have : ∀ q ∈ m, (if q.1 = k then (q.1, d) else q) = q := fun q hq => if_neg fun z => hm (by rw [← z]; exact List.mem_map.mpr ⟨q, hq, rfl⟩)
            rw [List.map_congr_left this, List.map_id']
      · rw [if_neg hp]
        have hm : k ∈ m.map (·.1) := by
          rw [List.map_cons] at h
          exact (List.mem_cons.mp h).resolve_left fun z => hp z.symm
        rw [ih hm]
        by_cases hk : k = k'
        · rw [if_neg (fun z => hp (z.trans hk.symm)), if_pos hk, if_pos hk]
        · rw [if_neg hk, if_neg hk]
  · next h =>
    rw [look_append, look_cons, look_nil]
    by_cases hk : k = k'
    · rw [← hk, if_pos rfl, if_pos rfl, look_none_iff.mpr h]; rfl
    · rw [if_neg hk, if_neg hk]
      cases look m k' <;> rfl
end
/-! ### entries -/
structure En where
  w : List Str
  m : Str
  t : Str
deriving DecidableEq
def En.d (e : En) : PyData := .tuple [Wy e.w, .str e.m, .str e.t]
def Th (m t : Str) : PyData := .tuple [.str m, .str t]
def En.th (e : En) : PyData := Th e.m e.t
/-- a list of entries -/
def Tr (es : List En) : PyData := .list (es.map En.d)
section
variable {e : En}
theorem ix_en0 : idxT (.imm e.d) (.int 0) = some (.imm (Wy e.w)) := rfl
theorem ix_en1 : idxT (.imm e.d) (.int 1) = some (.imm (.str e.m)) := rfl
theorem ix_en2 : idxT (.imm e.d) (.int 2) = some (.imm (.str e.t)) := rfl
theorem ix_th0 {m t : Str} : idxT (.imm (Th m t)) (.int 0) = some (.imm (.str m)) := rfl
theorem ix_th1 {m t : Str} : idxT (.imm (Th m t)) (.int 1) = some (.imm (.str t)) := rfl
theorem th_def {m t : Str} : PyData.tuple [.str m, .str t] = Th m t := rfl
theorem wy1 {y : Str} : PyData.tuple [.str y] = Wy [y] := rfl
theorem wy0 : PyData.tuple [] = Wy [] := rfl
theorem src_tr {es : List En} : srcS (.imm (Tr es)) = .ok (.imm (Tr es), es.map En.d) := rfl
theorem en_mk {w : List Str} {m t : Str} : PyData.tuple [Wy w, .str m, .str t] = (En.mk w m t).d := rfl
end
/-! ### sorting -/
theorem sortD_map {α : Type} {enc : α → PyData} {as : List α} : sortD (as.map enc) = (as.mergeSort fun a b => W.dataLe false id (enc a) (enc b)).map enc :=
  (List.map_mergeSort (f := enc) (r := fun a b => W.dataLe false id (enc a) (enc b)) (s := W.dataLe false id) (l := as) fun _ _ _ _ => rfl).symm
theorem alike_strs : ∀ a b : List Str, W.alikeAll (a.map .str) (b.map .str) = true
  | [], _ => by simp [W.alikeAll]
  | _ :: _, [] => by simp [W.alikeAll]
  | x :: a, y :: b => by simp only [List.map_cons, W.alikeAll, W.alike, alike_strs a b]; rfl
theorem alike_wy (a b : List Str) : W.alike (Wy a) (Wy b) = true := by
  unfold Wy
  simp only [W.alike, alike_strs]
theorem alike_en (a b : En) : W.alike a.d b.d = true := by
  unfold En.d
  simp only [W.alike, W.alikeAll, alike_wy]
  rfl
theorem alikeB_of {α : Type} {enc : α → PyData} {as : List α} (h : ∀ a b, W.alike (enc a) (enc b) = true) : alikeB (as.map enc) = true := by
  unfold alikeB
  rw [List.all_eq_true]
  intro d hd
  rw [List.all_eq_true]
  intro e he
  obtain ⟨a, _, rfl⟩ := List.mem_map.mp hd
  obtain ⟨b, _, rfl⟩ := List.mem_map.mp he
  exact h a b
theorem sortB_strs {as : List Str} (hl : as.length ≤ sizeLine) : sortB (as.map .str) = true := by
  unfold sortB
  rw [alikeB_of (fun a b => by simp only [W.alike])]
  simp [hl, flatB, PyData.depth]
theorem sortB_wysE {as : List (List Str)} (hl : as.length ≤ sizeLine) : sortB (as.map Wy) = true := by
  unfold sortB
  rw [alikeB_of alike_wy]
  have h1 : (as.map Wy).all tupB = true := by
    rw [List.all_eq_true]
    intro d hd
    obtain ⟨a, ha, rfl⟩ := List.mem_map.mp hd
    rfl
  have h2 : (as.map Wy).all (fun d => decide (d.depth ≤ 64)) = true := by
    rw [List.all_eq_true]
    intro d hd
    obtain ⟨a, ha, rfl⟩ := List.mem_map.mp hd
    rw [dep_wy]; rfl
  rw [h1, h2]
  simp [hl]
theorem sortB_wys {as : List (List Str)} (hl : as.length ≤ sizeLine) (_h : ∀ a ∈ as, a ≠ []) : sortB (as.map Wy) = true := sortB_wysE hl
theorem dep_en (e : En) : e.d.depth = 2 := by
  unfold En.d
  simp only [PyData.depth, PyData.depthAll, dep_wy]
  rfl
theorem sortB_ens {as : List En} (hl : as.length ≤ sizeLine) : sortB (as.map En.d) = true := by
  unfold sortB
  rw [alikeB_of alike_en]
  have h1 : (as.map En.d).all tupB = true := by
    rw [List.all_eq_true]
    intro d hd
    obtain ⟨a, ha, rfl⟩ := List.mem_map.mp hd
    rfl
  have h2 : (as.map En.d).all (fun d => decide (d.depth ≤ 64)) = true := by
    rw [List.all_eq_true]
    intro d hd
    obtain ⟨a, ha, rfl⟩ := List.mem_map.mp hd
    rw [dep_en]; rfl
  rw [h1, h2]
  simp [hl]
theorem sortD_perm (ds : List PyData) : (sortD ds).Perm ds := List.mergeSort_perm ds _
/-! ### comprehensions over what is written by a map -/
section
variable {α : Type} {call : Nat → List T → Rs T} {i : Nat} {elt : E} {c : Option E} {ρ : Env} {f g : α → PyData}
theorem lcGo_mapA {st : PyData → Rs (Option PyData)} : ∀ {as : List α}, (∀ a ∈ as, st (f a) = .ok (some (g a))) → lcGo st (as.map f) = .ok (as.map g)
  | [], _ => rfl
  | a :: as, h => by
    simp only [List.map_cons, lcGo, h a List.mem_cons_self, lcGo_mapA fun b hb => h b (List.mem_cons_of_mem _ hb)]
    rfl
theorem lcGo_filA {st : PyData → Rs (Option PyData)} {p : α → Bool} : ∀ {as : List α}, (∀ a ∈ as, st (f a) = .ok (if p a then some (g a) else none)) → lcGo st (as.map f) = .ok ((as.filter p).map g)
  | [], _ => rfl
  | a :: as, h => by
    simp only [List.map_cons, lcGo, h a List.mem_cons_self, lcGo_filA fun b hb => h b (List.mem_cons_of_mem _ hb)]
    cases hp : p a
    · rw [List.filter_cons_of_neg (by simp [hp])]; rfl
    · rw [List.filter_cons_of_pos hp]; rfl
theorem lc_mapA {as : List α} (h : ∀ a ∈ as, lcStep call i elt c ρ (f a) = .ok (some (g a))) (hz : as.length ≤ 16777216) : lcB call i elt c ρ (as.map f) = .ok (.L (as.map g)) := by
  unfold lcB
  rw [lcGo_mapA h]
  simp only [bind_ok, List.length_map, small_n hz, if_true]
theorem lc_filA {p : α → Bool} {as : List α} (h : ∀ a ∈ as, lcStep call i elt c ρ (f a) = .ok (if p a then some (g a) else none)) (hz : as.length ≤ 16777216) : lcB call i elt c ρ (as.map f) = .ok (.L ((as.filter p).map g)) := by
  unfold lcB
  rw [lcGo_filA h]
  have : ((as.filter p).map g).length ≤ sizeLine := small_n (Nat.le_trans (by rw [List.length_map]; exact List.length_filter_le ..) hz)
  simp only [bind_ok, this, if_true]
end
theorem ix_L {ds : List PyData} {j : Nat} {d : PyData} (h : ds[j]? = some d) : idxT (.L ds) (.int (j : Int)) = some (.imm d) := by
  have hj : j < ds.length := (List.getElem?_eq_some_iff.mp h).1
  have e : ixD ds.length (j : Int) = some j := by rw [ixD_in (by omega) (by omega)]; rfl
  simp only [idxT, dget, T.L, T.dkv, T.dtv, T.kids, imms_map, e, h]
theorem ixD_last {n : Nat} (h : 0 < n) : ixD n (-1) = some (n - 1) := by
  unfold ixD
  rw [if_neg (by decide), if_pos (by omega)]
  congr 1
  omega
theorem ix_L_last {ds : List PyData} {d : PyData} (h : ds.getLast? = some d) : idxT (.L ds) (.int (-1)) = some (.imm d) := by
  have hn : ds ≠ [] := fun z => by rw [z] at h; cases h
  have hp := List.length_pos_iff.mpr hn
  rw [List.getLast?_eq_getElem?] at h
  simp only [idxT, dget, T.L, T.dkv, T.dtv, T.kids, imms_map, ixD_last hp, h]
theorem ix_list_last {ds : List PyData} {d : PyData} (h : ds.getLast? = some d) : idxT (.imm (.list ds)) (.int (-1)) = some (.imm d) := by
  have hn : ds ≠ [] := fun z => by rw [z] at h; cases h
  have hp := List.length_pos_iff.mpr hn
  rw [List.getLast?_eq_getElem?] at h
  simp only [idxT, dget, T.dkv, T.dtv, T.kids, ixD_last hp, h]
theorem ix_wy_last {w : List Str} {x : Str} (h : w.getLast? = some x) : idxT (.imm (Wy w)) (.int (-1)) = some (.imm (.str x)) := by
  have hn : w ≠ [] := fun z => by rw [z] at h; cases h
  have hp := List.length_pos_iff.mpr hn
  rw [List.getLast?_eq_getElem?] at h
  have e := ixD_last hp
  unfold Wy
  simp only [idxT, dget, T.dkv, T.dtv, T.kids, List.length_map, e, List.getElem?_map, h]
  rfl
theorem add_th {w : List Str} {m t : Str} : binR .Add (.imm (.tuple [Wy w])) (.imm (Th m t)) = .ok (.imm (En.mk w m t).d) := by
  unfold Th
  have h : (1 : Nat) + 2 ≤ sizeLine := by rw [sizeLine_eq]; decide
  simp only [binR, binT, seqAdd, T.isScr, T.kids, Bool.or_self, Bool.false_eq_true, if_false, List.length_cons, List.length_nil]
  rw [if_pos ⟨by omega, by omega, by omega⟩]
  rfl
/-! ### is None -/
theorem is_non : cmpR .Is (.imm .none) (.imm .none) = .ok (.imm (.bool true)) := rfl
theorem is_th {m t : Str} : cmpR .Is (.imm (Th m t)) (.imm .none) = .ok (.imm (.bool false)) := rfl
theorem is_wy {w : List Str} : cmpR .Is (.imm (Wy w)) (.imm .none) = .ok (.imm (.bool false)) := rfl
theorem is_str {x : Str} : cmpR .Is (.imm (.str x)) (.imm .none) = .ok (.imm (.bool false)) := rfl
theorem is_int {x : Int} : cmpR .Is (.imm (.int x)) (.imm .none) = .ok (.imm (.bool false)) := rfl
theorem is_tup {x : List PyData} : cmpR .Is (.imm (.tuple x)) (.imm .none) = .ok (.imm (.bool false)) := rfl
theorem is_list {x : List PyData} : cmpR .Is (.imm (.list x)) (.imm .none) = .ok (.imm (.bool false)) := rfl
theorem is_en {e : En} : cmpR .Is (.imm e.d) (.imm .none) = .ok (.imm (.bool false)) := rfl
theorem isn_non : cmpR .IsNot (.imm .none) (.imm .none) = .ok (.imm (.bool false)) := rfl
theorem isn_th {m t : Str} : cmpR .IsNot (.imm (Th m t)) (.imm .none) = .ok (.imm (.bool true)) := rfl
theorem isn_wy {w : List Str} : cmpR .IsNot (.imm (Wy w)) (.imm .none) = .ok (.imm (.bool true)) := rfl
theorem isn_str {x : Str} : cmpR .IsNot (.imm (.str x)) (.imm .none) = .ok (.imm (.bool true)) := rfl
theorem isn_int {x : Int} : cmpR .IsNot (.imm (.int x)) (.imm .none) = .ok (.imm (.bool true)) := rfl
theorem isn_tup {x : List PyData} : cmpR .IsNot (.imm (.tuple x)) (.imm .none) = .ok (.imm (.bool true)) := rfl
theorem isn_list {x : List PyData} : cmpR .IsNot (.imm (.list x)) (.imm .none) = .ok (.imm (.bool true)) := rfl
theorem isn_en {e : En} : cmpR .IsNot (.imm e.d) (.imm .none) = .ok (.imm (.bool true)) := rfl
theorem isi_th {m t : Str} : isiR .tuple (.imm (Th m t)) = .ok (.imm (.bool true)) := rfl
theorem isi_non {c : Cl} : isiR c (.imm .none) = .ok (.imm (.bool false)) := by cases c <;> rfl
theorem isi_en {e : En} : isiR .tuple (.imm e.d) = .ok (.imm (.bool true)) := rfl
theorem isi_tr {es : List En} : isiR .list (.imm (Tr es)) = .ok (.imm (.bool true)) := rfl
theorem len_th {m t : Str} : lenT (.imm (Th m t)) = some 2 := rfl
theorem len_en {e : En} : lenT (.imm e.d) = some 3 := rfl
theorem len_tr {es : List En} : lenT (.imm (Tr es)) = some es.length := by show some (es.map En.d).length = _; rw [List.length_map]
theorem ix_tr {es : List En} {j : Nat} {e : En} (h : es[j]? = some e) : idxT (.imm (Tr es)) (.int (j : Int)) = some (.imm e.d) := ix_list (by rw [List.getElem?_map, h]; rfl)
theorem slc_tr {es : List En} {lo hi : Option Int} : slcT (.imm (Tr es)) lo hi = some (.L ((cutL es lo hi).map En.d)) := by
  unfold Tr
  rw [slc_list, cut_map]
theorem kids_tr {es : List En} : (T.imm (Tr es)).kids = some (true, es.map En.d) := rfl
theorem listO_tr {es : List En} : listO (.imm (Tr es)) = some (es.map En.d) := rfl
theorem tr_def {es : List En} : PyData.list (es.map En.d) = Tr es := rfl
/-- equality of what is told -/
theorem eqv_th {m t m' t' : Str} : PyData.eqv (Th m t) (Th m' t') = decide (m = m' ∧ t = t') := by
  unfold Th
  simp only [PyData.eqv, PyData.eqvAll]
  by_cases h1 : m = m' <;> by_cases h2 : t = t' <;> simp [h1, h2]
theorem dep_th {m t : Str} : (Th m t).depth = 1 := by unfold Th; simp only [PyData.depth, PyData.depthAll]; rfl
theorem c_eq_th {m t m' t' : Str} : cmpR .Eq (.imm (Th m t)) (.imm (Th m' t')) = .ok (.imm (.bool (decide (m = m' ∧ t = t')))) := by
  rw [c_eq_dat (d := Th m t) (e := Th m' t') rfl rfl (by rw [dep_th]; decide), eqv_th]
theorem eqv_en {a b : En} : PyData.eqv a.d b.d = decide (a = b) := by
  obtain ⟨w, m, t⟩ := a
  obtain ⟨w', m', t'⟩ := b
  unfold En.d
  simp only [PyData.eqv, PyData.eqvAll, eqv_wy]
  by_cases h1 : m = m' <;> by_cases h2 : t = t' <;> by_cases h3 : w = w' <;> simp [h1, h2, h3]
theorem c_eq_en {a b : En} : cmpR .Eq (.imm a.d) (.imm b.d) = .ok (.imm (.bool (decide (a = b)))) := by
  rw [c_eq_dat (d := a.d) (e := b.d) rfl rfl (by rw [dep_en]; decide), eqv_en]
theorem c_ne_en {a b : En} : cmpR .NotEq (.imm a.d) (.imm b.d) = .ok (.imm (.bool (!decide (a = b)))) := by
  rw [c_ne_dat (d := a.d) (e := b.d) rfl rfl (by rw [dep_en]; decide), eqv_en]
theorem eqv_ens : ∀ a b : List En, PyData.eqvAll (a.map En.d) (b.map En.d) = decide (a = b)
  | [], [] => by simp [PyData.eqvAll]
  | [], _ :: _ => by simp [PyData.eqvAll]
  | _ :: _, [] => by simp [PyData.eqvAll]
  | x :: a, y :: b => by
    simp only [List.map_cons, PyData.eqvAll, eqv_en, eqv_ens a b]
    by_cases h1 : x = y <;> by_cases h2 : a = b <;> simp [h1, h2]
theorem dep_ens : ∀ a : List En, PyData.depthAll (a.map En.d) ≤ 2
  | [] => by simp [PyData.depthAll]
  | x :: a => by
    have := dep_ens a
    simp only [List.map_cons, PyData.depthAll, dep_en]
    omega
theorem dep_tr {es : List En} : (Tr es).depth ≤ 3 := by
  have := dep_ens es
  unfold Tr
  simp only [PyData.depth]
  omega
theorem eqv_tr {a b : List En} : PyData.eqv (Tr a) (Tr b) = decide (a = b) := by
  unfold Tr
  simp only [PyData.eqv, eqv_ens]
theorem c_eq_tr {a b : List En} : cmpR .Eq (.imm (Tr a)) (.imm (Tr b)) = .ok (.imm (.bool (decide (a = b)))) := by
  rw [c_eq_dat (d := Tr a) (e := Tr b) rfl rfl (by have := dep_tr (es := a); omega), eqv_tr]
theorem c_ne_tr {a b : List En} : cmpR .NotEq (.imm (Tr a)) (.imm (Tr b)) = .ok (.imm (.bool (!decide (a = b)))) := by
  rw [c_ne_dat (d := Tr a) (e := Tr b) rfl rfl (by have := dep_tr (es := a); omega), eqv_tr]
def isN : PyData → Bool
  | .none => true
  | _ => false
theorem isN_eq {d : PyData} (h : isN d = true) : d = .none := by cases d <;> first | rfl | cases h
theorem call_LL {call : Nat → List T → Rs T} {f : Nat} {a b : List PyData} : callT call f [T.L a, T.L b] = refP (call f [.imm (.list a), .imm (.list b)]) := call_frP (by simp only [frL, fr_L]) rfl (by simp only [List.all_cons, List.all_nil, T.L, T.isPL, imms_map, T.plain]; rfl)
theorem call_iL {call : Nat → List T → Rs T} {f : Nat} {d : PyData} {b : List PyData} : callT call f [.imm d, T.L b] = refP (call f [.imm d, .imm (.list b)]) := call_frP (by simp only [frL, fr_L, fr_imm]) rfl (by simp only [List.all_cons, List.all_nil, T.L, T.isPL, imms_map, T.plain]; rfl)
theorem add_L {a b : List PyData} (h : a.length + b.length ≤ 16777216) : binR .Add (.L a) (.L b) = .ok (.L (a ++ b)) := by
  have h0 : (sizeLine : Nat) = 16777216 := by decide
  simp only [binR, binT, T.L, seqAdd, T.isScr, T.kids, imms_map, Bool.or_self, Bool.false_eq_true, if_false]
  rw [if_pos ⟨by omega, by omega, by omega⟩]
  rfl
theorem noLs_strs : ∀ xs : List Str, noLsA (xs.map .str) = true
  | [] => by simp [noLsA]
  | x :: xs => by simp [noLsA, noLs, noLs_strs xs]
theorem noLs_wy {w : List Str} : noLs (Wy w) = true := by simp [Wy, noLs, noLs_strs]
theorem noLs_en {e : En} : noLs e.d = true := by simp [En.d, noLs, noLsA, noLs_wy]
theorem noLs_ens : ∀ es : List En, noLsA (es.map En.d) = true
  | [] => by simp [noLsA]
  | e :: es => by simp [noLsA, noLs_en, noLs_ens es]
theorem noLs_th {m t : Str} : noLs (Th m t) = true := by simp [Th, noLs, noLsA]
theorem noLs_wys : ∀ ws : List (List Str), noLsA (ws.map Wy) = true
  | [] => by simp [noLsA]
  | w :: ws => by simp [noLsA, noLs_wy, noLs_wys ws]
theorem refP_ens {es : List En} : refP (.ok (.L (es.map En.d))) = .ok (.L (es.map En.d)) := refP_L (noLs_ens es)
theorem refP_strs {xs : List Str} : refP (.ok (.L (xs.map .str))) = .ok (.L (xs.map .str)) := refP_L (noLs_strs xs)
theorem refP_wys {ws : List (List Str)} : refP (.ok (.L (ws.map Wy))) = .ok (.L (ws.map Wy)) := refP_L (noLs_wys ws)
theorem refP_th {m t : Str} : refP (.ok (.imm (Th m t))) = .ok (.imm (Th m t)) := refP_imm noLs_th
theorem refP_wy {w : List Str} : refP (.ok (.imm (Wy w))) = .ok (.imm (Wy w)) := refP_imm noLs_wy
/-- a sorted list of texts -/
def sortS (xs : List Str) : List Str := xs.mergeSort fun a b => W.dataLe false id (.str a) (.str b)
theorem sortD_str {xs : List Str} : sortD (xs.map .str) = (sortS xs).map .str := sortD_map (enc := PyData.str)
theorem sortS_perm (xs : List Str) : (sortS xs).Perm xs := List.mergeSort_perm xs _
theorem ifO_tr {b : Bool} {x y : List En} : ifO b (some (.imm (Tr x))) (some (.imm (Tr y))) = some (.imm (Tr (ifG b x y))) := by cases b <;> rfl
theorem fr_tr {es : List En} : (T.imm (Tr es)).fr = some (.imm (Tr es)) := rfl
/-! the rules by one name -/
def uVs0 := And.intro @refP_ens (And.intro @refP_strs (And.intro @refP_wys (And.intro @refP_th (And.intro @refP_wy (And.intro @src_tr (And.intro @dn_TW (And.intro @ix_en0 (And.intro @ix_en1 (And.intro @ix_en2 (And.intro @ix_th0 (And.intro @ix_th1 (And.intro @th_def (And.intro @wy0 (And.intro @wy1 (And.intro @var_TW (And.intro @vl_TW (And.intro @vl_FW (And.intro @in_TW (And.intro @notIn_TW (And.intro @in_FW (And.intro @notIn_FW (And.intro @fr_TW (And.intro @frz_TW (And.intro @frz_FW (And.intro @fr_FW (And.intro @var_FW (And.intro @pB_FW (And.intro @get_TW (And.intro @get_FW (And.intro @listO_TW (And.intro @listO_FW (And.intro @call_TW (And.intro @is_non (And.intro @is_th (And.intro @is_wy (And.intro @is_str (And.intro @is_int (And.intro @is_tup (@is_list)))))))))))))))))))))))))))))))))))))))
def uVs1 := And.intro @is_en (And.intro @isn_non (And.intro @isn_th (And.intro @isn_wy (And.intro @isn_str (And.intro @isn_int (And.intro @isn_tup (And.intro @isn_list (And.intro @isn_en (And.intro @isi_th (And.intro @isi_non (And.intro @isi_en (And.intro @isi_tr (And.intro @len_th (And.intro @len_en (And.intro @len_tr (And.intro @slc_tr (And.intro @listO_tr (And.intro @tr_def (And.intro @c_eq_th (And.intro @c_eq_en (And.intro @c_ne_en (And.intro @c_eq_tr (And.intro @c_ne_tr (And.intro @call_LL (And.intro @call_iL (And.intro @en_mk (@ifO_tr)))))))))))))))))))))))))))
end Gl

set_option Elab.async false
set_option linter.all false
set_option maxRecDepth 100000
set_option maxHeartbeats 4000000
/-! GlV: defs that many laws share: trees. -/
namespace Gl
open PySem L2
section
variable {ds : List Df} {fl n f : Nat}
/-! ### by_way -/
def tByWayN (nm : Str) (nms : List Str) : Df := ⟨nm, 1, nms, [.asg 1 .dnT, .fr 2 (.var 0) [.put 1 (.idx (.var 2) (.cst (.int 0))) (.tup [(.idx (.var 2) (.cst (.int 1))), (.idx (.var 2) (.cst (.int 2)))])], .ret (.var 1)]⟩
def tByWay : Df := tByWayN "by_way" ["entries", "things", "entry"]
def byW (es : List En) : List (List Str × PyData) := es.foldl (fun m e => dput m e.w e.th) []
theorem fold_snoc {α β : Type} {g : β → α → β} {z : β} {pre : List α} {a : α} : (pre ++ [a]).foldl g z = g (pre.foldl g z) a := by rw [List.foldl_append]; rfl
theorem byW_len : ∀ (es : List En) (m : List (List Str × PyData)), (es.foldl (fun m e => dput m e.w e.th) m).length ≤ m.length + es.length
  | [], m => by simp
  | e :: es, m => by
    have := byW_len es (dput m e.w e.th)
    have := dput_len (m := m) (k := e.w) (d := e.th)
    simp only [List.foldl_cons, List.length_cons]
    omega
theorem t_byWayN {nm : Str} {nms : List Str} (hn : nms.length = 3) (hf : ds[f]? = some (tByWayN nm nms)) (es : List En) (h : es.length ≤ 10000) : evF ds fl (n + 1) f [.imm (Tr es)] = .ok (TW (byW es)) := by
  obtain ⟨n0, n1, n2, rfl⟩ : ∃ a b c, nms = [a, b, c] := by
    match nms, hn with
    | [a, b, c], _ => exact ⟨a, b, c, rfl⟩
  rw [evF_succ hf]
  simp only [tByWayN]
  simp only [eVs0, eVs1, eVs2, eVs3, eVs4, eVs5, eVs6, eVs7, O.of_ok, O.of_ex, isVar, initE, List.length_map, List.map_cons, List.map_nil, List.length_cons, List.length_nil, List.replicate_succ, List.replicate_zero, List.cons_append, List.nil_append, List.getElem?_cons_zero, List.getElem?_cons_succ, List.set_cons_zero, List.set_cons_succ, Bool.or_true, Bool.true_or, Bool.or_false, Bool.false_or, Bool.and_true, Bool.true_and, Bool.not_true, Bool.not_false, Bool.not_not, if_true, if_false, decide_true, decide_false, Bool.false_eq_true, Bool.true_eq_false, reduceIte, reduceCtorEq, Nat.reduceSub, Nat.reduceAdd, Int.reduceLT, Int.reduceEq, Int.reduceNeg, Int.reduceLE, Int.reducePow, Nat.reduceAdd, eq_self, and_self, and_true, true_and, not_true, not_false_eq_true, src_tr, dn_TW]
  refine forB_map (fun o => outR (o.seq _) = Rs.ok (TW (byW es))) (fun pre ρ => ∃ u, ρ = [some (.imm (Tr es)), some (TW (byW pre)), u]) ⟨none, rfl⟩ ?_ ?_
  · rintro pre e post ρ hx ⟨u, rfl⟩
    have h2 : pre.length < es.length := by rw [hx]; simp
    have h3 := byW_len pre []
    have hp := put_TW (m := byW pre) (w := e.w) (d := e.th) (by rw [sizeLine_eq]; show (byW pre).length < _; unfold byW; simp at h3; omega)
    refine ⟨_, ?_, some (.imm e.d), rfl⟩
    simp only [eVs0, eVs1, eVs2, eVs3, eVs4, eVs5, eVs6, eVs7, O.of_ok, O.of_ex, isVar, initE, List.length_map, List.map_cons, List.map_nil, List.length_cons, List.length_nil, List.replicate_succ, List.replicate_zero, List.cons_append, List.nil_append, List.getElem?_cons_zero, List.getElem?_cons_succ, List.set_cons_zero, List.set_cons_succ, Bool.or_true, Bool.true_or, Bool.or_false, Bool.false_or, Bool.and_true, Bool.true_and, Bool.not_true, Bool.not_false, Bool.not_not, if_true, if_false, decide_true, decide_false, Bool.false_eq_true, Bool.true_eq_false, reduceIte, reduceCtorEq, Nat.reduceSub, Nat.reduceAdd, Int.reduceLT, Int.reduceEq, Int.reduceNeg, Int.reduceLE, Int.reducePow, Nat.reduceAdd, eq_self, and_self, and_true, true_and, not_true, not_false_eq_true, ix_en0, ix_en1, ix_en2, th_def]
    simp only [En.th] at hp
    simp only [eVs0, eVs1, eVs2, eVs3, eVs4, eVs5, eVs6, eVs7, O.of_ok, O.of_ex, isVar, initE, List.length_map, List.map_cons, List.map_nil, List.length_cons, List.length_nil, List.replicate_succ, List.replicate_zero, List.cons_append, List.nil_append, List.getElem?_cons_zero, List.getElem?_cons_succ, List.set_cons_zero, List.set_cons_succ, Bool.or_true, Bool.true_or, Bool.or_false, Bool.false_or, Bool.and_true, Bool.true_and, Bool.not_true, Bool.not_false, Bool.not_not, if_true, if_false, decide_true, decide_false, Bool.false_eq_true, Bool.true_eq_false, reduceIte, reduceCtorEq, Nat.reduceSub, Nat.reduceAdd, Int.reduceLT, Int.reduceEq, Int.reduceNeg, Int.reduceLE, Int.reducePow, Nat.reduceAdd, eq_self, and_self, and_true, true_and, not_true, not_false_eq_true, hp]
    rw [show byW (pre ++ [e]) = dput (byW pre) e.w e.th from fold_snoc]
    rfl
  · rintro ρ' ⟨u, rfl⟩
    simp only [eVs0, eVs1, eVs2, eVs3, eVs4, eVs5, eVs6, eVs7, O.of_ok, O.of_ex, isVar, initE, List.length_map, List.map_cons, List.map_nil, List.length_cons, List.length_nil, List.replicate_succ, List.replicate_zero, List.cons_append, List.nil_append, List.getElem?_cons_zero, List.getElem?_cons_succ, List.set_cons_zero, List.set_cons_succ, Bool.or_true, Bool.true_or, Bool.or_false, Bool.false_or, Bool.and_true, Bool.true_and, Bool.not_true, Bool.not_false, Bool.not_not, if_true, if_false, decide_true, decide_false, Bool.false_eq_true, Bool.true_eq_false, reduceIte, reduceCtorEq, Nat.reduceSub, Nat.reduceAdd, Int.reduceLT, Int.reduceEq, Int.reduceNeg, Int.reduceLE, Int.reducePow, Nat.reduceAdd, eq_self, and_self, and_true, true_and, not_true, not_false_eq_true]
theorem t_byWay (hf : ds[f]? = some tByWay) (es : List En) (h : es.length ≤ 10000) : evF ds fl (n + 1) f [.imm (Tr es)] = .ok (TW (byW es)) := t_byWayN rfl hf es h
/-- no way twice: the dict is the list -/
theorem byW_eq {es : List En} (nd : (es.map En.w).Nodup) : byW es = es.map fun e => (e.w, e.th) := by
  have : ∀ (es : List En) (m : List (List Str × PyData)), (m.map (·.1) ++ es.map En.w).Nodup → es.foldl (fun m e => dput m e.w e.th) m = m ++ es.map fun e => (e.w, e.th) := by
    intro es
    induction es with
    | nil => intro m _; simp
    | cons e es ih =>
      intro m hn
      have h1 : e.w ∉ m.map (·.1) := fun z => by
        rw [List.nodup_append] at hn
        exact hn.2.2 _ z _ List.mem_cons_self rfl
      rw [List.foldl_cons, dput_new h1, ih]
      · simp
      · simpa using hn
  have := this es [] (by simpa using nd)
  simpa [byW] using this
theorem look_byW {es : List En} (nd : (es.map En.w).Nodup) (w : List Str) : look (byW es) w = (es.find? fun e => decide (e.w = w)).map En.th := by
  rw [byW_eq nd]
  clear nd
  induction es with
  | nil => rfl
  | cons e es ih =>
    rw [List.map_cons, look_cons, List.find?_cons, ih]
    by_cases h : e.w = w
    · rw [if_pos h, decide_eq_true h]; rfl
    · rw [if_neg h, decide_eq_false h]
/-! ### thing_at -/
def tThing (b : Nat) : Df := ⟨"thing_at", 2, ["tree", "way"], [.iff (.cmp .Eq (.var 1) (.tup [])) [.ret (.tup [(.glb "FOLDER" (.str "folder")), (.cst (.str ""))])] [], .ret (.mth (.call b [(.var 0)]) .get [(.var 1)])]⟩
/-- what lies at a way -/
def thing (es : List En) (w : List Str) : PyData := if w = [] then Th "folder" "" else ((es.find? fun e => decide (e.w = w)).map En.th).getD .none
theorem t_thing {b : Nat} (hb : ds[b]? = some tByWay) (hf : ds[f]? = some (tThing b)) (es : List En) (h : es.length ≤ 10000) (nd : (es.map En.w).Nodup) (w : List Str) : evF ds fl (n + 2) f [.imm (Tr es), .imm (Wy w)] = .ok (.imm (thing es w)) := by
  rw [evF_succ hf]
  simp only [tThing]
  unfold thing
  by_cases hw : w = []
  · subst hw
    simp only [eVs0, eVs1, eVs2, eVs3, eVs4, eVs5, eVs6, eVs7, O.of_ok, O.of_ex, isVar, initE, List.length_map, List.map_cons, List.map_nil, List.length_cons, List.length_nil, List.replicate_succ, List.replicate_zero, List.cons_append, List.nil_append, List.getElem?_cons_zero, List.getElem?_cons_succ, List.set_cons_zero, List.set_cons_succ, Bool.or_true, Bool.true_or, Bool.or_false, Bool.false_or, Bool.and_true, Bool.true_and, Bool.not_true, Bool.not_false, Bool.not_not, if_true, if_false, decide_true, decide_false, Bool.false_eq_true, Bool.true_eq_false, reduceIte, reduceCtorEq, Nat.reduceSub, Nat.reduceAdd, Int.reduceLT, Int.reduceEq, Int.reduceNeg, Int.reduceLE, Int.reducePow, Nat.reduceAdd, eq_self, and_self, and_true, true_and, not_true, not_false_eq_true, wy0, th_def, if_pos]
  · simp only [eVs0, eVs1, eVs2, eVs3, eVs4, eVs5, eVs6, eVs7, O.of_ok, O.of_ex, isVar, initE, List.length_map, List.map_cons, List.map_nil, List.length_cons, List.length_nil, List.replicate_succ, List.replicate_zero, List.cons_append, List.nil_append, List.getElem?_cons_zero, List.getElem?_cons_succ, List.set_cons_zero, List.set_cons_succ, Bool.or_true, Bool.true_or, Bool.or_false, Bool.false_or, Bool.and_true, Bool.true_and, Bool.not_true, Bool.not_false, Bool.not_not, if_true, if_false, decide_true, decide_false, Bool.false_eq_true, Bool.true_eq_false, reduceIte, reduceCtorEq, Nat.reduceSub, Nat.reduceAdd, Int.reduceLT, Int.reduceEq, Int.reduceNeg, Int.reduceLE, Int.reducePow, Nat.reduceAdd, eq_self, and_self, and_true, true_and, not_true, not_false_eq_true, vl_TW, wy0, hw, t_byWay hb es h, get_TW, look_byW nd, if_neg]
/-! ### mixing -/
def tMixed : Df := ⟨"_law_mixed", 3, ["_law_cell", "_law_turn", "_law_many", "_law_by", "_law_prime"], [.asg 3 (.tup [(.cst (.int 48271)), (.cst (.int 69621)), (.cst (.int 16807)), (.cst (.int 39373)), (.cst (.int 21401)), (.cst (.int 60493)), (.cst (.int 87721)), (.cst (.int 31337))]), .asg 4 (.tup [(.cst (.int 99991)), (.cst (.int 99989)), (.cst (.int 99971)), (.cst (.int 99961)), (.cst (.int 99929)), (.cst (.int 99923)), (.cst (.int 99907)), (.cst (.int 99901))]), .ret (.bin .Mod (.bin .Mod (.bin .Mult (.bin .Add (.bin .Mod (.var 0) (.bin .Pow (.cst (.int 10)) (.cst (.int 18)))) (.cst (.int 1))) (.idx (.var 3) (.bin .Mod (.var 1) (.cst (.int 8))))) (.idx (.var 4) (.bin .Mod (.var 1) (.cst (.int 8))))) (.var 2))]⟩
theorem ix_tup_ex {xs : List PyData} {i : Int} (h0 : 0 ≤ i) (h1 : i < xs.length) : ∃ d, d ∈ xs ∧ idxT (.imm (.tuple xs)) (.int i) = some (.imm d) := by
  have hj : i.toNat < xs.length := by omega
  refine ⟨xs[i.toNat], List.getElem_mem hj, ?_⟩
  have e : ixD xs.length i = some i.toNat := ixD_in h0 h1
  simp only [idxT, dget, T.dkv, T.dtv, T.kids, e, List.getElem?_eq_getElem hj]
theorem t_mixed (hf : ds[f]? = some tMixed) (c t : Int) (m : Nat) (hm : 0 < m) : ∃ r : Nat, r < m ∧ evF ds fl (n + 1) f [.imm (.int c), .imm (.int t), .imm (.int (m : Int))] = .ok (.imm (.int (r : Int))) := by
  have hp : binR .Pow (.imm (.int 10)) (.imm (.int 18)) = .ok (.imm (.int (10 ^ 18))) := r_pow_int ⟨by decide, by decide, by decide⟩
  obtain ⟨d1, m1, e1⟩ := ix_tup_ex (xs := [.int 48271, .int 69621, .int 16807, .int 39373, .int 21401, .int 60493, .int 87721, .int 31337]) (i := t % 8) (by omega) (by simp; omega)
  obtain ⟨d2, m2, e2⟩ := ix_tup_ex (xs := [.int 99991, .int 99989, .int 99971, .int 99961, .int 99929, .int 99923, .int 99907, .int 99901]) (i := t % 8) (by omega) (by simp; omega)
  obtain ⟨j, rfl⟩ : ∃ j, d1 = .int j := by
    simp only [List.mem_cons, List.not_mem_nil, or_false] at m1
    rcases m1 with rfl | rfl | rfl | rfl | rfl | rfl | rfl | rfl <;> exact ⟨_, rfl⟩
  obtain ⟨p, hp1, rfl⟩ : ∃ p : Int, 0 < p ∧ d2 = .int p := by
    simp only [List.mem_cons, List.not_mem_nil, or_false] at m2
    rcases m2 with rfl | rfl | rfl | rfl | rfl | rfl | rfl | rfl <;> exact ⟨_, by decide, rfl⟩
  have hm0 : (0 : Int) < m := by omega
  have g1 : -18446744073709551616 < c % 10 ^ 18 + 1 := by omega
  have g2 : c % 10 ^ 18 + 1 < 18446744073709551616 := by omega
  obtain ⟨r, hr, er⟩ := mod_nat0 ((c % 10 ^ 18 + 1) * j % p) hm
  refine ⟨r, hr, ?_⟩
  rw [evF_succ hf]
  simp only [tMixed]
  have hmul := r_mul_l (j := j) g1 g2
  simp only [eVs0, eVs1, eVs2, eVs3, eVs4, eVs5, eVs6, eVs7, O.of_ok, O.of_ex, isVar, initE, List.length_map, List.map_cons, List.map_nil, List.length_cons, List.length_nil, List.replicate_succ, List.replicate_zero, List.cons_append, List.nil_append, List.getElem?_cons_zero, List.getElem?_cons_succ, List.set_cons_zero, List.set_cons_succ, Bool.or_true, Bool.true_or, Bool.or_false, Bool.false_or, Bool.and_true, Bool.true_and, Bool.not_true, Bool.not_false, Bool.not_not, if_true, if_false, decide_true, decide_false, Bool.false_eq_true, Bool.true_eq_false, reduceIte, reduceCtorEq, Nat.reduceSub, Nat.reduceAdd, Int.reduceLT, Int.reduceEq, Int.reduceNeg, Int.reduceLE, Int.reducePow, Nat.reduceAdd, eq_self, and_self, and_true, true_and, not_true, not_false_eq_true, hp]
  simp only [Int.reducePow] at hmul er ⊢
  simp only [eVs0, eVs1, eVs2, eVs3, eVs4, eVs5, eVs6, eVs7, O.of_ok, O.of_ex, isVar, initE, List.length_map, List.map_cons, List.map_nil, List.length_cons, List.length_nil, List.replicate_succ, List.replicate_zero, List.cons_append, List.nil_append, List.getElem?_cons_zero, List.getElem?_cons_succ, List.set_cons_zero, List.set_cons_succ, Bool.or_true, Bool.true_or, Bool.or_false, Bool.false_or, Bool.and_true, Bool.true_and, Bool.not_true, Bool.not_false, Bool.not_not, if_true, if_false, decide_true, decide_false, Bool.false_eq_true, Bool.true_eq_false, reduceIte, reduceCtorEq, Nat.reduceSub, Nat.reduceAdd, Int.reduceLT, Int.reduceEq, Int.reduceNeg, Int.reduceLE, Int.reducePow, Nat.reduceAdd, eq_self, and_self, and_true, true_and, not_true, not_false_eq_true, hmul, e1, e2, hp1, hm0, er]
/-! ### names by a stem -/
def tNameDa : Df := ⟨"_law_name_by", 2, ["_law_stem", "_law_v", "_law_signs", "_law_size", "_law_spot", "_law_name", "_law_k", "_law_turn"], [.asg 2 (.cst (.str "abcdefghijklmnopqrstuvwxyz0123456789")), .asg 3 (.bin .Add (.cst (.int 1)) (.bin .Mod (.var 0) (.cst (.int 12)))), .asg 4 (.bin .Mod (.bin .FloorDiv (.var 0) (.cst (.int 12))) (.var 3)), .asg 5 (.cst (.str "")), .frR 6 none (.var 3) [.asg 7 (.bin .Add (.bin .FloorDiv (.var 0) (.cst (.int 5184))) (.bin .Mult (.var 6) (.bin .Mod (.bin .FloorDiv (.var 0) (.cst (.int 144))) (.cst (.int 36))))), .iff (.cmp .Eq (.var 6) (.var 4)) [.asg 7 (.bin .Add (.var 7) (.var 1))] [], .asg 5 (.bin .Add (.var 5) (.idx (.var 2) (.bin .Mod (.var 7) (.cst (.int 36)))))], .iff (.bop true [(.cmp .Eq (.bin .Mod (.bin .FloorDiv (.var 0) (.cst (.int 3))) (.cst (.int 2))) (.cst (.int 1))), (.cmp .Eq (.bin .Mod (.var 1) (.cst (.int 5))) (.cst (.int 4)))]) [.asg 5 (.slc (.var 5) none (some (.bin .Add (.cst (.int 1)) (.bin .Mod (.var 1) (.var 3))))), .fz 5] [], .ret (.var 5)]⟩
theorem t_nameDa (hf : ds[f]? = some tNameDa) (s v : Int) : ∃ x : Str, Nm x ∧ evF ds fl (n + 1) f [.imm (.int s), .imm (.int v)] = .ok (.imm (.str x)) := by
  have eSG : Str.ofString "abcdefghijklmnopqrstuvwxyz0123456789" = SG := rfl
  obtain ⟨m, hm, hm1, hm2⟩ : ∃ m : Nat, 1 + s % 12 = (m : Int) ∧ 0 < m ∧ m ≤ 12 := ⟨(1 + s % 12).toNat, by omega, by omega, by omega⟩
  have hp : (0 : Int) < m := by omega
  rw [evF_succ hf]
  simp only [tNameDa]
  simp only [eVs0, eVs1, eVs2, eVs3, eVs4, eVs5, eVs6, eVs7, O.of_ok, O.of_ex, isVar, initE, List.length_map, List.map_cons, List.map_nil, List.length_cons, List.length_nil, List.replicate_succ, List.replicate_zero, List.cons_append, List.nil_append, List.getElem?_cons_zero, List.getElem?_cons_succ, List.set_cons_zero, List.set_cons_succ, Bool.or_true, Bool.true_or, Bool.or_false, Bool.false_or, Bool.and_true, Bool.true_and, Bool.not_true, Bool.not_false, Bool.not_not, if_true, if_false, decide_true, decide_false, Bool.false_eq_true, Bool.true_eq_false, reduceIte, reduceCtorEq, Nat.reduceSub, Nat.reduceAdd, Int.reduceLT, Int.reduceEq, Int.reduceNeg, Int.reduceLE, Int.reducePow, Nat.reduceAdd, eq_self, and_self, and_true, true_and, not_true, not_false_eq_true, hm, hp, eSG]
  rw [rng0 (by omega), str_nil]
  simp only [eVs0, eVs1, eVs2, eVs3, eVs4, eVs5, eVs6, eVs7, O.of_ok, O.of_ex, isVar, initE, List.length_map, List.map_cons, List.map_nil, List.length_cons, List.length_nil, List.replicate_succ, List.replicate_zero, List.cons_append, List.nil_append, List.getElem?_cons_zero, List.getElem?_cons_succ, List.set_cons_zero, List.set_cons_succ, Bool.or_true, Bool.true_or, Bool.or_false, Bool.false_or, Bool.and_true, Bool.true_and, Bool.not_true, Bool.not_false, Bool.not_not, if_true, if_false, decide_true, decide_false, Bool.false_eq_true, Bool.true_eq_false, reduceIte, reduceCtorEq, Nat.reduceSub, Nat.reduceAdd, Int.reduceLT, Int.reduceEq, Int.reduceNeg, Int.reduceLE, Int.reducePow, Nat.reduceAdd, eq_self, and_self, and_true, true_and, not_true, not_false_eq_true]
  refine forB_rng (fun o => ∃ x : Str, Nm x ∧ outR (o.seq _) = Rs.ok (T.imm (PyData.str x)))
    (fun k ρ => ∃ gs : List Nat, gs.length = k ∧ (∀ g ∈ gs, g ∈ SG.cps.toList) ∧ ∃ (u w : Option T), ρ = [some (.imm (.int s)), some (.imm (.int v)), some (.imm (.str SG)), some (.imm (.int m)), some (.imm (.int (s / 12 % m))), some (.imm (.str ⟨gs.toArray⟩)), u, w]) ⟨[], rfl, (fun g hg => nomatch hg), none, none, rfl⟩ ?_ ?_
  · rintro k ρ hk ⟨gs, hg, hs, u, w, rfl⟩
    have ha : ∀ g, binR .Add (.imm (.str ⟨gs.toArray⟩)) (.imm (.str ⟨#[g]⟩)) = .ok (.imm (.str ⟨(gs ++ [g]).toArray⟩)) := fun g => add_mk1 (by omega)
    have hall : ∀ g, g ∈ SG.cps.toList → ∀ g' ∈ gs ++ [g], g' ∈ SG.cps.toList := fun g hg g' h => by
      rcases List.mem_append.mp h with h | h
      · exact hs g' h
      · rw [List.mem_singleton.mp h]; exact hg
    have g1 : -18446744073709551616 < (k : Int) := by omega
    have g2 : (k : Int) < 18446744073709551616 := by omega
    have hmul := r_mul_l (j := s / 144 % 36) g1 g2
    obtain ⟨g, hgs, e1⟩ := sg_at (s / 5184 + k * (s / 144 % 36))
    obtain ⟨g', hgs', e2⟩ := sg_at (s / 5184 + k * (s / 144 % 36) + v)
    by_cases h2 : (k : Int) = s / 12 % m
    · exact ⟨_, by simp only [eVs0, eVs1, eVs2, eVs3, eVs4, eVs5, eVs6, eVs7, O.of_ok, O.of_ex, isVar, initE, List.length_map, List.map_cons, List.map_nil, List.length_cons, List.length_nil, List.replicate_succ, List.replicate_zero, List.cons_append, List.nil_append, List.getElem?_cons_zero, List.getElem?_cons_succ, List.set_cons_zero, List.set_cons_succ, Bool.or_true, Bool.true_or, Bool.or_false, Bool.false_or, Bool.and_true, Bool.true_and, Bool.not_true, Bool.not_false, Bool.not_not, if_true, if_false, decide_true, decide_false, Bool.false_eq_true, Bool.true_eq_false, reduceIte, reduceCtorEq, Nat.reduceSub, Nat.reduceAdd, Int.reduceLT, Int.reduceEq, Int.reduceNeg, Int.reduceLE, Int.reducePow, Nat.reduceAdd, eq_self, and_self, and_true, true_and, not_true, not_false_eq_true, hmul, ← h2, e2, ha] <;> rfl, gs ++ [g'], by simp [hg], hall g' hgs', _, _, by rw [h2]⟩
    · exact ⟨_, by simp only [eVs0, eVs1, eVs2, eVs3, eVs4, eVs5, eVs6, eVs7, O.of_ok, O.of_ex, isVar, initE, List.length_map, List.map_cons, List.map_nil, List.length_cons, List.length_nil, List.replicate_succ, List.replicate_zero, List.cons_append, List.nil_append, List.getElem?_cons_zero, List.getElem?_cons_succ, List.set_cons_zero, List.set_cons_succ, Bool.or_true, Bool.true_or, Bool.or_false, Bool.false_or, Bool.and_true, Bool.true_and, Bool.not_true, Bool.not_false, Bool.not_not, if_true, if_false, decide_true, decide_false, Bool.false_eq_true, Bool.true_eq_false, reduceIte, reduceCtorEq, Nat.reduceSub, Nat.reduceAdd, Int.reduceLT, Int.reduceEq, Int.reduceNeg, Int.reduceLE, Int.reducePow, Nat.reduceAdd, eq_self, and_self, and_true, true_and, not_true, not_false_eq_true, hmul, h2, e1, ha] <;> rfl, gs ++ [g], by simp [hg], hall g hgs, _, _, rfl⟩
  · rintro ρ' ⟨gs, hg, hs, u, w, rfl⟩
    have hn : Nm ⟨gs.toArray⟩ := ⟨by rw [len_mk]; omega, by rw [len_mk]; omega, by simpa using hs⟩
    by_cases h3 : s / 3 % 2 = 1
    · by_cases h4 : v % 5 = 4
      · obtain ⟨c, hc, ec⟩ := mod_nat0 v (q := m) hm1
        have hsl : slcT (.imm (.str ⟨gs.toArray⟩)) none (some (1 + (c : Int))) = some (.imm (.str ⟨(gs.take (1 + c)).toArray⟩)) := by
          have : (1 : Int) + (c : Int) = ((1 + c : Nat) : Int) := by omega
          rw [this]
          simp only [slcT, len_mk, cut_to]
          rw [if_pos (small_n (by omega))]
        refine ⟨⟨(gs.take (1 + c)).toArray⟩, ⟨by rw [len_mk]; simp; omega, by rw [len_mk]; simp; omega, fun g hg => ?_⟩, ?_⟩
        · have : g ∈ gs.take (1 + c) := by simpa using hg
          exact hs g (List.mem_of_mem_take this)
        · simp only [eVs0, eVs1, eVs2, eVs3, eVs4, eVs5, eVs6, eVs7, O.of_ok, O.of_ex, isVar, initE, List.length_map, List.map_cons, List.map_nil, List.length_cons, List.length_nil, List.replicate_succ, List.replicate_zero, List.cons_append, List.nil_append, List.getElem?_cons_zero, List.getElem?_cons_succ, List.set_cons_zero, List.set_cons_succ, Bool.or_true, Bool.true_or, Bool.or_false, Bool.false_or, Bool.and_true, Bool.true_and, Bool.not_true, Bool.not_false, Bool.not_not, if_true, if_false, decide_true, decide_false, Bool.false_eq_true, Bool.true_eq_false, reduceIte, reduceCtorEq, Nat.reduceSub, Nat.reduceAdd, Int.reduceLT, Int.reduceEq, Int.reduceNeg, Int.reduceLE, Int.reducePow, Nat.reduceAdd, eq_self, and_self, and_true, true_and, not_true, not_false_eq_true, h3, h4, hp, ec, hsl]
      · exact ⟨_, hn, by simp only [eVs0, eVs1, eVs2, eVs3, eVs4, eVs5, eVs6, eVs7, O.of_ok, O.of_ex, isVar, initE, List.length_map, List.map_cons, List.map_nil, List.length_cons, List.length_nil, List.replicate_succ, List.replicate_zero, List.cons_append, List.nil_append, List.getElem?_cons_zero, List.getElem?_cons_succ, List.set_cons_zero, List.set_cons_succ, Bool.or_true, Bool.true_or, Bool.or_false, Bool.false_or, Bool.and_true, Bool.true_and, Bool.not_true, Bool.not_false, Bool.not_not, if_true, if_false, decide_true, decide_false, Bool.false_eq_true, Bool.true_eq_false, reduceIte, reduceCtorEq, Nat.reduceSub, Nat.reduceAdd, Int.reduceLT, Int.reduceEq, Int.reduceNeg, Int.reduceLE, Int.reducePow, Nat.reduceAdd, eq_self, and_self, and_true, true_and, not_true, not_false_eq_true, h3, h4]⟩
    · exact ⟨_, hn, by simp only [eVs0, eVs1, eVs2, eVs3, eVs4, eVs5, eVs6, eVs7, O.of_ok, O.of_ex, isVar, initE, List.length_map, List.map_cons, List.map_nil, List.length_cons, List.length_nil, List.replicate_succ, List.replicate_zero, List.cons_append, List.nil_append, List.getElem?_cons_zero, List.getElem?_cons_succ, List.set_cons_zero, List.set_cons_succ, Bool.or_true, Bool.true_or, Bool.or_false, Bool.false_or, Bool.and_true, Bool.true_and, Bool.not_true, Bool.not_false, Bool.not_not, if_true, if_false, decide_true, decide_false, Bool.false_eq_true, Bool.true_eq_false, reduceIte, reduceCtorEq, Nat.reduceSub, Nat.reduceAdd, Int.reduceLT, Int.reduceEq, Int.reduceNeg, Int.reduceLE, Int.reducePow, Nat.reduceAdd, eq_self, and_self, and_true, true_and, not_true, not_false_eq_true, h3]⟩
/-! ### texts of entries -/
def tTextC7 (x y : Nat) : Df := ⟨"_law_text_by", 4, ["_law_mark", "_law_cell", "_law_stem", "_law_wide", "_law_name"], [.iff (.cmp .Eq (.var 0) (.cst (.str "file"))) [.ret (.idx (.tup [(.cst (.str "")), (.cst (.str "as it was")), (.bi .str [(.bin .Mod (.var 1) (.bin .Pow (.cst (.int 10)) (.cst (.int 30))))])]) (.call x [(.var 1), (.cst (.int 5)), (.cst (.int 3))]))] [], .iff (.cmp .NotEq (.var 0) (.cst (.str "link"))) [.ret (.cst (.str ""))] [], .asg 4 (.call y [(.var 2), (.call x [(.var 1), (.cst (.int 5)), (.var 3)])]), .ret (.idx (.tup [(.cst (.str "/")), (.bin .Add (.cst (.str "/")) (.var 4)), (.var 4), (.bin .Add (.cst (.str "../")) (.var 4)), (.bin .Add (.bin .Add (.cst (.str "./")) (.var 4)) (.cst (.str "/.."))), (.cst (.str ".."))]) (.call x [(.var 1), (.cst (.int 7)), (.cst (.int 6))]))]⟩
theorem log_lt {i : Int} (h : i.natAbs < 2 ^ 1920) : i.natAbs.log2 < 1920 := by
  by_cases hz : i.natAbs = 0
  · rw [hz]; decide
  · rw [Nat.log2_lt hz]; exact h
theorem strs_mem {xs : List PyData} {d : PyData} (h : ∀ d ∈ xs, ∃ x, d = .str x) (hd : d ∈ xs) : ∃ x, d = .str x := h d hd
theorem t_textC7 {x y : Nat} (hx : ds[x]? = some tMixed) (hy : ds[y]? = some tNameDa) (hf : ds[f]? = some (tTextC7 x y)) (mk : Str) (c s : Int) (w : Nat) (hw : 0 < w) : ∃ z : Str, evF ds fl (n + 2) f [.imm (.str mk), .imm (.int c), .imm (.int s), .imm (.int (w : Int))] = .ok (.imm (.str z)) := by
  have hp : binR .Pow (.imm (.int 10)) (.imm (.int 30)) = .ok (.imm (.int (10 ^ 30))) := r_pow_int ⟨by decide, by decide, by decide⟩
  rw [evF_succ hf]
  simp only [tTextC7]
  by_cases h1 : mk = Str.ofString "file"
  · obtain ⟨r, hr, er⟩ := t_mixed (ds := ds) (fl := fl) (n := n) hx c 5 3 (by decide)
    have er : evF ds fl (n + 1) x [.imm (.int c), .imm (.int 5), .imm (.int 3)] = .ok (.imm (.int (r : Int))) := er
    have hl : (c % 1000000000000000000000000000000).natAbs.log2 < 1920 := log_lt (Nat.lt_of_lt_of_le (show (c % 1000000000000000000000000000000).natAbs < 2 ^ 128 by omega) (Nat.pow_le_pow_right (by decide) (by decide)))
    obtain ⟨d, hd, ed⟩ := ix_tup_ex (xs := [.str (Str.ofString ""), .str (Str.ofString "as it was"), .str (Str.ofString (toString (c % 1000000000000000000000000000000)))]) (i := (r : Int)) (by omega) (by simp; omega)
    obtain ⟨z, rfl⟩ : ∃ z, d = .str z := by
      simp only [List.mem_cons, List.not_mem_nil, or_false] at hd
      rcases hd with rfl | rfl | rfl <;> exact ⟨_, rfl⟩
    exact ⟨z, by simp only [eVs0, eVs1, eVs2, eVs3, eVs4, eVs5, eVs6, eVs7, O.of_ok, O.of_ex, isVar, initE, List.length_map, List.map_cons, List.map_nil, List.length_cons, List.length_nil, List.replicate_succ, List.replicate_zero, List.cons_append, List.nil_append, List.getElem?_cons_zero, List.getElem?_cons_succ, List.set_cons_zero, List.set_cons_succ, Bool.or_true, Bool.true_or, Bool.or_false, Bool.false_or, Bool.and_true, Bool.true_and, Bool.not_true, Bool.not_false, Bool.not_not, if_true, if_false, decide_true, decide_false, Bool.false_eq_true, Bool.true_eq_false, reduceIte, reduceCtorEq, Nat.reduceSub, Nat.reduceAdd, Int.reduceLT, Int.reduceEq, Int.reduceNeg, Int.reduceLE, Int.reducePow, Nat.reduceAdd, eq_self, and_self, and_true, true_and, not_true, not_false_eq_true, h1, hp, bi_str hl, er, ed]⟩
  · by_cases h2 : mk = Str.ofString "link"
    · obtain ⟨r, hr, er⟩ := t_mixed (ds := ds) (fl := fl) (n := n) hx c 5 w hw
      obtain ⟨r2, hr2, er2⟩ := t_mixed (ds := ds) (fl := fl) (n := n) hx c 7 6 (by decide)
      have er2 : evF ds fl (n + 1) x [.imm (.int c), .imm (.int 7), .imm (.int 6)] = .ok (.imm (.int (r2 : Int))) := er2
      obtain ⟨v, hv, ev⟩ := t_nameDa (ds := ds) (fl := fl) (n := n) hy s r
      have a1 := r_add_str (x := Str.ofString "/") (y := v) (small_n (by have := hv.2.1; show 1 + _ ≤ _; omega))
      have a2 := r_add_str (x := Str.ofString "../") (y := v) (small_n (by have := hv.2.1; show 3 + _ ≤ _; omega))
      have a3 := r_add_str (x := Str.ofString "./") (y := v) (small_n (by have := hv.2.1; show 2 + _ ≤ _; omega))
      have a4 := r_add_str (x := Str.ofString "./" ++ v) (y := Str.ofString "/..") (small_n (by
        have := hv.2.1
        have e : (Str.ofString "./" ++ v).length = 2 + v.length := by
          show (Str.ofString "./" ++ v).cps.size = _
          rw [← Array.length_toList]
          have := TL.tl_append (Str.ofString "./") v
          show (TL.tl _).length = _
          rw [this, List.length_append]
          show 2 + v.cps.toList.length = _
          rw [Array.length_toList]; rfl
        rw [e]; show _ + 3 ≤ _; omega))
      obtain ⟨d, hd, ed⟩ := ix_tup_ex (xs := [.str (Str.ofString "/"), .str (Str.ofString "/" ++ v), .str v, .str (Str.ofString "../" ++ v), .str (Str.ofString "./" ++ v ++ Str.ofString "/.."), .str (Str.ofString "..")]) (i := (r2 : Int)) (by omega) (by simp; omega)
      obtain ⟨z, rfl⟩ : ∃ z, d = .str z := by
        simp only [List.mem_cons, List.not_mem_nil, or_false] at hd
        rcases hd with rfl | rfl | rfl | rfl | rfl | rfl <;> exact ⟨_, rfl⟩
      exact ⟨z, by simp only [eVs0, eVs1, eVs2, eVs3, eVs4, eVs5, eVs6, eVs7, O.of_ok, O.of_ex, isVar, initE, List.length_map, List.map_cons, List.map_nil, List.length_cons, List.length_nil, List.replicate_succ, List.replicate_zero, List.cons_append, List.nil_append, List.getElem?_cons_zero, List.getElem?_cons_succ, List.set_cons_zero, List.set_cons_succ, Bool.or_true, Bool.true_or, Bool.or_false, Bool.false_or, Bool.and_true, Bool.true_and, Bool.not_true, Bool.not_false, Bool.not_not, if_true, if_false, decide_true, decide_false, Bool.false_eq_true, Bool.true_eq_false, reduceIte, reduceCtorEq, Nat.reduceSub, Nat.reduceAdd, Int.reduceLT, Int.reduceEq, Int.reduceNeg, Int.reduceLE, Int.reducePow, Nat.reduceAdd, eq_self, and_self, and_true, true_and, not_true, not_false_eq_true, h1, h2, er, ev, a1, a2, a3, a4, er2, ed]⟩
    · exact ⟨_, by simp only [eVs0, eVs1, eVs2, eVs3, eVs4, eVs5, eVs6, eVs7, O.of_ok, O.of_ex, isVar, initE, List.length_map, List.map_cons, List.map_nil, List.length_cons, List.length_nil, List.replicate_succ, List.replicate_zero, List.cons_append, List.nil_append, List.getElem?_cons_zero, List.getElem?_cons_succ, List.set_cons_zero, List.set_cons_succ, Bool.or_true, Bool.true_or, Bool.or_false, Bool.false_or, Bool.and_true, Bool.true_and, Bool.not_true, Bool.not_false, Bool.not_not, if_true, if_false, decide_true, decide_false, Bool.false_eq_true, Bool.true_eq_false, reduceIte, reduceCtorEq, Nat.reduceSub, Nat.reduceAdd, Int.reduceLT, Int.reduceEq, Int.reduceNeg, Int.reduceLE, Int.reducePow, Nat.reduceAdd, eq_self, and_self, and_true, true_and, not_true, not_false_eq_true, h1, h2] <;> rfl⟩
/-! ### trees drawn by cells -/
def tTree97n (nm : Str) (x y z : Nat) : Df := ⟨"_law_tree_by", 2, [nm, "_law_stem", "_law_wide", "_law_things", "_law_folders", "_law_cell", "_law_over", "_law_way", "_law_mark"], [.asg 2 (.bin .Add (.cst (.int 2)) (.bin .Mod (.bin .FloorDiv (.var 1) (.cst (.int 5))) (.cst (.int 7)))), .asg 3 .dnT, .asg 4 (.lst [(.tup [])]), .fr 5 (.var 0) [.asg 6 (.idx (.var 4) (.call x [(.var 5), (.cst (.int 0)), (.bi .len [(.var 4)])])), .iff (.cmp .Eq (.call x [(.var 5), (.cst (.int 3)), (.cst (.int 3))]) (.cst (.int 0))) [.asg 6 (.idx (.var 4) (.neg (.cst (.int 1))))] [], .asg 7 (.bin .Add (.var 6) (.tup [(.call y [(.var 1), (.call x [(.var 5), (.cst (.int 1)), (.var 2)])])])), .iff (.bop true [(.cmp .NotIn (.var 7) (.var 3)), (.cmp .Lt (.bi .len [(.var 7)]) (.cst (.int 15)))]) [.asg 8 (.idx (.tup [(.cst (.str "folder")), (.cst (.str "file")), (.cst (.str "folder")), (.cst (.str "link"))]) (.call x [(.var 5), (.cst (.int 2)), (.cst (.int 4))])), .put 3 (.var 7) (.tup [(.var 8), (.call z [(.var 8), (.var 5), (.var 1), (.var 2)])]), .iff (.cmp .Eq (.var 8) (.cst (.str "folder"))) [.app 4 (.var 7)] []] []], .ret (.lc 7 (.bi .sorted [(.bi .list [(.var 3)])]) (.bin .Add (.tup [(.var 7)]) (.idx (.var 3) (.var 7))) none)]⟩
def tTree97 (x y z : Nat) : Df := tTree97n "_law_cells" x y z
def enM (es : List En) : List (List Str × PyData) := es.map fun e => (e.w, e.th)
theorem enM_keys {es : List En} : (enM es).map (·.1) = es.map En.w := by unfold enM; rw [List.map_map]; rfl
theorem enM_len {es : List En} : (enM es).length = es.length := by unfold enM; rw [List.length_map]
theorem enM_put {es : List En} {w : List Str} {m t : Str} (h : w ∉ es.map En.w) : dput (enM es) w (Th m t) = enM (es ++ [⟨w, m, t⟩]) := by
  rw [dput_new (by rw [enM_keys]; exact h)]
  unfold enM
  simp [En.th]
theorem enM_look {es : List En} {e : En} (nd : (es.map En.w).Nodup) (h : e ∈ es) : look (enM es) e.w = some e.th := look_of_mem (by rw [enM_keys]; exact nd) (List.mem_map.mpr ⟨e, h, rfl⟩)
/-- sorted by ways -/
def wle (a b : List Str) : Bool := W.dataLe false id (Wy a) (Wy b)
def byWay (es : List En) : List En := es.mergeSort fun a b => wle a.w b.w
theorem byWay_perm (es : List En) : (byWay es).Perm es := List.mergeSort_perm es _
theorem byWay_ways (es : List En) : sortD ((es.map En.w).map Wy) = (byWay es).map fun e => Wy e.w := by
  rw [List.map_map]
  exact sortD_map (enc := Wy ∘ En.w)
/-- what is drawn: folders, files, links; each stands in the root or in a folder -/
structure Drawn (L : Nat) (es : List En) : Prop where
  nd : (es.map En.w).Nodup
  ne : ∀ e ∈ es, e.w ≠ [] ∧ e.w.length < L
  nm : ∀ e ∈ es, ∀ x ∈ e.w, Nm x
  mks : ∀ e ∈ es, e.m = "folder" ∨ e.m = "file" ∨ e.m = "link"
  up : ∀ e ∈ es, e.w.dropLast = [] ∨ ∃ o ∈ es, o.w = e.w.dropLast ∧ o.m = "folder"
theorem Drawn.perm {L : Nat} {es es' : List En} (h : Drawn L es) (p : es'.Perm es) : Drawn L es' :=
  ⟨(p.map En.w).nodup_iff.mpr h.nd, fun e he => h.ne e (p.mem_iff.mp he), fun e he => h.nm e (p.mem_iff.mp he), fun e he => h.mks e (p.mem_iff.mp he), fun e he => (h.up e (p.mem_iff.mp he)).imp_right fun ⟨o, ho, q⟩ => ⟨o, p.mem_iff.mpr ho, q⟩⟩
theorem Drawn.nil {L : Nat} : Drawn L [] := ⟨List.nodup_nil, (fun e he => nomatch he), (fun e he => nomatch he), (fun e he => nomatch he), (fun e he => nomatch he)⟩
theorem Drawn.snoc {L : Nat} {es : List En} (h : Drawn L es) {o : List Str} {x m t : Str} (hx : Nm x) (ho : o = [] ∨ ∃ e ∈ es, e.w = o ∧ e.m = "folder") (hn : o ++ [x] ∉ es.map En.w) (hl : (o ++ [x]).length < L) (hm : m = "folder" ∨ m = "file" ∨ m = "link") : Drawn L (es ++ [⟨o ++ [x], m, t⟩]) := by
  have mem : ∀ {e : En}, e ∈ es ++ [⟨o ++ [x], m, t⟩] → e ∈ es ∨ e = ⟨o ++ [x], m, t⟩ := fun h => (List.mem_append.mp h).imp_right List.mem_singleton.mp
  refine ⟨?_, fun e he => ?_, fun e he => ?_, fun e he => ?_, fun e he => ?_⟩
  · rw [List.map_append, List.nodup_append]
    exact ⟨h.nd, by simp, fun a ha b hb e => hn (by rw [show o ++ [x] = a from by rw [e]; exact (by simpa using hb : b = o ++ [x]).symm]; exact ha)⟩
  · rcases mem he with he | rfl
    · exact h.ne e he
    · exact ⟨by simp, hl⟩
  · rcases mem he with he | rfl
    · exact h.nm e he
    · intro y hy
      rcases List.mem_append.mp hy with hy | hy
      · rcases ho with rfl | ⟨e', he', rfl, _⟩
        · cases hy
        · exact h.nm e' he' y hy
      · rw [List.mem_singleton.mp hy]; exact hx
  · rcases mem he with he | rfl
    · exact h.mks e he
    · exact hm
  · rcases mem he with he | rfl
    · exact (h.up e he).imp_right fun ⟨o', ho', q⟩ => ⟨o', List.mem_append_left _ ho', q⟩
    · show (o ++ [x]).dropLast = [] ∨ _
      rw [List.dropLast_concat]
      exact ho.imp_right fun ⟨e, he, q⟩ => ⟨e, List.mem_append_left _ he, q⟩
theorem t_tree97n {nm : Str} {x y z k : Nat} (hx : ds[x]? = some tMixed) (hy : ds[y]? = some tNameDa) (hf : ds[f]? = some (tTree97n nm x y z)) (Px : Str → Str → Prop)
    (ht : ∀ (mk : Str) (c s : Int) (w : Nat), 0 < w → ∃ u : Str, Px mk u ∧ evF ds fl (n + k + 1) z [.imm (.str mk), .imm (.int c), .imm (.int s), .imm (.int (w : Int))] = .ok (.imm (.str u))) (cs : List Int) (hc : cs.length ≤ 1000) (s : Int) :
    ∃ es : List En, Drawn 15 es ∧ (∀ e ∈ es, Px e.m e.t) ∧ es.length ≤ cs.length ∧ evF ds fl (n + k + 2) f [.imm (.list (cs.map .int)), .imm (.int s)] = .ok (.L ((byWay es).map En.d)) := by
  obtain ⟨wd, hw, ew⟩ : ∃ wd : Nat, 0 < wd ∧ 2 + s / 5 % 7 = (wd : Int) := ⟨(2 + s / 5 % 7).toNat, by omega, by omega⟩
  rw [evF_succ hf]
  simp only [tTree97n]
  simp only [eVs0, eVs1, eVs2, eVs3, eVs4, eVs5, eVs6, eVs7, O.of_ok, O.of_ex, isVar, initE, List.length_map, List.map_cons, List.map_nil, List.length_cons, List.length_nil, List.replicate_succ, List.replicate_zero, List.cons_append, List.nil_append, List.getElem?_cons_zero, List.getElem?_cons_succ, List.set_cons_zero, List.set_cons_succ, Bool.or_true, Bool.true_or, Bool.or_false, Bool.false_or, Bool.and_true, Bool.true_and, Bool.not_true, Bool.not_false, Bool.not_not, if_true, if_false, decide_true, decide_false, Bool.false_eq_true, Bool.true_eq_false, reduceIte, reduceCtorEq, Nat.reduceSub, Nat.reduceAdd, Int.reduceLT, Int.reduceEq, Int.reduceNeg, Int.reduceLE, Int.reducePow, Nat.reduceAdd, eq_self, and_self, and_true, true_and, not_true, not_false_eq_true, uVs0, uVs1, ew]
  refine forB_map (fun o => ∃ es : List En, Drawn 15 es ∧ (∀ e ∈ es, Px e.m e.t) ∧ es.length ≤ cs.length ∧ outR (o.seq _) = Rs.ok (T.L ((byWay es).map En.d)))
    (fun pre ρ => ∃ es : List En, Drawn 15 es ∧ (∀ e ∈ es, Px e.m e.t) ∧ es.length ≤ pre.length ∧ ∃ fs : List (List Str), fs ≠ [] ∧ fs.length ≤ pre.length + 1 ∧ (∀ o ∈ fs, o = [] ∨ ∃ e ∈ es, e.w = o ∧ e.m = "folder") ∧
      ∃ (u0 u1 u2 u3 : Option T), ρ = [some (.imm (.list (cs.map .int))), some (.imm (.int s)), some (.imm (.int (wd : Int))), some (TW (enM es)), some (.L (fs.map Wy)), u0, u1, u2, u3]) ⟨[], Drawn.nil, (fun e he => nomatch he), Nat.le_refl _, [[]], by simp, by simp, fun o ho => .inl (by simpa using ho), none, none, none, none, rfl⟩ ?_ ?_
  · rintro pre c post ρ hcs ⟨es, hD, hP, hle, fs, hfs, hfl, hfo, u0, u1, u2, u3, rfl⟩
    have hpl : pre.length < cs.length := by rw [hcs]; simp
    obtain ⟨r0, hr0, e0⟩ := t_mixed (ds := ds) (fl := fl) (n := n + k) hx c 0 fs.length (List.length_pos_iff.mpr hfs)
    obtain ⟨r1, hr1, e1⟩ := t_mixed (ds := ds) (fl := fl) (n := n + k) hx c 3 3 (by decide)
    have e1 : evF ds fl (n + k + 1) x [.imm (.int c), .imm (.int 3), .imm (.int 3)] = .ok (.imm (.int (r1 : Int))) := e1
    obtain ⟨r2, hr2, e2⟩ := t_mixed (ds := ds) (fl := fl) (n := n + k) hx c 1 wd hw
    obtain ⟨r3, hr3, e3⟩ := t_mixed (ds := ds) (fl := fl) (n := n + k) hx c 2 4 (by decide)
    have e3 : evF ds fl (n + k + 1) x [.imm (.int c), .imm (.int 2), .imm (.int 4)] = .ok (.imm (.int (r3 : Int))) := e3
    obtain ⟨v, hv, ev⟩ := t_nameDa (ds := ds) (fl := fl) (n := n + k) hy s r2
    have i1 : idxT (.L (fs.map Wy)) (.int (r0 : Int)) = some (.imm (Wy fs[r0])) := ix_L (by rw [List.getElem?_map, List.getElem?_eq_getElem hr0]; rfl)
    have i2 : idxT (.L (fs.map Wy)) (.int (-1)) = some (.imm (Wy (fs.getLast hfs))) := ix_L_last (by rw [List.getLast?_map, List.getLast?_eq_some_getLast hfs]; rfl)
    have hol : ∀ o, o ∈ fs → o.length < 15 := fun o ho => (hfo o ho).elim (fun z => by rw [z]; decide) fun ⟨e, he, q, _⟩ => by rw [← q]; exact (hD.ne e he).2
    simp only [eVs0, eVs1, eVs2, eVs3, eVs4, eVs5, eVs6, eVs7, O.of_ok, O.of_ex, isVar, initE, List.length_map, List.map_cons, List.map_nil, List.length_cons, List.length_nil, List.replicate_succ, List.replicate_zero, List.cons_append, List.nil_append, List.getElem?_cons_zero, List.getElem?_cons_succ, List.set_cons_zero, List.set_cons_succ, Bool.or_true, Bool.true_or, Bool.or_false, Bool.false_or, Bool.and_true, Bool.true_and, Bool.not_true, Bool.not_false, Bool.not_not, if_true, if_false, decide_true, decide_false, Bool.false_eq_true, Bool.true_eq_false, reduceIte, reduceCtorEq, Nat.reduceSub, Nat.reduceAdd, Int.reduceLT, Int.reduceEq, Int.reduceNeg, Int.reduceLE, Int.reducePow, Nat.reduceAdd, eq_self, and_self, and_true, true_and, not_true, not_false_eq_true, uVs0, uVs1, e0, i1, e1, i2]
    obtain ⟨o, ho, eo⟩ : ∃ o, o ∈ fs ∧ ifG (decide ((r1 : Int) = 0)) (fs.getLast hfs) fs[r0] = o := ⟨_, ifG_of (P := fun o => o ∈ fs) (List.getLast_mem hfs) (List.getElem_mem hr0), rfl⟩
    rw [eo]
    have hlen := hol o ho
    have ha := add_wy (a := o) (b := [v]) (small_n (by simp; omega))
    simp only [eVs0, eVs1, eVs2, eVs3, eVs4, eVs5, eVs6, eVs7, O.of_ok, O.of_ex, isVar, initE, List.length_map, List.map_cons, List.map_nil, List.length_cons, List.length_nil, List.replicate_succ, List.replicate_zero, List.cons_append, List.nil_append, List.getElem?_cons_zero, List.getElem?_cons_succ, List.set_cons_zero, List.set_cons_succ, Bool.or_true, Bool.true_or, Bool.or_false, Bool.false_or, Bool.and_true, Bool.true_and, Bool.not_true, Bool.not_false, Bool.not_not, if_true, if_false, decide_true, decide_false, Bool.false_eq_true, Bool.true_eq_false, reduceIte, reduceCtorEq, Nat.reduceSub, Nat.reduceAdd, Int.reduceLT, Int.reduceEq, Int.reduceNeg, Int.reduceLE, Int.reducePow, Nat.reduceAdd, eq_self, and_self, and_true, true_and, not_true, not_false_eq_true, uVs0, uVs1, e2, ev, ha]
    by_cases h1 : o ++ [v] ∈ es.map En.w
    · have hk : (look (enM es) (o ++ [v])).isSome = true := look_some_iff.mpr (by rw [enM_keys]; exact h1)
      exact ⟨_, by simp only [eVs0, eVs1, eVs2, eVs3, eVs4, eVs5, eVs6, eVs7, O.of_ok, O.of_ex, isVar, initE, List.length_map, List.map_cons, List.map_nil, List.length_cons, List.length_nil, List.replicate_succ, List.replicate_zero, List.cons_append, List.nil_append, List.getElem?_cons_zero, List.getElem?_cons_succ, List.set_cons_zero, List.set_cons_succ, Bool.or_true, Bool.true_or, Bool.or_false, Bool.false_or, Bool.and_true, Bool.true_and, Bool.not_true, Bool.not_false, Bool.not_not, if_true, if_false, decide_true, decide_false, Bool.false_eq_true, Bool.true_eq_false, reduceIte, reduceCtorEq, Nat.reduceSub, Nat.reduceAdd, Int.reduceLT, Int.reduceEq, Int.reduceNeg, Int.reduceLE, Int.reducePow, Nat.reduceAdd, eq_self, and_self, and_true, true_and, not_true, not_false_eq_true, uVs0, uVs1, hk] <;> rfl, es, hD, hP, by simp; omega, fs, hfs, by simp; omega, hfo, _, _, _, _, rfl⟩
    · have hk : (look (enM es) (o ++ [v])).isSome = false := by
        rw [Bool.eq_false_iff]
        intro z
        rw [look_some_iff, enM_keys] at z
        exact h1 z
      by_cases h2 : ((o ++ [v]).length : Int) < 15
      · obtain ⟨d, hd, ed⟩ := ix_tup_ex (xs := [.str (Str.ofString "folder"), .str (Str.ofString "file"), .str (Str.ofString "folder"), .str (Str.ofString "link")]) (i := (r3 : Int)) (by omega) (by simp; omega)
        obtain ⟨mk, hmk, rfl⟩ : ∃ mk : Str, (mk = "folder" ∨ mk = "file" ∨ mk = "link") ∧ d = .str mk := by
          simp only [List.mem_cons, List.not_mem_nil, or_false] at hd
          rcases hd with rfl | rfl | rfl | rfl
          · exact ⟨_, .inl rfl, rfl⟩
          · exact ⟨_, .inr (.inl rfl), rfl⟩
          · exact ⟨_, .inl rfl, rfl⟩
          · exact ⟨_, .inr (.inr rfl), rfl⟩
        obtain ⟨u, hu, eu⟩ := ht mk c s wd hw
        have hp := put_TW (m := enM es) (w := o ++ [v]) (d := Th mk u) (by rw [enM_len, sizeLine_eq]; omega)
        rw [enM_put h1] at hp
        have hD' := hD.snoc (t := u) hv (hfo o ho) h1 (by omega) hmk
        have hP' : ∀ e ∈ es ++ [En.mk (o ++ [v]) mk u], Px e.m e.t := fun e he => by
          rcases List.mem_append.mp he with he | he
          · exact hP e he
          · rw [List.mem_singleton.mp he]; exact hu
        have hfo' : ∀ o' ∈ fs, o' = [] ∨ ∃ e ∈ es ++ [En.mk (o ++ [v]) mk u], e.w = o' ∧ e.m = Str.ofString "folder" := fun o' ho' => (hfo o' ho').imp_right fun ⟨e, he, q⟩ => ⟨e, List.mem_append_left _ he, q⟩
        by_cases h3 : mk = Str.ofString "folder"
        · subst h3
          have hap : appT (.L (fs.map Wy)) (.imm (Wy (o ++ [v]))) = some (.L ((fs ++ [o ++ [v]]).map Wy)) := by
            rw [appT_L (by rw [sizeLine_eq]; simp; omega)]; simp
          refine ⟨_, by simp only [eVs0, eVs1, eVs2, eVs3, eVs4, eVs5, eVs6, eVs7, O.of_ok, O.of_ex, isVar, initE, List.length_map, List.map_cons, List.map_nil, List.length_cons, List.length_nil, List.replicate_succ, List.replicate_zero, List.cons_append, List.nil_append, List.getElem?_cons_zero, List.getElem?_cons_succ, List.set_cons_zero, List.set_cons_succ, Bool.or_true, Bool.true_or, Bool.or_false, Bool.false_or, Bool.and_true, Bool.true_and, Bool.not_true, Bool.not_false, Bool.not_not, if_true, if_false, decide_true, decide_false, Bool.false_eq_true, Bool.true_eq_false, reduceIte, reduceCtorEq, Nat.reduceSub, Nat.reduceAdd, Int.reduceLT, Int.reduceEq, Int.reduceNeg, Int.reduceLE, Int.reducePow, Nat.reduceAdd, eq_self, and_self, and_true, true_and, not_true, not_false_eq_true, uVs0, uVs1, hk, h2, e3, ed, eu, hp, hap] <;> rfl, _, hD', hP', by simp; omega, fs ++ [o ++ [v]], by simp, by simp; omega, fun o' ho' => ?_, _, _, _, _, rfl⟩
          rcases List.mem_append.mp ho' with ho' | ho'
          · exact hfo' o' ho'
          · rw [List.mem_singleton.mp ho']
            exact .inr ⟨_, List.mem_append_right _ (List.mem_singleton.mpr rfl), rfl, rfl⟩
        · exact ⟨_, by simp only [eVs0, eVs1, eVs2, eVs3, eVs4, eVs5, eVs6, eVs7, O.of_ok, O.of_ex, isVar, initE, List.length_map, List.map_cons, List.map_nil, List.length_cons, List.length_nil, List.replicate_succ, List.replicate_zero, List.cons_append, List.nil_append, List.getElem?_cons_zero, List.getElem?_cons_succ, List.set_cons_zero, List.set_cons_succ, Bool.or_true, Bool.true_or, Bool.or_false, Bool.false_or, Bool.and_true, Bool.true_and, Bool.not_true, Bool.not_false, Bool.not_not, if_true, if_false, decide_true, decide_false, Bool.false_eq_true, Bool.true_eq_false, reduceIte, reduceCtorEq, Nat.reduceSub, Nat.reduceAdd, Int.reduceLT, Int.reduceEq, Int.reduceNeg, Int.reduceLE, Int.reducePow, Nat.reduceAdd, eq_self, and_self, and_true, true_and, not_true, not_false_eq_true, uVs0, uVs1, hk, h2, e3, ed, eu, hp, h3] <;> rfl, _, hD', hP', by simp; omega, fs, hfs, by simp; omega, hfo', _, _, _, _, rfl⟩
      · exact ⟨_, by simp only [eVs0, eVs1, eVs2, eVs3, eVs4, eVs5, eVs6, eVs7, O.of_ok, O.of_ex, isVar, initE, List.length_map, List.map_cons, List.map_nil, List.length_cons, List.length_nil, List.replicate_succ, List.replicate_zero, List.cons_append, List.nil_append, List.getElem?_cons_zero, List.getElem?_cons_succ, List.set_cons_zero, List.set_cons_succ, Bool.or_true, Bool.true_or, Bool.or_false, Bool.false_or, Bool.and_true, Bool.true_and, Bool.not_true, Bool.not_false, Bool.not_not, if_true, if_false, decide_true, decide_false, Bool.false_eq_true, Bool.true_eq_false, reduceIte, reduceCtorEq, Nat.reduceSub, Nat.reduceAdd, Int.reduceLT, Int.reduceEq, Int.reduceNeg, Int.reduceLE, Int.reducePow, Nat.reduceAdd, eq_self, and_self, and_true, true_and, not_true, not_false_eq_true, uVs0, uVs1, hk, h2] <;> rfl, es, hD, hP, by simp; omega, fs, hfs, by simp; omega, hfo, _, _, _, _, rfl⟩
  · rintro ρ' ⟨es, hD, hP, hle, fs, hfs, hfl, hfo, u0, u1, u2, u3, rfl⟩
    refine ⟨es, hD, hP, hle, ?_⟩
    have hs : biR .sorted [T.L ((es.map En.w).map Wy)] = .ok (.L ((byWay es).map fun e => Wy e.w)) := by
      rw [← byWay_ways]
      exact bi_sorted kids_L (sortB_wys (by rw [List.length_map, sizeLine_eq]; omega) fun a ha => by
        obtain ⟨e, he, rfl⟩ := List.mem_map.mp ha
        exact (hD.ne e he).1)
    have hkeys : (enM es).map (fun p => Wy p.1) = (es.map En.w).map Wy := by rw [← enM_keys, List.map_map]; rfl
    simp only [eVs0, eVs1, eVs2, eVs3, eVs4, eVs5, eVs6, eVs7, O.of_ok, O.of_ex, isVar, initE, List.length_map, List.map_cons, List.map_nil, List.length_cons, List.length_nil, List.replicate_succ, List.replicate_zero, List.cons_append, List.nil_append, List.getElem?_cons_zero, List.getElem?_cons_succ, List.set_cons_zero, List.set_cons_succ, Bool.or_true, Bool.true_or, Bool.or_false, Bool.false_or, Bool.and_true, Bool.true_and, Bool.not_true, Bool.not_false, Bool.not_not, if_true, if_false, decide_true, decide_false, Bool.false_eq_true, Bool.true_eq_false, reduceIte, reduceCtorEq, Nat.reduceSub, Nat.reduceAdd, Int.reduceLT, Int.reduceEq, Int.reduceNeg, Int.reduceLE, Int.reducePow, Nat.reduceAdd, eq_self, and_self, and_true, true_and, not_true, not_false_eq_true, uVs0, uVs1, hkeys, hs]
    rw [lcI_ok (by simp)]
    rw [lc_mapA (f := fun e : En => Wy e.w) (g := En.d) (as := byWay es) (fun e he => ?_) (by rw [(byWay_perm es).length_eq]; omega)]
    · simp only [eVs0, eVs1, eVs2, eVs3, eVs4, eVs5, eVs6, eVs7, O.of_ok, O.of_ex, isVar, initE, List.length_map, List.map_cons, List.map_nil, List.length_cons, List.length_nil, List.replicate_succ, List.replicate_zero, List.cons_append, List.nil_append, List.getElem?_cons_zero, List.getElem?_cons_succ, List.set_cons_zero, List.set_cons_succ, Bool.or_true, Bool.true_or, Bool.or_false, Bool.false_or, Bool.and_true, Bool.true_and, Bool.not_true, Bool.not_false, Bool.not_not, if_true, if_false, decide_true, decide_false, Bool.false_eq_true, Bool.true_eq_false, reduceIte, reduceCtorEq, Nat.reduceSub, Nat.reduceAdd, Int.reduceLT, Int.reduceEq, Int.reduceNeg, Int.reduceLE, Int.reducePow, Nat.reduceAdd, eq_self, and_self, and_true, true_and, not_true, not_false_eq_true, uVs0, uVs1]
    · have hl := enM_look hD.nd ((byWay_perm es).mem_iff.mp he)
      unfold En.th at hl
      simp only [eVs0, eVs1, eVs2, eVs3, eVs4, eVs5, eVs6, eVs7, O.of_ok, O.of_ex, isVar, initE, List.length_map, List.map_cons, List.map_nil, List.length_cons, List.length_nil, List.replicate_succ, List.replicate_zero, List.cons_append, List.nil_append, List.getElem?_cons_zero, List.getElem?_cons_succ, List.set_cons_zero, List.set_cons_succ, Bool.or_true, Bool.true_or, Bool.or_false, Bool.false_or, Bool.and_true, Bool.true_and, Bool.not_true, Bool.not_false, Bool.not_not, if_true, if_false, decide_true, decide_false, Bool.false_eq_true, Bool.true_eq_false, reduceIte, reduceCtorEq, Nat.reduceSub, Nat.reduceAdd, Int.reduceLT, Int.reduceEq, Int.reduceNeg, Int.reduceLE, Int.reducePow, Nat.reduceAdd, eq_self, and_self, and_true, true_and, not_true, not_false_eq_true, uVs0, uVs1, ix_TW hl, add_th]
theorem t_tree97 {x y z k : Nat} (hx : ds[x]? = some tMixed) (hy : ds[y]? = some tNameDa) (hf : ds[f]? = some (tTree97 x y z)) (Px : Str → Str → Prop)
    (ht : ∀ (mk : Str) (c s : Int) (w : Nat), 0 < w → ∃ u : Str, Px mk u ∧ evF ds fl (n + k + 1) z [.imm (.str mk), .imm (.int c), .imm (.int s), .imm (.int (w : Int))] = .ok (.imm (.str u))) (cs : List Int) (hc : cs.length ≤ 1000) (s : Int) :
    ∃ es : List En, Drawn 15 es ∧ (∀ e ∈ es, Px e.m e.t) ∧ es.length ≤ cs.length ∧ evF ds fl (n + k + 2) f [.imm (.list (cs.map .int)), .imm (.int s)] = .ok (.L ((byWay es).map En.d)) := t_tree97n (nm := "_law_cells") hx hy hf Px ht cs hc s
/-! ### parts -/
def tPart (u : Nat) : Df := ⟨"part", 2, ["tree", "way", "entry"], [.ret (.lc 2 (.var 0) (.tup [(.slc (.idx (.var 2) (.cst (.int 0))) (some (.bi .len [(.var 1)])) none), (.idx (.var 2) (.cst (.int 1))), (.idx (.var 2) (.cst (.int 2)))]) (some (.call u [(.idx (.var 2) (.cst (.int 0))), (.var 1)])))]⟩
def tWithout (u : Nat) : Df := ⟨"without", 2, ["tree", "way", "entry"], [.ret (.lc 2 (.var 0) (.var 2) (some (.bop true [(.cmp .NotEq (.idx (.var 2) (.cst (.int 0))) (.var 1)), (.not (.call u [(.idx (.var 2) (.cst (.int 0))), (.var 1)]))])))]⟩
/-- whether a way lies under another -/
def under (a b : List Str) : Bool := decide (b.length < a.length ∧ a.take b.length = b)
def part (es : List En) (w : List Str) : List En := (es.filter fun e => under e.w w).map fun e => ⟨e.w.drop w.length, e.m, e.t⟩
def without (es : List En) (w : List Str) : List En := es.filter fun e => !decide (e.w = w) && !under e.w w
theorem t_part {u : Nat} (hu : ds[u]? = some tUnder) (hf : ds[f]? = some (tPart u)) (es : List En) (h : es.length ≤ 16777216) (w : List Str) : evF ds fl (n + 2) f [.imm (Tr es), .imm (Wy w)] = .ok (.L ((part es w).map En.d)) := by
  rw [evF_succ hf]
  simp only [tPart]
  simp only [eVs0, eVs1, eVs2, eVs3, eVs4, eVs5, eVs6, eVs7, O.of_ok, O.of_ex, isVar, initE, List.length_map, List.map_cons, List.map_nil, List.length_cons, List.length_nil, List.replicate_succ, List.replicate_zero, List.cons_append, List.nil_append, List.getElem?_cons_zero, List.getElem?_cons_succ, List.set_cons_zero, List.set_cons_succ, Bool.or_true, Bool.true_or, Bool.or_false, Bool.false_or, Bool.and_true, Bool.true_and, Bool.not_true, Bool.not_false, Bool.not_not, if_true, if_false, decide_true, decide_false, Bool.false_eq_true, Bool.true_eq_false, reduceIte, reduceCtorEq, Nat.reduceSub, Nat.reduceAdd, Int.reduceLT, Int.reduceEq, Int.reduceNeg, Int.reduceLE, Int.reducePow, Nat.reduceAdd, eq_self, and_self, and_true, true_and, not_true, not_false_eq_true, uVs0, uVs1]
  rw [lcI_ok (by simp), lc_filA (f := En.d) (p := fun e => under e.w w) (g := fun e => (En.mk (e.w.drop w.length) e.m e.t).d) (fun e he => ?_) h]
  · have : (es.filter fun e => under e.w w).map (fun e => (En.mk (e.w.drop w.length) e.m e.t).d) = (part es w).map En.d := by unfold part; rw [List.map_map]; rfl
    rw [this]
    simp only [eVs0, eVs1, eVs2, eVs3, eVs4, eVs5, eVs6, eVs7, O.of_ok, O.of_ex, isVar, initE, List.length_map, List.map_cons, List.map_nil, List.length_cons, List.length_nil, List.replicate_succ, List.replicate_zero, List.cons_append, List.nil_append, List.getElem?_cons_zero, List.getElem?_cons_succ, List.set_cons_zero, List.set_cons_succ, Bool.or_true, Bool.true_or, Bool.or_false, Bool.false_or, Bool.and_true, Bool.true_and, Bool.not_true, Bool.not_false, Bool.not_not, if_true, if_false, decide_true, decide_false, Bool.false_eq_true, Bool.true_eq_false, reduceIte, reduceCtorEq, Nat.reduceSub, Nat.reduceAdd, Int.reduceLT, Int.reduceEq, Int.reduceNeg, Int.reduceLE, Int.reducePow, Nat.reduceAdd, eq_self, and_self, and_true, true_and, not_true, not_false_eq_true, uVs0, uVs1]
  · have hh := t_under (ds := ds) (fl := fl) (n := n) hu e.w w
    rw [show decide (w.length < e.w.length ∧ e.w.take w.length = w) = under e.w w from rfl] at hh
    cases hb : under e.w w
    · rw [hb] at hh
      simp only [eVs0, eVs1, eVs2, eVs3, eVs4, eVs5, eVs6, eVs7, O.of_ok, O.of_ex, isVar, initE, List.length_map, List.map_cons, List.map_nil, List.length_cons, List.length_nil, List.replicate_succ, List.replicate_zero, List.cons_append, List.nil_append, List.getElem?_cons_zero, List.getElem?_cons_succ, List.set_cons_zero, List.set_cons_succ, Bool.or_true, Bool.true_or, Bool.or_false, Bool.false_or, Bool.and_true, Bool.true_and, Bool.not_true, Bool.not_false, Bool.not_not, if_true, if_false, decide_true, decide_false, Bool.false_eq_true, Bool.true_eq_false, reduceIte, reduceCtorEq, Nat.reduceSub, Nat.reduceAdd, Int.reduceLT, Int.reduceEq, Int.reduceNeg, Int.reduceLE, Int.reducePow, Nat.reduceAdd, eq_self, and_self, and_true, true_and, not_true, not_false_eq_true, uVs0, uVs1, hh, if_neg]
    · rw [hb] at hh
      simp only [eVs0, eVs1, eVs2, eVs3, eVs4, eVs5, eVs6, eVs7, O.of_ok, O.of_ex, isVar, initE, List.length_map, List.map_cons, List.map_nil, List.length_cons, List.length_nil, List.replicate_succ, List.replicate_zero, List.cons_append, List.nil_append, List.getElem?_cons_zero, List.getElem?_cons_succ, List.set_cons_zero, List.set_cons_succ, Bool.or_true, Bool.true_or, Bool.or_false, Bool.false_or, Bool.and_true, Bool.true_and, Bool.not_true, Bool.not_false, Bool.not_not, if_true, if_false, decide_true, decide_false, Bool.false_eq_true, Bool.true_eq_false, reduceIte, reduceCtorEq, Nat.reduceSub, Nat.reduceAdd, Int.reduceLT, Int.reduceEq, Int.reduceNeg, Int.reduceLE, Int.reducePow, Nat.reduceAdd, eq_self, and_self, and_true, true_and, not_true, not_false_eq_true, uVs0, uVs1, hh, slc_wy, cut_from, if_pos]
theorem t_without {u : Nat} (hu : ds[u]? = some tUnder) (hf : ds[f]? = some (tWithout u)) (es : List En) (h : es.length ≤ 16777216) (w : List Str) : evF ds fl (n + 2) f [.imm (Tr es), .imm (Wy w)] = .ok (.L ((without es w).map En.d)) := by
  rw [evF_succ hf]
  simp only [tWithout]
  simp only [eVs0, eVs1, eVs2, eVs3, eVs4, eVs5, eVs6, eVs7, O.of_ok, O.of_ex, isVar, initE, List.length_map, List.map_cons, List.map_nil, List.length_cons, List.length_nil, List.replicate_succ, List.replicate_zero, List.cons_append, List.nil_append, List.getElem?_cons_zero, List.getElem?_cons_succ, List.set_cons_zero, List.set_cons_succ, Bool.or_true, Bool.true_or, Bool.or_false, Bool.false_or, Bool.and_true, Bool.true_and, Bool.not_true, Bool.not_false, Bool.not_not, if_true, if_false, decide_true, decide_false, Bool.false_eq_true, Bool.true_eq_false, reduceIte, reduceCtorEq, Nat.reduceSub, Nat.reduceAdd, Int.reduceLT, Int.reduceEq, Int.reduceNeg, Int.reduceLE, Int.reducePow, Nat.reduceAdd, eq_self, and_self, and_true, true_and, not_true, not_false_eq_true, uVs0, uVs1]
  rw [lcI_ok (by simp), lc_filA (f := En.d) (p := fun e => !decide (e.w = w) && !under e.w w) (g := En.d) (fun e he => ?_) h]
  · simp only [eVs0, eVs1, eVs2, eVs3, eVs4, eVs5, eVs6, eVs7, O.of_ok, O.of_ex, isVar, initE, List.length_map, List.map_cons, List.map_nil, List.length_cons, List.length_nil, List.replicate_succ, List.replicate_zero, List.cons_append, List.nil_append, List.getElem?_cons_zero, List.getElem?_cons_succ, List.set_cons_zero, List.set_cons_succ, Bool.or_true, Bool.true_or, Bool.or_false, Bool.false_or, Bool.and_true, Bool.true_and, Bool.not_true, Bool.not_false, Bool.not_not, if_true, if_false, decide_true, decide_false, Bool.false_eq_true, Bool.true_eq_false, reduceIte, reduceCtorEq, Nat.reduceSub, Nat.reduceAdd, Int.reduceLT, Int.reduceEq, Int.reduceNeg, Int.reduceLE, Int.reducePow, Nat.reduceAdd, eq_self, and_self, and_true, true_and, not_true, not_false_eq_true, uVs0, uVs1]
    rfl
  · have hh := t_under (ds := ds) (fl := fl) (n := n) hu e.w w
    rw [show decide (w.length < e.w.length ∧ e.w.take w.length = w) = under e.w w from rfl] at hh
    by_cases h1 : e.w = w
    · simp only [eVs0, eVs1, eVs2, eVs3, eVs4, eVs5, eVs6, eVs7, O.of_ok, O.of_ex, isVar, initE, List.length_map, List.map_cons, List.map_nil, List.length_cons, List.length_nil, List.replicate_succ, List.replicate_zero, List.cons_append, List.nil_append, List.getElem?_cons_zero, List.getElem?_cons_succ, List.set_cons_zero, List.set_cons_succ, Bool.or_true, Bool.true_or, Bool.or_false, Bool.false_or, Bool.and_true, Bool.true_and, Bool.not_true, Bool.not_false, Bool.not_not, if_true, if_false, decide_true, decide_false, Bool.false_eq_true, Bool.true_eq_false, reduceIte, reduceCtorEq, Nat.reduceSub, Nat.reduceAdd, Int.reduceLT, Int.reduceEq, Int.reduceNeg, Int.reduceLE, Int.reducePow, Nat.reduceAdd, eq_self, and_self, and_true, true_and, not_true, not_false_eq_true, uVs0, uVs1, h1, if_neg]
      rfl
    · cases hb : under e.w w
      · rw [hb] at hh
        simp only [eVs0, eVs1, eVs2, eVs3, eVs4, eVs5, eVs6, eVs7, O.of_ok, O.of_ex, isVar, initE, List.length_map, List.map_cons, List.map_nil, List.length_cons, List.length_nil, List.replicate_succ, List.replicate_zero, List.cons_append, List.nil_append, List.getElem?_cons_zero, List.getElem?_cons_succ, List.set_cons_zero, List.set_cons_succ, Bool.or_true, Bool.true_or, Bool.or_false, Bool.false_or, Bool.and_true, Bool.true_and, Bool.not_true, Bool.not_false, Bool.not_not, if_true, if_false, decide_true, decide_false, Bool.false_eq_true, Bool.true_eq_false, reduceIte, reduceCtorEq, Nat.reduceSub, Nat.reduceAdd, Int.reduceLT, Int.reduceEq, Int.reduceNeg, Int.reduceLE, Int.reducePow, Nat.reduceAdd, eq_self, and_self, and_true, true_and, not_true, not_false_eq_true, uVs0, uVs1, h1, hh, if_pos]
      · rw [hb] at hh
        simp only [eVs0, eVs1, eVs2, eVs3, eVs4, eVs5, eVs6, eVs7, O.of_ok, O.of_ex, isVar, initE, List.length_map, List.map_cons, List.map_nil, List.length_cons, List.length_nil, List.replicate_succ, List.replicate_zero, List.cons_append, List.nil_append, List.getElem?_cons_zero, List.getElem?_cons_succ, List.set_cons_zero, List.set_cons_succ, Bool.or_true, Bool.true_or, Bool.or_false, Bool.false_or, Bool.and_true, Bool.true_and, Bool.not_true, Bool.not_false, Bool.not_not, if_true, if_false, decide_true, decide_false, Bool.false_eq_true, Bool.true_eq_false, reduceIte, reduceCtorEq, Nat.reduceSub, Nat.reduceAdd, Int.reduceLT, Int.reduceEq, Int.reduceNeg, Int.reduceLE, Int.reducePow, Nat.reduceAdd, eq_self, and_self, and_true, true_and, not_true, not_false_eq_true, uVs0, uVs1, h1, hh, if_neg]
/-! ### names by the whole range -/
def tNameEc : Df := ⟨"_law_name_by", 1, ["_law_cell", "_law_some", "_law_drawn", "_law_mixed", "_law_free", "_law_signs", "_law_k"], [.asg 1 (.cst (.str "abcdefghijklmnopqrstuvwxyz0123456789")), .asg 2 (.bin .Mod (.var 0) (.bin .Pow (.cst (.int 10)) (.cst (.int 30)))), .asg 3 (.bin .Mult (.var 2) (.cst (.int 48271))), .asg 4 (.bin .Mod (.bin .FloorDiv (.bin .Mod (.var 3) (.cst (.int 1000003))) (.cst (.int 7))) (.cst (.int 2))), .asg 5 (.lst []), .frR 6 none (.bin .Add (.cst (.int 1)) (.bin .Mod (.var 2) (.cst (.int 12)))) [.app 5 (.idx (.var 1) (.bin .Mod (.var 3) (.cst (.int 36)))), .asg 3 (.bin .FloorDiv (.var 3) (.bin .Add (.cst (.int 1)) (.bin .Mult (.cst (.int 35)) (.var 4))))], .iff (.cmp .Eq (.var 4) (.cst (.int 0))) [.put 5 (.bin .Mod (.bin .FloorDiv (.var 2) (.cst (.int 12))) (.bi .len [(.var 5)])) (.idx (.var 1) (.bin .Mod (.bin .FloorDiv (.var 2) (.cst (.int 5))) (.cst (.int 36))))] [], .ret (.mth (.cst (.str "")) .join [(.var 5)])]⟩
theorem t_nameEc (hf : ds[f]? = some tNameEc) (c : Int) : ∃ x : Str, Nm x ∧ evF ds fl (n + 1) f [.imm (.int c)] = .ok (.imm (.str x)) := by
  have eSG : Str.ofString "abcdefghijklmnopqrstuvwxyz0123456789" = SG := rfl
  have hp : binR .Pow (.imm (.int 10)) (.imm (.int 30)) = .ok (.imm (.int (10 ^ 30))) := r_pow_int ⟨by decide, by decide, by decide⟩
  rw [evF_succ hf]
  simp only [tNameEc]
  simp only [eVs0, eVs1, eVs2, eVs3, eVs4, eVs5, eVs6, eVs7, O.of_ok, O.of_ex, isVar, initE, List.length_map, List.map_cons, List.map_nil, List.length_cons, List.length_nil, List.replicate_succ, List.replicate_zero, List.cons_append, List.nil_append, List.getElem?_cons_zero, List.getElem?_cons_succ, List.set_cons_zero, List.set_cons_succ, Bool.or_true, Bool.true_or, Bool.or_false, Bool.false_or, Bool.and_true, Bool.true_and, Bool.not_true, Bool.not_false, Bool.not_not, if_true, if_false, decide_true, decide_false, Bool.false_eq_true, Bool.true_eq_false, reduceIte, reduceCtorEq, Nat.reduceSub, Nat.reduceAdd, Int.reduceLT, Int.reduceEq, Int.reduceNeg, Int.reduceLE, Int.reducePow, Nat.reduceAdd, eq_self, and_self, and_true, true_and, not_true, not_false_eq_true, uVs0, uVs1, hp, eSG]
  generalize c % 1000000000000000000000000000000 = dr
  have hmul := r_mul_r (i := dr) (j := 48271) (by decide) (by decide)
  obtain ⟨m, hm, hm1, hm2⟩ : ∃ m : Nat, 1 + dr % 12 = (m : Int) ∧ 0 < m ∧ m ≤ 12 := ⟨(1 + dr % 12).toNat, by omega, by omega, by omega⟩
  obtain ⟨fr, hfr, efr⟩ : ∃ fr : Int, (fr = 0 ∨ fr = 1) ∧ dr * 48271 % 1000003 / 7 % 2 = fr := ⟨_, by omega, rfl⟩
  simp only [eVs0, eVs1, eVs2, eVs3, eVs4, eVs5, eVs6, eVs7, O.of_ok, O.of_ex, isVar, initE, List.length_map, List.map_cons, List.map_nil, List.length_cons, List.length_nil, List.replicate_succ, List.replicate_zero, List.cons_append, List.nil_append, List.getElem?_cons_zero, List.getElem?_cons_succ, List.set_cons_zero, List.set_cons_succ, Bool.or_true, Bool.true_or, Bool.or_false, Bool.false_or, Bool.and_true, Bool.true_and, Bool.not_true, Bool.not_false, Bool.not_not, if_true, if_false, decide_true, decide_false, Bool.false_eq_true, Bool.true_eq_false, reduceIte, reduceCtorEq, Nat.reduceSub, Nat.reduceAdd, Int.reduceLT, Int.reduceEq, Int.reduceNeg, Int.reduceLE, Int.reducePow, Nat.reduceAdd, eq_self, and_self, and_true, true_and, not_true, not_false_eq_true, uVs0, uVs1, hmul, efr, hm]
  rw [rng0 (by omega)]
  simp only [eVs0, eVs1, eVs2, eVs3, eVs4, eVs5, eVs6, eVs7, O.of_ok, O.of_ex, isVar, initE, List.length_map, List.map_cons, List.map_nil, List.length_cons, List.length_nil, List.replicate_succ, List.replicate_zero, List.cons_append, List.nil_append, List.getElem?_cons_zero, List.getElem?_cons_succ, List.set_cons_zero, List.set_cons_succ, Bool.or_true, Bool.true_or, Bool.or_false, Bool.false_or, Bool.and_true, Bool.true_and, Bool.not_true, Bool.not_false, Bool.not_not, if_true, if_false, decide_true, decide_false, Bool.false_eq_true, Bool.true_eq_false, reduceIte, reduceCtorEq, Nat.reduceSub, Nat.reduceAdd, Int.reduceLT, Int.reduceEq, Int.reduceNeg, Int.reduceLE, Int.reducePow, Nat.reduceAdd, eq_self, and_self, and_true, true_and, not_true, not_false_eq_true, uVs0, uVs1]
  refine forB_rng (fun o => ∃ x : Str, Nm x ∧ outR (o.seq _) = Rs.ok (T.imm (PyData.str x)))
    (fun k ρ => ∃ gs : List Nat, gs.length = k ∧ (∀ g ∈ gs, g ∈ SG.cps.toList) ∧ ∃ (mx : Int) (w : Option T), ρ = [some (.imm (.int c)), some (.imm (.str SG)), some (.imm (.int dr)), some (.imm (.int mx)), some (.imm (.int fr)), some (.L (ones gs)), w]) ⟨[], rfl, (fun g hg => nomatch hg), _, none, rfl⟩ ?_ ?_
  · rintro k ρ hk ⟨gs, hg, hs, mx, w, rfl⟩
    obtain ⟨g, hgs, e1⟩ := sg_at mx
    have ha : appT (.L (ones gs)) (.imm (.str ⟨#[g]⟩)) = some (.L (ones (gs ++ [g]))) := by
      rw [appT_L (by rw [ones_len, sizeLine_eq]; omega), ones_app]
    have hall : ∀ g' ∈ gs ++ [g], g' ∈ SG.cps.toList := fun g' h => by
      rcases List.mem_append.mp h with h | h
      · exact hs g' h
      · rw [List.mem_singleton.mp h]; exact hgs
    rcases hfr with rfl | rfl
    · have h35 := r_mul_l (i := 35) (j := 0) (by decide) (by decide)
      exact ⟨_, by simp only [eVs0, eVs1, eVs2, eVs3, eVs4, eVs5, eVs6, eVs7, O.of_ok, O.of_ex, isVar, initE, List.length_map, List.map_cons, List.map_nil, List.length_cons, List.length_nil, List.replicate_succ, List.replicate_zero, List.cons_append, List.nil_append, List.getElem?_cons_zero, List.getElem?_cons_succ, List.set_cons_zero, List.set_cons_succ, Bool.or_true, Bool.true_or, Bool.or_false, Bool.false_or, Bool.and_true, Bool.true_and, Bool.not_true, Bool.not_false, Bool.not_not, if_true, if_false, decide_true, decide_false, Bool.false_eq_true, Bool.true_eq_false, reduceIte, reduceCtorEq, Nat.reduceSub, Nat.reduceAdd, Int.reduceLT, Int.reduceEq, Int.reduceNeg, Int.reduceLE, Int.reducePow, Nat.reduceAdd, eq_self, and_self, and_true, true_and, not_true, not_false_eq_true, uVs0, uVs1, e1, ha, h35] <;> rfl, gs ++ [g], by simp [hg], hall, _, _, rfl⟩
    · have h35 := r_mul_l (i := 35) (j := 1) (by decide) (by decide)
      exact ⟨_, by simp only [eVs0, eVs1, eVs2, eVs3, eVs4, eVs5, eVs6, eVs7, O.of_ok, O.of_ex, isVar, initE, List.length_map, List.map_cons, List.map_nil, List.length_cons, List.length_nil, List.replicate_succ, List.replicate_zero, List.cons_append, List.nil_append, List.getElem?_cons_zero, List.getElem?_cons_succ, List.set_cons_zero, List.set_cons_succ, Bool.or_true, Bool.true_or, Bool.or_false, Bool.false_or, Bool.and_true, Bool.true_and, Bool.not_true, Bool.not_false, Bool.not_not, if_true, if_false, decide_true, decide_false, Bool.false_eq_true, Bool.true_eq_false, reduceIte, reduceCtorEq, Nat.reduceSub, Nat.reduceAdd, Int.reduceLT, Int.reduceEq, Int.reduceNeg, Int.reduceLE, Int.reducePow, Nat.reduceAdd, eq_self, and_self, and_true, true_and, not_true, not_false_eq_true, uVs0, uVs1, e1, ha, h35] <;> rfl, gs ++ [g], by simp [hg], hall, _, _, rfl⟩
  · rintro ρ' ⟨gs, hg, hs, mx, w, rfl⟩
    have hn : ∀ gs : List Nat, gs.length = m → (∀ g ∈ gs, g ∈ SG.cps.toList) → Nm ⟨gs.toArray⟩ := fun gs hg hs => ⟨by rw [len_mk]; omega, by rw [len_mk]; omega, by simpa using hs⟩
    have hj : ∀ gs : List Nat, gs.length = m → mtT .join (.imm (.str (Str.ofString ""))) [.L (ones gs)] = some (.imm (.str ⟨gs.toArray⟩)) := fun gs h => join_ones (by omega)
    have hm0 : (0 : Int) < m := by omega
    by_cases h0 : fr = 0
    · obtain ⟨q, hq, eq⟩ := mod_nat0 (dr / 12) hm1
      obtain ⟨g, hgs, e1⟩ := sg_at (dr / 5)
      have hput : putT (.L (ones gs)) (.int (q : Int)) (.imm (.str ⟨#[g]⟩)) = some (.L (ones (gs.set q g))) := by
        rw [putT_L (n := q) (by rw [ones_len, ixD_in (by omega) (by omega)]; rfl), ones_set]
      refine ⟨_, hn (gs.set q g) (by rw [List.length_set]; exact hg) (fun g' h => ?_), ?_⟩
      · rcases List.mem_or_eq_of_mem_set h with h | h
        · exact hs g' h
        · rw [h]; exact hgs
      · simp only [eVs0, eVs1, eVs2, eVs3, eVs4, eVs5, eVs6, eVs7, O.of_ok, O.of_ex, isVar, initE, List.length_map, List.map_cons, List.map_nil, List.length_cons, List.length_nil, List.replicate_succ, List.replicate_zero, List.cons_append, List.nil_append, List.getElem?_cons_zero, List.getElem?_cons_succ, List.set_cons_zero, List.set_cons_succ, Bool.or_true, Bool.true_or, Bool.or_false, Bool.false_or, Bool.and_true, Bool.true_and, Bool.not_true, Bool.not_false, Bool.not_not, if_true, if_false, decide_true, decide_false, Bool.false_eq_true, Bool.true_eq_false, reduceIte, reduceCtorEq, Nat.reduceSub, Nat.reduceAdd, Int.reduceLT, Int.reduceEq, Int.reduceNeg, Int.reduceLE, Int.reducePow, Nat.reduceAdd, eq_self, and_self, and_true, true_and, not_true, not_false_eq_true, uVs0, uVs1, h0, ones_len, hg, hm0, eq, e1, hput, mth_str, hj (gs.set q g) (by rw [List.length_set]; exact hg)]
    · refine ⟨_, hn gs hg hs, ?_⟩
      simp only [eVs0, eVs1, eVs2, eVs3, eVs4, eVs5, eVs6, eVs7, O.of_ok, O.of_ex, isVar, initE, List.length_map, List.map_cons, List.map_nil, List.length_cons, List.length_nil, List.replicate_succ, List.replicate_zero, List.cons_append, List.nil_append, List.getElem?_cons_zero, List.getElem?_cons_succ, List.set_cons_zero, List.set_cons_succ, Bool.or_true, Bool.true_or, Bool.or_false, Bool.false_or, Bool.and_true, Bool.true_and, Bool.not_true, Bool.not_false, Bool.not_not, if_true, if_false, decide_true, decide_false, Bool.false_eq_true, Bool.true_eq_false, reduceIte, reduceCtorEq, Nat.reduceSub, Nat.reduceAdd, Int.reduceLT, Int.reduceEq, Int.reduceNeg, Int.reduceLE, Int.reducePow, Nat.reduceAdd, eq_self, and_self, and_true, true_and, not_true, not_false_eq_true, uVs0, uVs1, h0, hj gs hg]
end
end Gl

set_option Elab.async false
set_option linter.all false
set_option maxRecDepth 100000
set_option maxHeartbeats 4000000
/-! GlX: defs that many laws share: panes. -/
namespace Gl
open PySem L2
theorem c_in_str2 {x a b : Str} : cmpR .In (.imm (.str x)) (.imm (.tuple [.str a, .str b])) = .ok (.imm (.bool (decide (x = a) || decide (x = b)))) := by
  have : cmpIn (.imm (.str x)) (.imm (.tuple [.str a, .str b])) = some (decide (x = a) || decide (x = b)) := by
    simp only [cmpIn, T.kids, cmpInS, T.dat, PyData.depth, Nat.zero_le, if_true]
    simp only [List.any_cons, List.any_nil, PyData.eqv, Bool.or_false, W.beq_decide]
    rw [show decide (a = x) = decide (x = a) from by simp [eq_comm], show decide (b = x) = decide (x = b) from by simp [eq_comm]]
  simp only [cmpR, cmpT, this]
theorem notIn_str2 {x a b : Str} : cmpR .NotIn (.imm (.str x)) (.imm (.tuple [.str a, .str b])) = .ok (.imm (.bool (!(decide (x = a) || decide (x = b))))) := by
  have : cmpIn (.imm (.str x)) (.imm (.tuple [.str a, .str b])) = some (decide (x = a) || decide (x = b)) := by
    simp only [cmpIn, T.kids, cmpInS, T.dat, PyData.depth, Nat.zero_le, if_true]
    simp only [List.any_cons, List.any_nil, PyData.eqv, Bool.or_false, W.beq_decide]
    rw [show decide (a = x) = decide (x = a) from by simp [eq_comm], show decide (b = x) = decide (x = b) from by simp [eq_comm]]
  simp only [cmpR, cmpT, this, onot]
theorem c_in_th {x a b : Str} : cmpR .In (.imm (.str x)) (.imm (Th a b)) = .ok (.imm (.bool (decide (x = a) || decide (x = b)))) := c_in_str2
theorem notIn_th {x a b : Str} : cmpR .NotIn (.imm (.str x)) (.imm (Th a b)) = .ok (.imm (.bool (!(decide (x = a) || decide (x = b))))) := notIn_str2
theorem isi_bint {i : Int} : isiR .bool (.imm (.int i)) = .ok (.imm (.bool false)) := rfl
theorem look_enM {es : List En} {w : List Str} : look (enM es) w = (es.find? fun e => decide (e.w = w)).map En.th := by
  induction es with
  | nil => rfl
  | cons e es ih =>
    unfold enM at ih ⊢
    rw [List.map_cons, look_cons, List.find?_cons, ih]
    by_cases h : e.w = w
    · rw [if_pos h, decide_eq_true h]; rfl
    · rw [if_neg h, decide_eq_false h]
theorem byW_enM {es : List En} (nd : (es.map En.w).Nodup) : byW es = enM es := byW_eq nd
/-- is there an entry with a mark at a beginning of the way -/
def over (es : List En) (p : Str → Bool) (w : List Str) : Bool := (List.range w.length).any fun k => es.any fun e => decide (e.w = w.take k) && p e.m
theorem find_any {es : List En} (nd : (es.map En.w).Nodup) {p : Str → Bool} {w : List Str} : (es.any fun e => decide (e.w = w) && p e.m) = match es.find? (fun e => decide (e.w = w)) with | some e => p e.m | none => false := by
  cases hf : es.find? (fun e => decide (e.w = w)) with
  | none =>
    rw [List.any_eq_false]
    intro e he
    have := List.find?_eq_none.mp hf e he
    simp at this
    simp [this]
  | some e =>
    have h1 := List.find?_some hf
    have h2 := List.mem_of_find?_eq_some hf
    simp only [decide_eq_true_eq] at h1
    dsimp only
    cases hp : p e.m
    · rw [List.any_eq_false]
      intro e' he'
      by_cases h : e'.w = w
      · have : e' = e := by
          have := (List.pairwise_iff_getElem.mp (List.pairwise_map.mp nd))
          obtain ⟨i, hi, rfl⟩ := List.mem_iff_getElem.mp he'
          obtain ⟨j, hj, rfl⟩ := List.mem_iff_getElem.mp h2
          rcases Nat.lt_trichotomy i j with q | q | q
          · exact absurd (h.trans h1.symm) (this i j hi hj q)
          · subst q; rfl
          · exact absurd (h1.trans h.symm) (this j i hj hi q)
        simp [this, hp]
      · simp [h]
    · rw [List.any_eq_true]
      exact ⟨e, h2, by simp [h1, hp]⟩
section
variable {ds : List Df} {fl n f : Nat}
def tShutN (nms : List Str) : Df := ⟨"_law_under_shut", 2, nms, [.frR 2 none (.bi .len [(.var 1)]) [.iff (.bop true [(.cmp .In (.slc (.var 1) none (some (.var 2))) (.var 0)), (.cmp .Eq (.idx (.idx (.var 0) (.slc (.var 1) none (some (.var 2)))) (.cst (.int 0))) (.cst (.str "shut")))]) [.ret (.cst (.bool true))] []], .ret (.cst (.bool false))]⟩
theorem t_shutN {nms : List Str} (hn : nms.length = 3) (hf : ds[f]? = some (tShutN nms)) (es : List En) (nd : (es.map En.w).Nodup) (w : List Str) (hw : w.length ≤ 1000000) : evF ds fl (n + 1) f [FW (enM es), .imm (Wy w)] = .ok (.imm (.bool (over es (fun m => decide (m = "shut")) w))) := by
  obtain ⟨n0, n1, n2, rfl⟩ : ∃ a b c, nms = [a, b, c] := by
    match nms, hn with
    | [a, b, c], _ => exact ⟨a, b, c, rfl⟩
  rw [evF_succ hf]
  simp only [tShutN]
  simp only [eVs0, eVs1, eVs2, eVs3, eVs4, eVs5, eVs6, eVs7, O.of_ok, O.of_ex, isVar, initE, List.length_map, List.map_cons, List.map_nil, List.length_cons, List.length_nil, List.replicate_succ, List.replicate_zero, List.cons_append, List.nil_append, List.getElem?_cons_zero, List.getElem?_cons_succ, List.set_cons_zero, List.set_cons_succ, Bool.or_true, Bool.true_or, Bool.or_false, Bool.false_or, Bool.and_true, Bool.true_and, Bool.not_true, Bool.not_false, Bool.not_not, if_true, if_false, decide_true, decide_false, Bool.false_eq_true, Bool.true_eq_false, reduceIte, reduceCtorEq, Nat.reduceSub, Nat.reduceAdd, Int.reduceLT, Int.reduceEq, Int.reduceNeg, Int.reduceLE, Int.reducePow, Nat.reduceAdd, eq_self, and_self, and_true, true_and, not_true, not_false_eq_true, uVs0, uVs1]
  rw [rng0 (by omega)]
  simp only [eVs0, eVs1, eVs2, eVs3, eVs4, eVs5, eVs6, eVs7, O.of_ok, O.of_ex, isVar, initE, List.length_map, List.map_cons, List.map_nil, List.length_cons, List.length_nil, List.replicate_succ, List.replicate_zero, List.cons_append, List.nil_append, List.getElem?_cons_zero, List.getElem?_cons_succ, List.set_cons_zero, List.set_cons_succ, Bool.or_true, Bool.true_or, Bool.or_false, Bool.false_or, Bool.and_true, Bool.true_and, Bool.not_true, Bool.not_false, Bool.not_not, if_true, if_false, decide_true, decide_false, Bool.false_eq_true, Bool.true_eq_false, reduceIte, reduceCtorEq, Nat.reduceSub, Nat.reduceAdd, Int.reduceLT, Int.reduceEq, Int.reduceNeg, Int.reduceLE, Int.reducePow, Nat.reduceAdd, eq_self, and_self, and_true, true_and, not_true, not_false_eq_true, uVs0, uVs1]
  refine forB_retR (fun o => outR (o.seq _) = Rs.ok (T.imm (PyData.bool (over es (fun m => decide (m = "shut")) w)))) (fun k => !(es.any fun e => decide (e.w = w.take k) && decide (e.m = "shut"))) (.rt (.imm (.bool true))) (fun _ z => nomatch z) (fun ρ => ∃ u, ρ = [some (FW (enM es)), some (.imm (Wy w)), u]) ⟨none, rfl⟩ ?_ ?_ ?_
  · rintro k ρ hk ⟨u, rfl⟩
    have hs : slcT (.imm (Wy w)) none (some (k : Int)) = some (.imm (Wy (w.take k))) := by rw [slc_wy, cut_to]
    have hl := look_enM (es := es) (w := w.take k)
    have ha := find_any nd (p := fun m => decide (m = Str.ofString "shut")) (w := w.take k)
    cases hq : es.find? (fun e => decide (e.w = w.take k)) with
    | none =>
      rw [hq] at hl ha
      have hl : look (enM es) (w.take k) = none := hl
      refine .inl ⟨by simpa using ha, ?_⟩
      exact ⟨_, by simp only [eVs0, eVs1, eVs2, eVs3, eVs4, eVs5, eVs6, eVs7, O.of_ok, O.of_ex, isVar, initE, List.length_map, List.map_cons, List.map_nil, List.length_cons, List.length_nil, List.replicate_succ, List.replicate_zero, List.cons_append, List.nil_append, List.getElem?_cons_zero, List.getElem?_cons_succ, List.set_cons_zero, List.set_cons_succ, Bool.or_true, Bool.true_or, Bool.or_false, Bool.false_or, Bool.and_true, Bool.true_and, Bool.not_true, Bool.not_false, Bool.not_not, if_true, if_false, decide_true, decide_false, Bool.false_eq_true, Bool.true_eq_false, reduceIte, reduceCtorEq, Nat.reduceSub, Nat.reduceAdd, Int.reduceLT, Int.reduceEq, Int.reduceNeg, Int.reduceLE, Int.reducePow, Nat.reduceAdd, eq_self, and_self, and_true, true_and, not_true, not_false_eq_true, uVs0, uVs1, hs, hl, Option.isSome_none] <;> rfl, _, rfl⟩
    | some e =>
      rw [hq] at hl ha
      have hl : look (enM es) (w.take k) = some (Th e.m e.t) := hl
      dsimp only at ha
      by_cases hm : e.m = Str.ofString "shut"
      · refine .inr ⟨by rw [ha]; simp [hm], ?_⟩
        simp only [eVs0, eVs1, eVs2, eVs3, eVs4, eVs5, eVs6, eVs7, O.of_ok, O.of_ex, isVar, initE, List.length_map, List.map_cons, List.map_nil, List.length_cons, List.length_nil, List.replicate_succ, List.replicate_zero, List.cons_append, List.nil_append, List.getElem?_cons_zero, List.getElem?_cons_succ, List.set_cons_zero, List.set_cons_succ, Bool.or_true, Bool.true_or, Bool.or_false, Bool.false_or, Bool.and_true, Bool.true_and, Bool.not_true, Bool.not_false, Bool.not_not, if_true, if_false, decide_true, decide_false, Bool.false_eq_true, Bool.true_eq_false, reduceIte, reduceCtorEq, Nat.reduceSub, Nat.reduceAdd, Int.reduceLT, Int.reduceEq, Int.reduceNeg, Int.reduceLE, Int.reducePow, Nat.reduceAdd, eq_self, and_self, and_true, true_and, not_true, not_false_eq_true, uVs0, uVs1, hs, hl, Option.isSome_some, ix_FW hl, hm]
      · refine .inl ⟨by rw [ha]; simp [hm], ?_⟩
        exact ⟨_, by simp only [eVs0, eVs1, eVs2, eVs3, eVs4, eVs5, eVs6, eVs7, O.of_ok, O.of_ex, isVar, initE, List.length_map, List.map_cons, List.map_nil, List.length_cons, List.length_nil, List.replicate_succ, List.replicate_zero, List.cons_append, List.nil_append, List.getElem?_cons_zero, List.getElem?_cons_succ, List.set_cons_zero, List.set_cons_succ, Bool.or_true, Bool.true_or, Bool.or_false, Bool.false_or, Bool.and_true, Bool.true_and, Bool.not_true, Bool.not_false, Bool.not_not, if_true, if_false, decide_true, decide_false, Bool.false_eq_true, Bool.true_eq_false, reduceIte, reduceCtorEq, Nat.reduceSub, Nat.reduceAdd, Int.reduceLT, Int.reduceEq, Int.reduceNeg, Int.reduceLE, Int.reducePow, Nat.reduceAdd, eq_self, and_self, and_true, true_and, not_true, not_false_eq_true, uVs0, uVs1, hs, hl, Option.isSome_some, ix_FW hl, hm] <;> rfl, _, rfl⟩
  · rintro h ρ' ⟨u, rfl⟩
    have : over es (fun m => decide (m = "shut")) w = false := by
      unfold over
      rw [List.any_eq_false]
      intro k hk
      have := h k (List.mem_range.mp hk)
      simpa using this
    simp only [eVs0, eVs1, eVs2, eVs3, eVs4, eVs5, eVs6, eVs7, O.of_ok, O.of_ex, isVar, initE, List.length_map, List.map_cons, List.map_nil, List.length_cons, List.length_nil, List.replicate_succ, List.replicate_zero, List.cons_append, List.nil_append, List.getElem?_cons_zero, List.getElem?_cons_succ, List.set_cons_zero, List.set_cons_succ, Bool.or_true, Bool.true_or, Bool.or_false, Bool.false_or, Bool.and_true, Bool.true_and, Bool.not_true, Bool.not_false, Bool.not_not, if_true, if_false, decide_true, decide_false, Bool.false_eq_true, Bool.true_eq_false, reduceIte, reduceCtorEq, Nat.reduceSub, Nat.reduceAdd, Int.reduceLT, Int.reduceEq, Int.reduceNeg, Int.reduceLE, Int.reducePow, Nat.reduceAdd, eq_self, and_self, and_true, true_and, not_true, not_false_eq_true, uVs0, uVs1, this]
  · rintro ⟨k, hk, h⟩
    have : over es (fun m => decide (m = "shut")) w = true := by
      unfold over
      rw [List.any_eq_true]
      exact ⟨k, List.mem_range.mpr hk, by simpa using h⟩
    simp only [eVs0, eVs1, eVs2, eVs3, eVs4, eVs5, eVs6, eVs7, O.of_ok, O.of_ex, isVar, initE, List.length_map, List.map_cons, List.map_nil, List.length_cons, List.length_nil, List.replicate_succ, List.replicate_zero, List.cons_append, List.nil_append, List.getElem?_cons_zero, List.getElem?_cons_succ, List.set_cons_zero, List.set_cons_succ, Bool.or_true, Bool.true_or, Bool.or_false, Bool.false_or, Bool.and_true, Bool.true_and, Bool.not_true, Bool.not_false, Bool.not_not, if_true, if_false, decide_true, decide_false, Bool.false_eq_true, Bool.true_eq_false, reduceIte, reduceCtorEq, Nat.reduceSub, Nat.reduceAdd, Int.reduceLT, Int.reduceEq, Int.reduceNeg, Int.reduceLE, Int.reducePow, Nat.reduceAdd, eq_self, and_self, and_true, true_and, not_true, not_false_eq_true, uVs0, uVs1, this]
def tShut : Df := tShutN ["_law_things", "_law_way", "_law_k"]
theorem t_shut (hf : ds[f]? = some tShut) (es : List En) (nd : (es.map En.w).Nodup) (w : List Str) (hw : w.length ≤ 1000000) : evF ds fl (n + 1) f [FW (enM es), .imm (Wy w)] = .ok (.imm (.bool (over es (fun m => decide (m = "shut")) w))) := t_shutN rfl hf es nd w hw
def tCovered : Df := ⟨"covered", 2, ["things", "way", "k", "over"], [.frR 2 none (.bi .len [(.var 1)]) [.asg 3 (.slc (.var 1) none (some (.var 2))), .fz 3, .iff (.bop true [(.cmp .In (.var 3) (.var 0)), (.cmp .NotEq (.idx (.idx (.var 0) (.var 3)) (.cst (.int 0))) (.glb "FOLDER" (.str "folder")))]) [.ret (.cst (.bool true))] []], .ret (.cst (.bool false))]⟩
theorem t_covered (hf : ds[f]? = some tCovered) (es : List En) (nd : (es.map En.w).Nodup) (w : List Str) (hw : w.length ≤ 1000000) : evF ds fl (n + 1) f [FW (enM es), .imm (Wy w)] = .ok (.imm (.bool (over es (fun m => !decide (m = "folder")) w))) := by
  rw [evF_succ hf]
  simp only [tCovered]
  simp only [eVs0, eVs1, eVs2, eVs3, eVs4, eVs5, eVs6, eVs7, O.of_ok, O.of_ex, isVar, initE, List.length_map, List.map_cons, List.map_nil, List.length_cons, List.length_nil, List.replicate_succ, List.replicate_zero, List.cons_append, List.nil_append, List.getElem?_cons_zero, List.getElem?_cons_succ, List.set_cons_zero, List.set_cons_succ, Bool.or_true, Bool.true_or, Bool.or_false, Bool.false_or, Bool.and_true, Bool.true_and, Bool.not_true, Bool.not_false, Bool.not_not, if_true, if_false, decide_true, decide_false, Bool.false_eq_true, Bool.true_eq_false, reduceIte, reduceCtorEq, Nat.reduceSub, Nat.reduceAdd, Int.reduceLT, Int.reduceEq, Int.reduceNeg, Int.reduceLE, Int.reducePow, Nat.reduceAdd, eq_self, and_self, and_true, true_and, not_true, not_false_eq_true, uVs0, uVs1]
  rw [rng0 (by omega)]
  simp only [eVs0, eVs1, eVs2, eVs3, eVs4, eVs5, eVs6, eVs7, O.of_ok, O.of_ex, isVar, initE, List.length_map, List.map_cons, List.map_nil, List.length_cons, List.length_nil, List.replicate_succ, List.replicate_zero, List.cons_append, List.nil_append, List.getElem?_cons_zero, List.getElem?_cons_succ, List.set_cons_zero, List.set_cons_succ, Bool.or_true, Bool.true_or, Bool.or_false, Bool.false_or, Bool.and_true, Bool.true_and, Bool.not_true, Bool.not_false, Bool.not_not, if_true, if_false, decide_true, decide_false, Bool.false_eq_true, Bool.true_eq_false, reduceIte, reduceCtorEq, Nat.reduceSub, Nat.reduceAdd, Int.reduceLT, Int.reduceEq, Int.reduceNeg, Int.reduceLE, Int.reducePow, Nat.reduceAdd, eq_self, and_self, and_true, true_and, not_true, not_false_eq_true, uVs0, uVs1]
  refine forB_retR (fun o => outR (o.seq _) = Rs.ok (T.imm (PyData.bool (over es (fun m => !decide (m = "folder")) w)))) (fun k => !(es.any fun e => decide (e.w = w.take k) && !decide (e.m = "folder"))) (.rt (.imm (.bool true))) (fun _ z => nomatch z) (fun ρ => ∃ u v, ρ = [some (FW (enM es)), some (.imm (Wy w)), u, v]) ⟨none, none, rfl⟩ ?_ ?_ ?_
  · rintro k ρ hk ⟨u, v, rfl⟩
    have hs : slcT (.imm (Wy w)) none (some (k : Int)) = some (.imm (Wy (w.take k))) := by rw [slc_wy, cut_to]
    have hl := look_enM (es := es) (w := w.take k)
    have ha := find_any nd (p := fun m => !decide (m = Str.ofString "folder")) (w := w.take k)
    cases hq : es.find? (fun e => decide (e.w = w.take k)) with
    | none =>
      rw [hq] at hl ha
      have hl : look (enM es) (w.take k) = none := hl
      refine .inl ⟨by simpa using ha, ?_⟩
      exact ⟨_, by simp only [eVs0, eVs1, eVs2, eVs3, eVs4, eVs5, eVs6, eVs7, O.of_ok, O.of_ex, isVar, initE, List.length_map, List.map_cons, List.map_nil, List.length_cons, List.length_nil, List.replicate_succ, List.replicate_zero, List.cons_append, List.nil_append, List.getElem?_cons_zero, List.getElem?_cons_succ, List.set_cons_zero, List.set_cons_succ, Bool.or_true, Bool.true_or, Bool.or_false, Bool.false_or, Bool.and_true, Bool.true_and, Bool.not_true, Bool.not_false, Bool.not_not, if_true, if_false, decide_true, decide_false, Bool.false_eq_true, Bool.true_eq_false, reduceIte, reduceCtorEq, Nat.reduceSub, Nat.reduceAdd, Int.reduceLT, Int.reduceEq, Int.reduceNeg, Int.reduceLE, Int.reducePow, Nat.reduceAdd, eq_self, and_self, and_true, true_and, not_true, not_false_eq_true, uVs0, uVs1, hs, hl, Option.isSome_none] <;> rfl, _, _, rfl⟩
    | some e =>
      rw [hq] at hl ha
      have hl : look (enM es) (w.take k) = some (Th e.m e.t) := hl
      dsimp only at ha
      by_cases hm : e.m = Str.ofString "folder"
      · refine .inl ⟨by rw [ha]; simp [hm], ?_⟩
        exact ⟨_, by simp only [eVs0, eVs1, eVs2, eVs3, eVs4, eVs5, eVs6, eVs7, O.of_ok, O.of_ex, isVar, initE, List.length_map, List.map_cons, List.map_nil, List.length_cons, List.length_nil, List.replicate_succ, List.replicate_zero, List.cons_append, List.nil_append, List.getElem?_cons_zero, List.getElem?_cons_succ, List.set_cons_zero, List.set_cons_succ, Bool.or_true, Bool.true_or, Bool.or_false, Bool.false_or, Bool.and_true, Bool.true_and, Bool.not_true, Bool.not_false, Bool.not_not, if_true, if_false, decide_true, decide_false, Bool.false_eq_true, Bool.true_eq_false, reduceIte, reduceCtorEq, Nat.reduceSub, Nat.reduceAdd, Int.reduceLT, Int.reduceEq, Int.reduceNeg, Int.reduceLE, Int.reducePow, Nat.reduceAdd, eq_self, and_self, and_true, true_and, not_true, not_false_eq_true, uVs0, uVs1, hs, hl, Option.isSome_some, ix_FW hl, hm] <;> rfl, _, _, rfl⟩
      · refine .inr ⟨by rw [ha]; simp [hm], ?_⟩
        simp only [eVs0, eVs1, eVs2, eVs3, eVs4, eVs5, eVs6, eVs7, O.of_ok, O.of_ex, isVar, initE, List.length_map, List.map_cons, List.map_nil, List.length_cons, List.length_nil, List.replicate_succ, List.replicate_zero, List.cons_append, List.nil_append, List.getElem?_cons_zero, List.getElem?_cons_succ, List.set_cons_zero, List.set_cons_succ, Bool.or_true, Bool.true_or, Bool.or_false, Bool.false_or, Bool.and_true, Bool.true_and, Bool.not_true, Bool.not_false, Bool.not_not, if_true, if_false, decide_true, decide_false, Bool.false_eq_true, Bool.true_eq_false, reduceIte, reduceCtorEq, Nat.reduceSub, Nat.reduceAdd, Int.reduceLT, Int.reduceEq, Int.reduceNeg, Int.reduceLE, Int.reducePow, Nat.reduceAdd, eq_self, and_self, and_true, true_and, not_true, not_false_eq_true, uVs0, uVs1, hs, hl, Option.isSome_some, ix_FW hl, hm]
  · rintro h ρ' ⟨u, v, rfl⟩
    have : over es (fun m => !decide (m = "folder")) w = false := by
      unfold over
      rw [List.any_eq_false]
      intro k hk
      have := h k (List.mem_range.mp hk)
      simpa using this
    simp only [eVs0, eVs1, eVs2, eVs3, eVs4, eVs5, eVs6, eVs7, O.of_ok, O.of_ex, isVar, initE, List.length_map, List.map_cons, List.map_nil, List.length_cons, List.length_nil, List.replicate_succ, List.replicate_zero, List.cons_append, List.nil_append, List.getElem?_cons_zero, List.getElem?_cons_succ, List.set_cons_zero, List.set_cons_succ, Bool.or_true, Bool.true_or, Bool.or_false, Bool.false_or, Bool.and_true, Bool.true_and, Bool.not_true, Bool.not_false, Bool.not_not, if_true, if_false, decide_true, decide_false, Bool.false_eq_true, Bool.true_eq_false, reduceIte, reduceCtorEq, Nat.reduceSub, Nat.reduceAdd, Int.reduceLT, Int.reduceEq, Int.reduceNeg, Int.reduceLE, Int.reducePow, Nat.reduceAdd, eq_self, and_self, and_true, true_and, not_true, not_false_eq_true, uVs0, uVs1, this]
  · rintro ⟨k, hk, h⟩
    have : over es (fun m => !decide (m = "folder")) w = true := by
      unfold over
      rw [List.any_eq_true]
      exact ⟨k, List.mem_range.mpr hk, by simpa using h⟩
    simp only [eVs0, eVs1, eVs2, eVs3, eVs4, eVs5, eVs6, eVs7, O.of_ok, O.of_ex, isVar, initE, List.length_map, List.map_cons, List.map_nil, List.length_cons, List.length_nil, List.replicate_succ, List.replicate_zero, List.cons_append, List.nil_append, List.getElem?_cons_zero, List.getElem?_cons_succ, List.set_cons_zero, List.set_cons_succ, Bool.or_true, Bool.true_or, Bool.or_false, Bool.false_or, Bool.and_true, Bool.true_and, Bool.not_true, Bool.not_false, Bool.not_not, if_true, if_false, decide_true, decide_false, Bool.false_eq_true, Bool.true_eq_false, reduceIte, reduceCtorEq, Nat.reduceSub, Nat.reduceAdd, Int.reduceLT, Int.reduceEq, Int.reduceNeg, Int.reduceLE, Int.reducePow, Nat.reduceAdd, eq_self, and_self, and_true, true_and, not_true, not_false_eq_true, uVs0, uVs1, this]
/-! ### texts of a pane's entries -/
def tTextP (x y : Nat) : Df := ⟨"_law_text_by", 4, ["_law_mark", "_law_cell", "_law_stem", "_law_wide", "_law_name", "_law_more", "_law_some"], [.iff (.cmp .Eq (.var 0) (.cst (.str "file"))) [.ret (.idx (.tup [(.cst (.str "")), (.cst (.str "as it was")), (.bin .Add (.bi .str [(.bin .Mod (.var 1) (.bin .Pow (.cst (.int 10)) (.cst (.int 30))))]) (.cst (.str " ~")))]) (.call x [(.var 1), (.cst (.int 5)), (.cst (.int 3))]))] [], .iff (.cmp .NotEq (.var 0) (.cst (.str "link"))) [.ret (.cst (.str ""))] [], .asg 4 (.call y [(.var 2), (.call x [(.var 1), (.cst (.int 5)), (.var 3)])]), .fz 4, .asg 5 (.call y [(.var 2), (.call x [(.var 1), (.cst (.int 6)), (.var 3)])]), .fz 5, .asg 6 (.tup [(.cst (.str "/")), (.bin .Add (.cst (.str "/")) (.var 4)), (.var 4), (.bin .Add (.cst (.str "../")) (.var 4)), (.bin .Add (.bin .Add (.bin .Add (.cst (.str "./")) (.var 4)) (.cst (.str "/"))) (.var 5)), (.bin .Add (.bin .Add (.cst (.str "/")) (.var 4)) (.cst (.str "/.."))), (.cst (.str "..")), (.cst (.str "."))]), .ret (.idx (.var 6) (.call x [(.var 1), (.cst (.int 7)), (.cst (.int 8))]))]⟩
theorem len_app (x y : Str) : (x ++ y).length = x.length + y.length := by
  show (x ++ y).cps.size = x.cps.size + y.cps.size
  rw [← Array.length_toList, ← Array.length_toList (xs := x.cps), ← Array.length_toList (xs := y.cps)]
  have := TL.tl_append x y
  show (TL.tl _).length = _
  rw [this, List.length_append]
/-- the text of a link: how it is put together -/
def LinkT (z : Str) : Prop := ∃ v v2 : Str, Nm v ∧ Nm v2 ∧ (z = Str.ofString "/" ∨ z = Str.ofString "/" ++ v ∨ z = v ∨ z = Str.ofString "../" ++ v ∨ z = Str.ofString "./" ++ v ++ Str.ofString "/" ++ v2 ∨ z = Str.ofString "/" ++ v ++ Str.ofString "/.." ∨ z = Str.ofString ".." ∨ z = Str.ofString ".")
/-- the text of a file: any number below 10 ** 30 with two signs behind it, or one of two -/
def FileT (z : Str) : Prop := z = Str.ofString "" ∨ z = Str.ofString "as it was" ∨ ∃ k : Int, 0 ≤ k ∧ k < 10 ^ 30 ∧ z = Str.ofString (toString k) ++ Str.ofString " ~"
def TextP (mk z : Str) : Prop := (mk = "file" → FileT z) ∧ (mk = "link" → LinkT z) ∧ (mk ≠ "file" → mk ≠ "link" → z = Str.ofString "")
theorem toStr_len {k : Int} (h0 : 0 ≤ k) (h : k < 10 ^ 30) : (Str.ofString (toString k)).length ≤ 1000 := Nat.le_trans (PyProof.Rows.toString_length_le h0 (k := 30) (by decide) h) (by decide)
theorem t_textP {x y : Nat} (hx : ds[x]? = some tMixed) (hy : ds[y]? = some tNameDa) (hf : ds[f]? = some (tTextP x y)) (mk : Str) (c s : Int) (w : Nat) (hw : 0 < w) : ∃ z : Str, TextP mk z ∧ evF ds fl (n + 2) f [.imm (.str mk), .imm (.int c), .imm (.int s), .imm (.int (w : Int))] = .ok (.imm (.str z)) := by
  have hp : binR .Pow (.imm (.int 10)) (.imm (.int 30)) = .ok (.imm (.int (10 ^ 30))) := r_pow_int ⟨by decide, by decide, by decide⟩
  rw [evF_succ hf]
  simp only [tTextP]
  by_cases h1 : mk = Str.ofString "file"
  · obtain ⟨r, hr, er⟩ := t_mixed (ds := ds) (fl := fl) (n := n) hx c 5 3 (by decide)
    have er : evF ds fl (n + 1) x [.imm (.int c), .imm (.int 5), .imm (.int 3)] = .ok (.imm (.int (r : Int))) := er
    have hl : (c % 1000000000000000000000000000000).natAbs.log2 < 1920 := log_lt (Nat.lt_of_lt_of_le (show (c % 1000000000000000000000000000000).natAbs < 2 ^ 128 by omega) (Nat.pow_le_pow_right (by decide) (by decide)))
    have hsl := toStr_len (k := c % 1000000000000000000000000000000) (by omega) (by omega)
    have ha := r_add_str (x := Str.ofString (toString (c % 1000000000000000000000000000000))) (y := Str.ofString " ~") (small_n (by show _ + 2 ≤ _; omega))
    obtain ⟨d, hd, ed⟩ := ix_tup_ex (xs := [.str (Str.ofString ""), .str (Str.ofString "as it was"), .str (Str.ofString (toString (c % 1000000000000000000000000000000)) ++ Str.ofString " ~")]) (i := (r : Int)) (by omega) (by simp; omega)
    obtain ⟨z, hz, rfl⟩ : ∃ z, FileT z ∧ d = .str z := by
      simp only [List.mem_cons, List.not_mem_nil, or_false] at hd
      rcases hd with rfl | rfl | rfl
      · exact ⟨_, .inl rfl, rfl⟩
      · exact ⟨_, .inr (.inl rfl), rfl⟩
      · exact ⟨_, .inr (.inr ⟨_, by omega, by omega, rfl⟩), rfl⟩
    refine ⟨z, ⟨fun _ => hz, fun q => ?_, fun q => absurd h1 q⟩, by simp only [eVs0, eVs1, eVs2, eVs3, eVs4, eVs5, eVs6, eVs7, O.of_ok, O.of_ex, isVar, initE, List.length_map, List.map_cons, List.map_nil, List.length_cons, List.length_nil, List.replicate_succ, List.replicate_zero, List.cons_append, List.nil_append, List.getElem?_cons_zero, List.getElem?_cons_succ, List.set_cons_zero, List.set_cons_succ, Bool.or_true, Bool.true_or, Bool.or_false, Bool.false_or, Bool.and_true, Bool.true_and, Bool.not_true, Bool.not_false, Bool.not_not, if_true, if_false, decide_true, decide_false, Bool.false_eq_true, Bool.true_eq_false, reduceIte, reduceCtorEq, Nat.reduceSub, Nat.reduceAdd, Int.reduceLT, Int.reduceEq, Int.reduceNeg, Int.reduceLE, Int.reducePow, Nat.reduceAdd, eq_self, and_self, and_true, true_and, not_true, not_false_eq_true, h1, hp, bi_str hl, ha, er, ed]⟩
    rw [h1] at q
    exact absurd q (by decide +kernel)
  · by_cases h2 : mk = Str.ofString "link"
    · obtain ⟨r, hr, er⟩ := t_mixed (ds := ds) (fl := fl) (n := n) hx c 5 w hw
      obtain ⟨r3, hr3, er3⟩ := t_mixed (ds := ds) (fl := fl) (n := n) hx c 6 w hw
      obtain ⟨r2, hr2, er2⟩ := t_mixed (ds := ds) (fl := fl) (n := n) hx c 7 8 (by decide)
      have er2 : evF ds fl (n + 1) x [.imm (.int c), .imm (.int 7), .imm (.int 8)] = .ok (.imm (.int (r2 : Int))) := er2
      obtain ⟨v, hv, ev⟩ := t_nameDa (ds := ds) (fl := fl) (n := n) hy s r
      obtain ⟨v2, hv2, ev2⟩ := t_nameDa (ds := ds) (fl := fl) (n := n) hy s r3
      have l1 := hv.2.1
      have l2 := hv2.2.1
      have a1 := r_add_str (x := Str.ofString "/") (y := v) (small_n (by show 1 + _ ≤ _; omega))
      have a2 := r_add_str (x := Str.ofString "../") (y := v) (small_n (by show 3 + _ ≤ _; omega))
      have a3 := r_add_str (x := Str.ofString "./") (y := v) (small_n (by show 2 + _ ≤ _; omega))
      have a4 := r_add_str (x := Str.ofString "./" ++ v) (y := Str.ofString "/") (small_n (by rw [len_app]; show 2 + _ + 1 ≤ _; omega))
      have a5 := r_add_str (x := Str.ofString "./" ++ v ++ Str.ofString "/") (y := v2) (small_n (by rw [len_app, len_app]; show 2 + _ + 1 + _ ≤ _; omega))
      have a6 := r_add_str (x := Str.ofString "/" ++ v) (y := Str.ofString "/..") (small_n (by rw [len_app]; show 1 + _ + 3 ≤ _; omega))
      obtain ⟨d, hd, ed⟩ := ix_tup_ex (xs := [.str (Str.ofString "/"), .str (Str.ofString "/" ++ v), .str v, .str (Str.ofString "../" ++ v), .str (Str.ofString "./" ++ v ++ Str.ofString "/" ++ v2), .str (Str.ofString "/" ++ v ++ Str.ofString "/.."), .str (Str.ofString ".."), .str (Str.ofString ".")]) (i := (r2 : Int)) (by omega) (by simp; omega)
      obtain ⟨z, hz, rfl⟩ : ∃ z, LinkT z ∧ d = .str z := by
        simp only [List.mem_cons, List.not_mem_nil, or_false] at hd
        rcases hd with rfl | rfl | rfl | rfl | rfl | rfl | rfl | rfl
        · exact ⟨_, ⟨v, v2, hv, hv2, .inl rfl⟩, rfl⟩
        · exact ⟨_, ⟨v, v2, hv, hv2, .inr (.inl rfl)⟩, rfl⟩
        · exact ⟨_, ⟨v, v2, hv, hv2, .inr (.inr (.inl rfl))⟩, rfl⟩
        · exact ⟨_, ⟨v, v2, hv, hv2, .inr (.inr (.inr (.inl rfl)))⟩, rfl⟩
        · exact ⟨_, ⟨v, v2, hv, hv2, .inr (.inr (.inr (.inr (.inl rfl))))⟩, rfl⟩
        · exact ⟨_, ⟨v, v2, hv, hv2, .inr (.inr (.inr (.inr (.inr (.inl rfl)))))⟩, rfl⟩
        · exact ⟨_, ⟨v, v2, hv, hv2, .inr (.inr (.inr (.inr (.inr (.inr (.inl rfl))))))⟩, rfl⟩
        · exact ⟨_, ⟨v, v2, hv, hv2, .inr (.inr (.inr (.inr (.inr (.inr (.inr rfl))))))⟩, rfl⟩
      refine ⟨z, ⟨fun q => absurd q h1, fun _ => hz, fun _ q => absurd h2 q⟩, by simp only [eVs0, eVs1, eVs2, eVs3, eVs4, eVs5, eVs6, eVs7, O.of_ok, O.of_ex, isVar, initE, List.length_map, List.map_cons, List.map_nil, List.length_cons, List.length_nil, List.replicate_succ, List.replicate_zero, List.cons_append, List.nil_append, List.getElem?_cons_zero, List.getElem?_cons_succ, List.set_cons_zero, List.set_cons_succ, Bool.or_true, Bool.true_or, Bool.or_false, Bool.false_or, Bool.and_true, Bool.true_and, Bool.not_true, Bool.not_false, Bool.not_not, if_true, if_false, decide_true, decide_false, Bool.false_eq_true, Bool.true_eq_false, reduceIte, reduceCtorEq, Nat.reduceSub, Nat.reduceAdd, Int.reduceLT, Int.reduceEq, Int.reduceNeg, Int.reduceLE, Int.reducePow, Nat.reduceAdd, eq_self, and_self, and_true, true_and, not_true, not_false_eq_true, h1, h2, er, ev, er3, ev2, a1, a2, a3, a4, a5, a6, er2, ed]⟩
    · refine ⟨_, ⟨fun q => absurd q h1, fun q => absurd q h2, fun _ _ => rfl⟩, ?_⟩
      simp only [eVs0, eVs1, eVs2, eVs3, eVs4, eVs5, eVs6, eVs7, O.of_ok, O.of_ex, isVar, initE, List.length_map, List.map_cons, List.map_nil, List.length_cons, List.length_nil, List.replicate_succ, List.replicate_zero, List.cons_append, List.nil_append, List.getElem?_cons_zero, List.getElem?_cons_succ, List.set_cons_zero, List.set_cons_succ, Bool.or_true, Bool.true_or, Bool.or_false, Bool.false_or, Bool.and_true, Bool.true_and, Bool.not_true, Bool.not_false, Bool.not_not, if_true, if_false, decide_true, decide_false, Bool.false_eq_true, Bool.true_eq_false, reduceIte, reduceCtorEq, Nat.reduceSub, Nat.reduceAdd, Int.reduceLT, Int.reduceEq, Int.reduceNeg, Int.reduceLE, Int.reducePow, Nat.reduceAdd, eq_self, and_self, and_true, true_and, not_true, not_false_eq_true, h1, h2]
/-! ### panes drawn by cells -/
/-- what is drawn as a pane -/
structure PDrawn (L : Nat) (es : List En) : Prop where
  nd : (es.map En.w).Nodup
  ln : ∀ e ∈ es, e.w.length < L
  nm : ∀ e ∈ es, ∀ x ∈ e.w, Nm x
  mks : ∀ e ∈ es, e.m = "folder" ∨ e.m = "shut" ∨ e.m = "file" ∨ e.m = "gone" ∨ e.m = "link"
  up : ∀ e ∈ es, e.w = [] ∨ e.w.dropLast = [] ∨ ∃ o ∈ es, o.w = e.w.dropLast ∧ (o.m = "folder" ∨ o.m = "shut")
  root : ∀ e ∈ es, e.w = [] → e.m = "shut"
  shut : ∀ e ∈ es, e.m = "gone" ∨ e.m = "shut" → ∀ o ∈ es, o.m = "shut" → ∀ k, k < e.w.length → o.w ≠ e.w.take k
theorem PDrawn.perm {L : Nat} {es es' : List En} (h : PDrawn L es) (p : es'.Perm es) : PDrawn L es' :=
  ⟨(p.map En.w).nodup_iff.mpr h.nd, fun e he => h.ln e (p.mem_iff.mp he), fun e he => h.nm e (p.mem_iff.mp he), fun e he => h.mks e (p.mem_iff.mp he), fun e he => (h.up e (p.mem_iff.mp he)).imp_right fun q => q.imp_right fun ⟨o, ho, q⟩ => ⟨o, p.mem_iff.mpr ho, q⟩,
    fun e he => h.root e (p.mem_iff.mp he), fun e he hm o ho => h.shut e (p.mem_iff.mp he) hm o (p.mem_iff.mp ho)⟩
theorem PDrawn.nil {L : Nat} : PDrawn L [] := ⟨List.nodup_nil, (fun e he => nomatch he), (fun e he => nomatch he), (fun e he => nomatch he), (fun e he => nomatch he), (fun e he => nomatch he), (fun e he => nomatch he)⟩
theorem PDrawn.one {L : Nat} (hL : 0 < L) : PDrawn L [⟨[], "shut", ""⟩] := by
  refine ⟨by simp, fun e he => ?_, fun e he => ?_, fun e he => ?_, fun e he => ?_, fun e he => ?_, fun e he hm o ho ho' k hk => ?_⟩ <;> rw [List.mem_singleton.mp he] at *
  · exact hL
  · intro x hx; cases hx
  · exact .inr (.inl rfl)
  · exact .inl rfl
  · intro _; rfl
  · cases hk
/-- what stands at each beginning of a way -/
theorem PDrawn.beg {L : Nat} {es : List En} (h : PDrawn L es) : ∀ (m : Nat) (e : En), e ∈ es → e.w.length = m → ∀ k, 0 < k → k < m → ∃ o ∈ es, o.w = e.w.take k ∧ (o.m = "folder" ∨ o.m = "shut")
  | 0, e, he, hm, k, h0, hk => by omega
  | m + 1, e, he, hm, k, h0, hk => by
    rcases h.up e he with z | z | ⟨o, ho, z, q⟩
    · rw [z] at hm; cases hm
    · have := congrArg List.length z
      rw [List.length_dropLast, hm] at this
      simp at this
      omega
    · have hl : o.w.length = m := by rw [z, List.length_dropLast, hm]; rfl
      by_cases hkm : k = m
      · exact ⟨o, ho, by rw [z, List.dropLast_eq_take, hm, hkm]; rfl, q⟩
      · obtain ⟨o', ho', z', q'⟩ := h.beg m o ho hl k h0 (by omega)
        refine ⟨o', ho', ?_, q'⟩
        rw [z', z, List.dropLast_eq_take, List.take_take, hm]
        congr 1
        omega
/-- an entry more, under a folder that is there -/
theorem PDrawn.snoc {L : Nat} {es : List En} (h : PDrawn L es) {o : List Str} {x m t : Str} (hx : Nm x) (ho : o = [] ∨ ∃ e ∈ es, e.w = o ∧ (e.m = "folder" ∨ e.m = "shut")) (hn : o ++ [x] ∉ es.map En.w) (hl : (o ++ [x]).length < L) (hm : m = "folder" ∨ m = "shut" ∨ m = "file" ∨ m = "gone" ∨ m = "link")
    (hs : m = "gone" ∨ m = "shut" → over es (fun m => decide (m = "shut")) (o ++ [x]) = false) : PDrawn L (es ++ [⟨o ++ [x], m, t⟩]) := by
  have mem : ∀ {e : En}, e ∈ es ++ [⟨o ++ [x], m, t⟩] → e ∈ es ∨ e = ⟨o ++ [x], m, t⟩ := fun h => (List.mem_append.mp h).imp_right List.mem_singleton.mp
  refine ⟨?_, fun e he => ?_, fun e he => ?_, fun e he => ?_, fun e he => ?_, fun e he => ?_, fun e he hm' o' ho' hs' k hk => ?_⟩
  · rw [List.map_append, List.nodup_append]
    exact ⟨h.nd, by simp, fun a ha b hb e => hn (by rw [show o ++ [x] = a from by rw [e]; exact (by simpa using hb : b = o ++ [x]).symm]; exact ha)⟩
  · rcases mem he with he | rfl
    · exact h.ln e he
    · exact hl
  · rcases mem he with he | rfl
    · exact h.nm e he
    · intro y hy
      rcases List.mem_append.mp hy with hy | hy
      · rcases ho with rfl | ⟨e', he', rfl, _⟩
        · cases hy
        · exact h.nm e' he' y hy
      · rw [List.mem_singleton.mp hy]; exact hx
  · rcases mem he with he | rfl
    · exact h.mks e he
    · exact hm
  · rcases mem he with he | rfl
    · exact (h.up e he).imp_right fun q => q.imp_right fun ⟨o', ho', q⟩ => ⟨o', List.mem_append_left _ ho', q⟩
    · right
      show (o ++ [x]).dropLast = [] ∨ _
      rw [List.dropLast_concat]
      exact ho.imp_right fun ⟨e, he, q⟩ => ⟨e, List.mem_append_left _ he, q⟩
  · rcases mem he with he | rfl
    · exact h.root e he
    · intro z; simp at z
  · rcases mem he with he | rfl
    · rcases mem ho' with ho' | rfl
      · exact h.shut e he hm' o' ho' hs' k hk
      · -- what is new lies at no beginning of what is there: its own row would stand ahead
        intro z
        have z : o ++ [x] = e.w.take k := z
        by_cases h0 : k = 0
        · subst h0; simp at z
        · obtain ⟨o', ho', z', _⟩ := h.beg _ e he rfl k (by omega) hk
          exact hn (List.mem_map.mpr ⟨o', ho', by rw [z', z]⟩)
    · rcases mem ho' with ho' | rfl
      · intro z
        have := hs hm'
        unfold over at this
        rw [List.any_eq_false] at this
        have := this k (List.mem_range.mpr hk)
        rw [Bool.not_eq_true, List.any_eq_false] at this
        have := this o' ho'
        simp [hs', z] at this
      · intro z
        have := congrArg List.length z
        simp only [List.length_take] at this hk
        omega
def paneLoop (x y z u : Nat) : List S := [.asg 6 (.idx (.var 4) (.call x [(.var 5), (.cst (.int 0)), (.bi .len [(.var 4)])])), .iff (.cmp .Eq (.call x [(.var 5), (.cst (.int 3)), (.cst (.int 3))]) (.cst (.int 0))) [.asg 6 (.idx (.var 4) (.neg (.cst (.int 1))))] [], .asg 7 (.bin .Add (.var 6) (.tup [(.call y [(.var 1), (.call x [(.var 5), (.cst (.int 1)), (.var 2)])])])), .iff (.bop true [(.cmp .NotIn (.var 7) (.var 3)), (.cmp .Lt (.bi .len [(.var 7)]) (.cst (.int 15)))]) [.asg 8 (.idx (.tup [(.cst (.str "folder")), (.cst (.str "shut")), (.cst (.str "file")), (.cst (.str "folder")), (.cst (.str "gone")), (.cst (.str "link")), (.cst (.str "folder"))]) (.call x [(.var 5), (.cst (.int 2)), (.cst (.int 7))])), .iff (.bop true [(.call u [(.var 3), (.var 7)]), (.cmp .In (.var 8) (.tup [(.cst (.str "gone")), (.cst (.str "shut"))]))]) [.asg 8 (.cst (.str "folder"))] [], .put 3 (.var 7) (.tup [(.var 8), (.call z [(.var 8), (.var 5), (.var 1), (.var 2)])]), .iff (.cmp .In (.var 8) (.tup [(.cst (.str "folder")), (.cst (.str "shut"))])) [.app 4 (.var 7)] []] []]
def tPane (x y z u : Nat) : Df := ⟨"_law_pane_by", 2, ["_law_cells_here", "_law_stem", "_law_wide", "_law_things", "_law_folders", "_law_cell", "_law_over", "_law_way", "_law_mark"], [.asg 2 (.bin .Add (.cst (.int 2)) (.bin .Mod (.bin .FloorDiv (.var 1) (.cst (.int 5))) (.cst (.int 7)))), .asg 3 .dnT, .asg 4 (.lst [(.tup [])]), .iff (.bop true [(.cmp .Gt (.bi .len [(.var 0)]) (.cst (.int 2))), (.cmp .Eq (.call x [(.idx (.var 0) (.cst (.int 0))), (.cst (.int 4)), (.cst (.int 6))]) (.cst (.int 0)))]) [.put 3 (.tup []) (.tup [(.cst (.str "shut")), (.cst (.str ""))])] [], .fr 5 (.var 0) (paneLoop x y z u), .ret (.lc 7 (.bi .sorted [(.bi .list [(.var 3)])]) (.bin .Add (.tup [(.var 7)]) (.idx (.var 3) (.var 7))) none)]⟩
theorem t_paneLoop {x y z u k : Nat} (hx : ds[x]? = some tMixed) (hy : ds[y]? = some tNameDa) (hu : ds[u]? = some tShut) (Px : Str → Str → Prop)
    (ht : ∀ (mk : Str) (c s : Int) (w : Nat), 0 < w → ∃ v : Str, Px mk v ∧ evF ds fl (n + k + 1) z [.imm (.str mk), .imm (.int c), .imm (.int s), .imm (.int (w : Int))] = .ok (.imm (.str v))) (cs : List Int) (hc : cs.length ≤ 1000) (s : Int) (wd : Nat) (hw : 0 < wd) (es0 : List En) (h0 : PDrawn 15 es0) (hp0 : ∀ e ∈ es0, Px e.m e.t) (hl0 : es0.length ≤ 1) (R : O → Prop)
    (fin : ∀ (es : List En) (fs : List (List Str)) (u0 u1 u2 u3 : Option T), PDrawn 15 es → (∀ e ∈ es, Px e.m e.t) → es.length ≤ cs.length + 1 → (cs ≠ [] → es ≠ []) → R (.nx [some (.imm (.list (cs.map .int))), some (.imm (.int s)), some (.imm (.int (wd : Int))), some (TW (enM es)), some (.L (fs.map Wy)), u0, u1, u2, u3])) :
    R (forB (evF ds fl (n + k + 1)) fl 5 (paneLoop x y z u) (cs.map .int) [some (.imm (.list (cs.map .int))), some (.imm (.int s)), some (.imm (.int (wd : Int))), some (TW (enM es0)), some (.L ([[]].map Wy)), none, none, none, none]) := by
  refine forB_map R
    (fun pre ρ => ∃ es : List En, PDrawn 15 es ∧ (∀ e ∈ es, Px e.m e.t) ∧ (es.length ≤ pre.length + 1 ∧ (pre ≠ [] → es ≠ [])) ∧ ∃ fs : List (List Str), fs ≠ [] ∧ fs.length ≤ pre.length + 1 ∧ (∀ o ∈ fs, o = [] ∨ ∃ e ∈ es, e.w = o ∧ (e.m = "folder" ∨ e.m = "shut")) ∧
      ∃ (u0 u1 u2 u3 : Option T), ρ = [some (.imm (.list (cs.map .int))), some (.imm (.int s)), some (.imm (.int (wd : Int))), some (TW (enM es)), some (.L (fs.map Wy)), u0, u1, u2, u3]) ⟨es0, h0, hp0, ⟨hl0, fun z => absurd rfl z⟩, [[]], by simp, by simp, fun o ho => .inl (by simpa using ho), none, none, none, none, rfl⟩ ?_ ?_
  · rintro pre c post ρ hcs ⟨es, hD, hP, ⟨hle, hne⟩, fs, hfs, hfl, hfo, u0, u1, u2, u3, rfl⟩
    have hpl : pre.length < cs.length := by rw [hcs]; simp
    obtain ⟨r0, hr0, e0⟩ := t_mixed (ds := ds) (fl := fl) (n := n + k) hx c 0 fs.length (List.length_pos_iff.mpr hfs)
    obtain ⟨r1, hr1, e1⟩ := t_mixed (ds := ds) (fl := fl) (n := n + k) hx c 3 3 (by decide)
    have e1 : evF ds fl (n + k + 1) x [.imm (.int c), .imm (.int 3), .imm (.int 3)] = .ok (.imm (.int (r1 : Int))) := e1
    obtain ⟨r2, hr2, e2⟩ := t_mixed (ds := ds) (fl := fl) (n := n + k) hx c 1 wd hw
    obtain ⟨r3, hr3, e3⟩ := t_mixed (ds := ds) (fl := fl) (n := n + k) hx c 2 7 (by decide)
    have e3 : evF ds fl (n + k + 1) x [.imm (.int c), .imm (.int 2), .imm (.int 7)] = .ok (.imm (.int (r3 : Int))) := e3
    obtain ⟨v, hv, ev⟩ := t_nameDa (ds := ds) (fl := fl) (n := n + k) hy s r2
    have i1 : idxT (.L (fs.map Wy)) (.int (r0 : Int)) = some (.imm (Wy fs[r0])) := ix_L (by rw [List.getElem?_map, List.getElem?_eq_getElem hr0]; rfl)
    have i2 : idxT (.L (fs.map Wy)) (.int (-1)) = some (.imm (Wy (fs.getLast hfs))) := ix_L_last (by rw [List.getLast?_map, List.getLast?_eq_some_getLast hfs]; rfl)
    have hol : ∀ o, o ∈ fs → o.length < 15 := fun o ho => (hfo o ho).elim (fun z => by rw [z]; decide) fun ⟨e, he, q, _⟩ => by rw [← q]; exact hD.ln e he
    simp only [paneLoop]
    simp only [eVs0, eVs1, eVs2, eVs3, eVs4, eVs5, eVs6, eVs7, O.of_ok, O.of_ex, isVar, initE, List.length_map, List.map_cons, List.map_nil, List.length_cons, List.length_nil, List.replicate_succ, List.replicate_zero, List.cons_append, List.nil_append, List.getElem?_cons_zero, List.getElem?_cons_succ, List.set_cons_zero, List.set_cons_succ, Bool.or_true, Bool.true_or, Bool.or_false, Bool.false_or, Bool.and_true, Bool.true_and, Bool.not_true, Bool.not_false, Bool.not_not, if_true, if_false, decide_true, decide_false, Bool.false_eq_true, Bool.true_eq_false, reduceIte, reduceCtorEq, Nat.reduceSub, Nat.reduceAdd, Int.reduceLT, Int.reduceEq, Int.reduceNeg, Int.reduceLE, Int.reducePow, Nat.reduceAdd, eq_self, and_self, and_true, true_and, not_true, not_false_eq_true, uVs0, uVs1, e0, i1, e1, i2]
    obtain ⟨o, ho, eo⟩ : ∃ o, o ∈ fs ∧ ifG (decide ((r1 : Int) = 0)) (fs.getLast hfs) fs[r0] = o := ⟨_, ifG_of (P := fun o => o ∈ fs) (List.getLast_mem hfs) (List.getElem_mem hr0), rfl⟩
    rw [eo]
    have hlen := hol o ho
    have ha := add_wy (a := o) (b := [v]) (small_n (by simp; omega))
    simp only [eVs0, eVs1, eVs2, eVs3, eVs4, eVs5, eVs6, eVs7, O.of_ok, O.of_ex, isVar, initE, List.length_map, List.map_cons, List.map_nil, List.length_cons, List.length_nil, List.replicate_succ, List.replicate_zero, List.cons_append, List.nil_append, List.getElem?_cons_zero, List.getElem?_cons_succ, List.set_cons_zero, List.set_cons_succ, Bool.or_true, Bool.true_or, Bool.or_false, Bool.false_or, Bool.and_true, Bool.true_and, Bool.not_true, Bool.not_false, Bool.not_not, if_true, if_false, decide_true, decide_false, Bool.false_eq_true, Bool.true_eq_false, reduceIte, reduceCtorEq, Nat.reduceSub, Nat.reduceAdd, Int.reduceLT, Int.reduceEq, Int.reduceNeg, Int.reduceLE, Int.reducePow, Nat.reduceAdd, eq_self, and_self, and_true, true_and, not_true, not_false_eq_true, uVs0, uVs1, e2, ev, ha]
    by_cases h1 : o ++ [v] ∈ es.map En.w
    · have hk : (look (enM es) (o ++ [v])).isSome = true := look_some_iff.mpr (by rw [enM_keys]; exact h1)
      exact ⟨_, by simp only [eVs0, eVs1, eVs2, eVs3, eVs4, eVs5, eVs6, eVs7, O.of_ok, O.of_ex, isVar, initE, List.length_map, List.map_cons, List.map_nil, List.length_cons, List.length_nil, List.replicate_succ, List.replicate_zero, List.cons_append, List.nil_append, List.getElem?_cons_zero, List.getElem?_cons_succ, List.set_cons_zero, List.set_cons_succ, Bool.or_true, Bool.true_or, Bool.or_false, Bool.false_or, Bool.and_true, Bool.true_and, Bool.not_true, Bool.not_false, Bool.not_not, if_true, if_false, decide_true, decide_false, Bool.false_eq_true, Bool.true_eq_false, reduceIte, reduceCtorEq, Nat.reduceSub, Nat.reduceAdd, Int.reduceLT, Int.reduceEq, Int.reduceNeg, Int.reduceLE, Int.reducePow, Nat.reduceAdd, eq_self, and_self, and_true, true_and, not_true, not_false_eq_true, uVs0, uVs1, hk] <;> rfl, es, hD, hP, ⟨by simp; omega, fun _ z => by rw [z] at h1; cases h1⟩, fs, hfs, by simp; omega, hfo, _, _, _, _, rfl⟩
    · have hk : (look (enM es) (o ++ [v])).isSome = false := by
        rw [Bool.eq_false_iff]
        intro z
        rw [look_some_iff, enM_keys] at z
        exact h1 z
      by_cases h2 : ((o ++ [v]).length : Int) < 15
      · obtain ⟨d, hd, ed⟩ := ix_tup_ex (xs := [.str (Str.ofString "folder"), .str (Str.ofString "shut"), .str (Str.ofString "file"), .str (Str.ofString "folder"), .str (Str.ofString "gone"), .str (Str.ofString "link"), .str (Str.ofString "folder")]) (i := (r3 : Int)) (by omega) (by simp; omega)
        obtain ⟨mk, hmk, rfl⟩ : ∃ mk : Str, (mk = "folder" ∨ mk = "shut" ∨ mk = "file" ∨ mk = "gone" ∨ mk = "link") ∧ d = .str mk := by
          simp only [List.mem_cons, List.not_mem_nil, or_false] at hd
          rcases hd with rfl | rfl | rfl | rfl | rfl | rfl | rfl
          · exact ⟨_, .inl rfl, rfl⟩
          · exact ⟨_, .inr (.inl rfl), rfl⟩
          · exact ⟨_, .inr (.inr (.inl rfl)), rfl⟩
          · exact ⟨_, .inl rfl, rfl⟩
          · exact ⟨_, .inr (.inr (.inr (.inl rfl))), rfl⟩
          · exact ⟨_, .inr (.inr (.inr (.inr rfl))), rfl⟩
          · exact ⟨_, .inl rfl, rfl⟩
        have hsh := t_shut (ds := ds) (fl := fl) (n := n + k) hu es hD.nd (o ++ [v]) (by omega)
        -- the mark that is put
        obtain ⟨mk', hmk', hsm, hst⟩ : ∃ mk' : Str, (mk' = "folder" ∨ mk' = "shut" ∨ mk' = "file" ∨ mk' = "gone" ∨ mk' = "link") ∧ (mk' = "gone" ∨ mk' = "shut" → over es (fun m => decide (m = "shut")) (o ++ [v]) = false) ∧
            (if over es (fun m => decide (m = "shut")) (o ++ [v]) && (decide (mk = Str.ofString "gone") || decide (mk = Str.ofString "shut")) then Str.ofString "folder" else mk) = mk' := by
          refine ⟨_, ?_, ?_, rfl⟩
          · split
            · exact .inl rfl
            · exact hmk
          · split
            · intro h; exact absurd h (by decide +kernel)
            · next hz =>
              intro h
              cases ho : over es (fun m => decide (m = "shut")) (o ++ [v])
              · rfl
              · rw [ho, Bool.true_and] at hz
                exact absurd (by rcases h with h | h <;> simp [h]) hz
        obtain ⟨t, htx, et⟩ := ht mk' c s wd hw
        have hp := put_TW (m := enM es) (w := o ++ [v]) (d := Th mk' t) (by rw [enM_len, sizeLine_eq]; omega)
        rw [enM_put h1] at hp
        have hD' := hD.snoc (t := t) hv (hfo o ho) h1 (by omega) hmk' hsm
        have hP' : ∀ e ∈ es ++ [En.mk (o ++ [v]) mk' t], Px e.m e.t := fun e he => by
          rcases List.mem_append.mp he with he | he
          · exact hP e he
          · rw [List.mem_singleton.mp he]; exact htx
        have hfo' : ∀ o' ∈ fs, o' = [] ∨ ∃ e ∈ es ++ [En.mk (o ++ [v]) mk' t], e.w = o' ∧ (e.m = "folder" ∨ e.m = "shut") := fun o' ho' => (hfo o' ho').imp_right fun ⟨e, he, q⟩ => ⟨e, List.mem_append_left _ he, q⟩
        have hap : appT (.L (fs.map Wy)) (.imm (Wy (o ++ [v]))) = some (.L ((fs ++ [o ++ [v]]).map Wy)) := by
          rw [appT_L (by rw [sizeLine_eq]; simp; omega)]; simp
        have fin' : ∀ u0 u1 u2 u3 : Option T, (mk' = "folder" ∨ mk' = "shut") → ∃ es' : List En, PDrawn 15 es' ∧ (∀ e ∈ es', Px e.m e.t) ∧ (es'.length ≤ (pre ++ [c]).length + 1 ∧ (pre ++ [c] ≠ [] → es' ≠ [])) ∧ ∃ fs' : List (List Str), fs' ≠ [] ∧ fs'.length ≤ (pre ++ [c]).length + 1 ∧ (∀ o ∈ fs', o = [] ∨ ∃ e ∈ es', e.w = o ∧ (e.m = "folder" ∨ e.m = "shut")) ∧
            ∃ (v0 v1 v2 v3 : Option T), [some (.imm (.list (cs.map .int))), some (.imm (.int s)), some (.imm (.int (wd : Int))), some (TW (enM (es ++ [En.mk (o ++ [v]) mk' t]))), some (.L ((fs ++ [o ++ [v]]).map Wy)), u0, u1, u2, u3] = [some (.imm (.list (cs.map .int))), some (.imm (.int s)), some (.imm (.int (wd : Int))), some (TW (enM es')), some (.L (fs'.map Wy)), v0, v1, v2, v3] := fun u0 u1 u2 u3 hq =>
          ⟨_, hD', hP', ⟨by simp; omega, fun _ => by simp⟩, fs ++ [o ++ [v]], by simp, by simp; omega, fun o' ho' => (by
            rcases List.mem_append.mp ho' with ho' | ho'
            · exact hfo' o' ho'
            · rw [List.mem_singleton.mp ho']
              exact .inr ⟨_, List.mem_append_right _ (List.mem_singleton.mpr rfl), rfl, hq⟩), _, _, _, _, rfl⟩
        have fin2 : ∀ u0 u1 u2 u3 : Option T, ∃ es' : List En, PDrawn 15 es' ∧ (∀ e ∈ es', Px e.m e.t) ∧ (es'.length ≤ (pre ++ [c]).length + 1 ∧ (pre ++ [c] ≠ [] → es' ≠ [])) ∧ ∃ fs' : List (List Str), fs' ≠ [] ∧ fs'.length ≤ (pre ++ [c]).length + 1 ∧ (∀ o ∈ fs', o = [] ∨ ∃ e ∈ es', e.w = o ∧ (e.m = "folder" ∨ e.m = "shut")) ∧
            ∃ (v0 v1 v2 v3 : Option T), [some (.imm (.list (cs.map .int))), some (.imm (.int s)), some (.imm (.int (wd : Int))), some (TW (enM (es ++ [En.mk (o ++ [v]) mk' t]))), some (.L (fs.map Wy)), u0, u1, u2, u3] = [some (.imm (.list (cs.map .int))), some (.imm (.int s)), some (.imm (.int (wd : Int))), some (TW (enM es')), some (.L (fs'.map Wy)), v0, v1, v2, v3] := fun u0 u1 u2 u3 =>
          ⟨_, hD', hP', ⟨by simp; omega, fun _ => by simp⟩, fs, hfs, by simp; omega, hfo', _, _, _, _, rfl⟩
        cases hov : over es (fun m => decide (m = "shut")) (o ++ [v])
        · rw [hov, Bool.false_and, if_neg (by decide)] at hst
          subst hst
          rw [hov] at hsh
          by_cases h3 : mk = Str.ofString "folder"
          · subst h3
            exact ⟨_, by simp only [eVs0, eVs1, eVs2, eVs3, eVs4, eVs5, eVs6, eVs7, O.of_ok, O.of_ex, isVar, initE, List.length_map, List.map_cons, List.map_nil, List.length_cons, List.length_nil, List.replicate_succ, List.replicate_zero, List.cons_append, List.nil_append, List.getElem?_cons_zero, List.getElem?_cons_succ, List.set_cons_zero, List.set_cons_succ, Bool.or_true, Bool.true_or, Bool.or_false, Bool.false_or, Bool.and_true, Bool.true_and, Bool.not_true, Bool.not_false, Bool.not_not, if_true, if_false, decide_true, decide_false, Bool.false_eq_true, Bool.true_eq_false, reduceIte, reduceCtorEq, Nat.reduceSub, Nat.reduceAdd, Int.reduceLT, Int.reduceEq, Int.reduceNeg, Int.reduceLE, Int.reducePow, Nat.reduceAdd, eq_self, and_self, and_true, true_and, not_true, not_false_eq_true, uVs0, uVs1, hk, h2, e3, ed, hsh, c_in_th, et, hp, hap] <;> rfl, fin' _ _ _ _ (.inl rfl)⟩
          · by_cases h4 : mk = Str.ofString "shut"
            · subst h4
              exact ⟨_, by simp only [eVs0, eVs1, eVs2, eVs3, eVs4, eVs5, eVs6, eVs7, O.of_ok, O.of_ex, isVar, initE, List.length_map, List.map_cons, List.map_nil, List.length_cons, List.length_nil, List.replicate_succ, List.replicate_zero, List.cons_append, List.nil_append, List.getElem?_cons_zero, List.getElem?_cons_succ, List.set_cons_zero, List.set_cons_succ, Bool.or_true, Bool.true_or, Bool.or_false, Bool.false_or, Bool.and_true, Bool.true_and, Bool.not_true, Bool.not_false, Bool.not_not, if_true, if_false, decide_true, decide_false, Bool.false_eq_true, Bool.true_eq_false, reduceIte, reduceCtorEq, Nat.reduceSub, Nat.reduceAdd, Int.reduceLT, Int.reduceEq, Int.reduceNeg, Int.reduceLE, Int.reducePow, Nat.reduceAdd, eq_self, and_self, and_true, true_and, not_true, not_false_eq_true, uVs0, uVs1, hk, h2, e3, ed, hsh, c_in_th, et, hp, h3, hap] <;> rfl, fin' _ _ _ _ (.inr rfl)⟩
            · exact ⟨_, by simp only [eVs0, eVs1, eVs2, eVs3, eVs4, eVs5, eVs6, eVs7, O.of_ok, O.of_ex, isVar, initE, List.length_map, List.map_cons, List.map_nil, List.length_cons, List.length_nil, List.replicate_succ, List.replicate_zero, List.cons_append, List.nil_append, List.getElem?_cons_zero, List.getElem?_cons_succ, List.set_cons_zero, List.set_cons_succ, Bool.or_true, Bool.true_or, Bool.or_false, Bool.false_or, Bool.and_true, Bool.true_and, Bool.not_true, Bool.not_false, Bool.not_not, if_true, if_false, decide_true, decide_false, Bool.false_eq_true, Bool.true_eq_false, reduceIte, reduceCtorEq, Nat.reduceSub, Nat.reduceAdd, Int.reduceLT, Int.reduceEq, Int.reduceNeg, Int.reduceLE, Int.reducePow, Nat.reduceAdd, eq_self, and_self, and_true, true_and, not_true, not_false_eq_true, uVs0, uVs1, hk, h2, e3, ed, hsh, c_in_th, et, hp, h3, h4, hap] <;> rfl, fin2 _ _ _ _⟩
        · rw [hov] at hsh
          by_cases h3 : mk = Str.ofString "gone"
          · rw [hov, Bool.true_and, if_pos (by simp [h3])] at hst
            subst hst
            exact ⟨_, by simp only [eVs0, eVs1, eVs2, eVs3, eVs4, eVs5, eVs6, eVs7, O.of_ok, O.of_ex, isVar, initE, List.length_map, List.map_cons, List.map_nil, List.length_cons, List.length_nil, List.replicate_succ, List.replicate_zero, List.cons_append, List.nil_append, List.getElem?_cons_zero, List.getElem?_cons_succ, List.set_cons_zero, List.set_cons_succ, Bool.or_true, Bool.true_or, Bool.or_false, Bool.false_or, Bool.and_true, Bool.true_and, Bool.not_true, Bool.not_false, Bool.not_not, if_true, if_false, decide_true, decide_false, Bool.false_eq_true, Bool.true_eq_false, reduceIte, reduceCtorEq, Nat.reduceSub, Nat.reduceAdd, Int.reduceLT, Int.reduceEq, Int.reduceNeg, Int.reduceLE, Int.reducePow, Nat.reduceAdd, eq_self, and_self, and_true, true_and, not_true, not_false_eq_true, uVs0, uVs1, hk, h2, e3, ed, hsh, c_in_th, et, hp, h3, hap] <;> rfl, fin' _ _ _ _ (.inl rfl)⟩
          · by_cases h4 : mk = Str.ofString "shut"
            · rw [hov, Bool.true_and, if_pos (by simp [h4])] at hst
              subst hst
              exact ⟨_, by simp only [eVs0, eVs1, eVs2, eVs3, eVs4, eVs5, eVs6, eVs7, O.of_ok, O.of_ex, isVar, initE, List.length_map, List.map_cons, List.map_nil, List.length_cons, List.length_nil, List.replicate_succ, List.replicate_zero, List.cons_append, List.nil_append, List.getElem?_cons_zero, List.getElem?_cons_succ, List.set_cons_zero, List.set_cons_succ, Bool.or_true, Bool.true_or, Bool.or_false, Bool.false_or, Bool.and_true, Bool.true_and, Bool.not_true, Bool.not_false, Bool.not_not, if_true, if_false, decide_true, decide_false, Bool.false_eq_true, Bool.true_eq_false, reduceIte, reduceCtorEq, Nat.reduceSub, Nat.reduceAdd, Int.reduceLT, Int.reduceEq, Int.reduceNeg, Int.reduceLE, Int.reducePow, Nat.reduceAdd, eq_self, and_self, and_true, true_and, not_true, not_false_eq_true, uVs0, uVs1, hk, h2, e3, ed, hsh, c_in_th, et, hp, h4, hap] <;> rfl, fin' _ _ _ _ (.inl rfl)⟩
            · rw [hov, Bool.true_and, if_neg (by simp [h3, h4])] at hst
              subst hst
              by_cases h5 : mk = Str.ofString "folder"
              · subst h5
                exact ⟨_, by simp only [eVs0, eVs1, eVs2, eVs3, eVs4, eVs5, eVs6, eVs7, O.of_ok, O.of_ex, isVar, initE, List.length_map, List.map_cons, List.map_nil, List.length_cons, List.length_nil, List.replicate_succ, List.replicate_zero, List.cons_append, List.nil_append, List.getElem?_cons_zero, List.getElem?_cons_succ, List.set_cons_zero, List.set_cons_succ, Bool.or_true, Bool.true_or, Bool.or_false, Bool.false_or, Bool.and_true, Bool.true_and, Bool.not_true, Bool.not_false, Bool.not_not, if_true, if_false, decide_true, decide_false, Bool.false_eq_true, Bool.true_eq_false, reduceIte, reduceCtorEq, Nat.reduceSub, Nat.reduceAdd, Int.reduceLT, Int.reduceEq, Int.reduceNeg, Int.reduceLE, Int.reducePow, Nat.reduceAdd, eq_self, and_self, and_true, true_and, not_true, not_false_eq_true, uVs0, uVs1, hk, h2, e3, ed, hsh, c_in_th, et, hp, h3, h4, hap] <;> rfl, fin' _ _ _ _ (.inl rfl)⟩
              · exact ⟨_, by simp only [eVs0, eVs1, eVs2, eVs3, eVs4, eVs5, eVs6, eVs7, O.of_ok, O.of_ex, isVar, initE, List.length_map, List.map_cons, List.map_nil, List.length_cons, List.length_nil, List.replicate_succ, List.replicate_zero, List.cons_append, List.nil_append, List.getElem?_cons_zero, List.getElem?_cons_succ, List.set_cons_zero, List.set_cons_succ, Bool.or_true, Bool.true_or, Bool.or_false, Bool.false_or, Bool.and_true, Bool.true_and, Bool.not_true, Bool.not_false, Bool.not_not, if_true, if_false, decide_true, decide_false, Bool.false_eq_true, Bool.true_eq_false, reduceIte, reduceCtorEq, Nat.reduceSub, Nat.reduceAdd, Int.reduceLT, Int.reduceEq, Int.reduceNeg, Int.reduceLE, Int.reducePow, Nat.reduceAdd, eq_self, and_self, and_true, true_and, not_true, not_false_eq_true, uVs0, uVs1, hk, h2, e3, ed, hsh, c_in_th, et, hp, h3, h4, h5, hap] <;> rfl, fin2 _ _ _ _⟩
      · exact ⟨_, by simp only [eVs0, eVs1, eVs2, eVs3, eVs4, eVs5, eVs6, eVs7, O.of_ok, O.of_ex, isVar, initE, List.length_map, List.map_cons, List.map_nil, List.length_cons, List.length_nil, List.replicate_succ, List.replicate_zero, List.cons_append, List.nil_append, List.getElem?_cons_zero, List.getElem?_cons_succ, List.set_cons_zero, List.set_cons_succ, Bool.or_true, Bool.true_or, Bool.or_false, Bool.false_or, Bool.and_true, Bool.true_and, Bool.not_true, Bool.not_false, Bool.not_not, if_true, if_false, decide_true, decide_false, Bool.false_eq_true, Bool.true_eq_false, reduceIte, reduceCtorEq, Nat.reduceSub, Nat.reduceAdd, Int.reduceLT, Int.reduceEq, Int.reduceNeg, Int.reduceLE, Int.reducePow, Nat.reduceAdd, eq_self, and_self, and_true, true_and, not_true, not_false_eq_true, uVs0, uVs1, hk, h2] <;> rfl, es, hD, hP, ⟨by simp; omega, fun _ z => by
          rcases hfo o ho with q | ⟨e, he, _⟩
          · rw [q] at h2; exact h2 (by simp)
          · rw [z] at he; cases he⟩, fs, hfs, by simp; omega, hfo, _, _, _, _, rfl⟩
  · rintro ρ' ⟨es, hD, hP, ⟨hle, hne⟩, fs, hfs, hfl, hfo, u0, u1, u2, u3, rfl⟩
    exact fin es fs u0 u1 u2 u3 hD hP (by omega) hne
theorem t_paneN {x y z u k : Nat} (hx : ds[x]? = some tMixed) (hy : ds[y]? = some tNameDa) (hu : ds[u]? = some tShut) (hf : ds[f]? = some (tPane x y z u)) (Px : Str → Str → Prop) (hps : Px "shut" "")
    (ht : ∀ (mk : Str) (c s : Int) (w : Nat), 0 < w → ∃ v : Str, Px mk v ∧ evF ds fl (n + k + 1) z [.imm (.str mk), .imm (.int c), .imm (.int s), .imm (.int (w : Int))] = .ok (.imm (.str v))) (cs : List Int) (hc : cs.length ≤ 1000) (s : Int) :
    ∃ es : List En, PDrawn 15 es ∧ (∀ e ∈ es, Px e.m e.t) ∧ (es.length ≤ cs.length + 1 ∧ (cs ≠ [] → es ≠ [])) ∧ evF ds fl (n + k + 2) f [.imm (.list (cs.map .int)), .imm (.int s)] = .ok (.L ((byWay es).map En.d)) := by
  obtain ⟨wd, hw, ew⟩ : ∃ wd : Nat, 0 < wd ∧ 2 + s / 5 % 7 = (wd : Int) := ⟨(2 + s / 5 % 7).toNat, by omega, by omega⟩
  have main : ∀ es0 : List En, PDrawn 15 es0 → (∀ e ∈ es0, Px e.m e.t) → es0.length ≤ 1 → ∃ es : List En, PDrawn 15 es ∧ (∀ e ∈ es, Px e.m e.t) ∧ (es.length ≤ cs.length + 1 ∧ (cs ≠ [] → es ≠ [])) ∧
      outR ((forB (evF ds fl (n + k + 1)) fl 5 (paneLoop x y z u) (cs.map .int) [some (.imm (.list (cs.map .int))), some (.imm (.int s)), some (.imm (.int (wd : Int))), some (TW (enM es0)), some (.L ([[]].map Wy)), none, none, none, none]).seq fun ρ => evSs (evF ds fl (n + k + 1)) fl [.ret (.lc 7 (.bi .sorted [(.bi .list [(.var 3)])]) (.bin .Add (.tup [(.var 7)]) (.idx (.var 3) (.var 7))) none)] ρ) = .ok (.L ((byWay es).map En.d)) := by
    intro es0 h0 hp0 hl0
    refine t_paneLoop hx hy hu Px ht cs hc s wd hw es0 h0 hp0 hl0 (fun o => ∃ es : List En, PDrawn 15 es ∧ (∀ e ∈ es, Px e.m e.t) ∧ (es.length ≤ cs.length + 1 ∧ (cs ≠ [] → es ≠ [])) ∧ outR (o.seq _) = .ok (.L ((byWay es).map En.d))) fun es fs u0 u1 u2 u3 hD hP hle hne => ⟨es, hD, hP, ⟨hle, hne⟩, ?_⟩
    have hs : biR .sorted [T.L ((es.map En.w).map Wy)] = .ok (.L ((byWay es).map fun e => Wy e.w)) := by
      rw [← byWay_ways]
      exact bi_sorted kids_L (sortB_wysE (by rw [List.length_map, sizeLine_eq]; omega))
    have hkeys : (enM es).map (fun p => Wy p.1) = (es.map En.w).map Wy := by rw [← enM_keys, List.map_map]; rfl
    simp only [eVs0, eVs1, eVs2, eVs3, eVs4, eVs5, eVs6, eVs7, O.of_ok, O.of_ex, isVar, initE, List.length_map, List.map_cons, List.map_nil, List.length_cons, List.length_nil, List.replicate_succ, List.replicate_zero, List.cons_append, List.nil_append, List.getElem?_cons_zero, List.getElem?_cons_succ, List.set_cons_zero, List.set_cons_succ, Bool.or_true, Bool.true_or, Bool.or_false, Bool.false_or, Bool.and_true, Bool.true_and, Bool.not_true, Bool.not_false, Bool.not_not, if_true, if_false, decide_true, decide_false, Bool.false_eq_true, Bool.true_eq_false, reduceIte, reduceCtorEq, Nat.reduceSub, Nat.reduceAdd, Int.reduceLT, Int.reduceEq, Int.reduceNeg, Int.reduceLE, Int.reducePow, Nat.reduceAdd, eq_self, and_self, and_true, true_and, not_true, not_false_eq_true, uVs0, uVs1, hkeys, hs]
    rw [lcI_ok (by simp)]
    rw [lc_mapA (f := fun e : En => Wy e.w) (g := En.d) (as := byWay es) (fun e he => ?_) (by rw [(byWay_perm es).length_eq]; omega)]
    · simp only [eVs0, eVs1, eVs2, eVs3, eVs4, eVs5, eVs6, eVs7, O.of_ok, O.of_ex, isVar, initE, List.length_map, List.map_cons, List.map_nil, List.length_cons, List.length_nil, List.replicate_succ, List.replicate_zero, List.cons_append, List.nil_append, List.getElem?_cons_zero, List.getElem?_cons_succ, List.set_cons_zero, List.set_cons_succ, Bool.or_true, Bool.true_or, Bool.or_false, Bool.false_or, Bool.and_true, Bool.true_and, Bool.not_true, Bool.not_false, Bool.not_not, if_true, if_false, decide_true, decide_false, Bool.false_eq_true, Bool.true_eq_false, reduceIte, reduceCtorEq, Nat.reduceSub, Nat.reduceAdd, Int.reduceLT, Int.reduceEq, Int.reduceNeg, Int.reduceLE, Int.reducePow, Nat.reduceAdd, eq_self, and_self, and_true, true_and, not_true, not_false_eq_true, uVs0, uVs1]
    · have hl := enM_look hD.nd ((byWay_perm es).mem_iff.mp he)
      unfold En.th at hl
      simp only [eVs0, eVs1, eVs2, eVs3, eVs4, eVs5, eVs6, eVs7, O.of_ok, O.of_ex, isVar, initE, List.length_map, List.map_cons, List.map_nil, List.length_cons, List.length_nil, List.replicate_succ, List.replicate_zero, List.cons_append, List.nil_append, List.getElem?_cons_zero, List.getElem?_cons_succ, List.set_cons_zero, List.set_cons_succ, Bool.or_true, Bool.true_or, Bool.or_false, Bool.false_or, Bool.and_true, Bool.true_and, Bool.not_true, Bool.not_false, Bool.not_not, if_true, if_false, decide_true, decide_false, Bool.false_eq_true, Bool.true_eq_false, reduceIte, reduceCtorEq, Nat.reduceSub, Nat.reduceAdd, Int.reduceLT, Int.reduceEq, Int.reduceNeg, Int.reduceLE, Int.reducePow, Nat.reduceAdd, eq_self, and_self, and_true, true_and, not_true, not_false_eq_true, uVs0, uVs1, ix_TW hl, add_th]
  rw [evF_succ hf]
  simp only [tPane]
  by_cases h2 : 2 < cs.length
  · obtain ⟨r, hr, er⟩ := t_mixed (ds := ds) (fl := fl) (n := n + k) hx cs[0] 4 6 (by decide)
    have er : evF ds fl (n + k + 1) x [.imm (.int cs[0]), .imm (.int 4), .imm (.int 6)] = .ok (.imm (.int (r : Int))) := er
    have hi : idxT (.imm (.list (cs.map .int))) (.int 0) = some (.imm (.int cs[0])) := ix_list (j := 0) (by rw [List.getElem?_map, List.getElem?_eq_getElem (by omega)]; rfl)
    have h2' : (2 : Int) < (cs.length : Int) := by omega
    by_cases h0 : (r : Int) = 0
    · have hp := put_TW (m := []) (w := []) (d := Th "shut" "") (by rw [sizeLine_eq]; decide)
      have := main [⟨[], "shut", ""⟩] (PDrawn.one (by decide)) (fun e he => by rw [List.mem_singleton.mp he]; exact hps) (by decide)
      simp only [eVs0, eVs1, eVs2, eVs3, eVs4, eVs5, eVs6, eVs7, O.of_ok, O.of_ex, isVar, initE, List.length_map, List.map_cons, List.map_nil, List.length_cons, List.length_nil, List.replicate_succ, List.replicate_zero, List.cons_append, List.nil_append, List.getElem?_cons_zero, List.getElem?_cons_succ, List.set_cons_zero, List.set_cons_succ, Bool.or_true, Bool.true_or, Bool.or_false, Bool.false_or, Bool.and_true, Bool.true_and, Bool.not_true, Bool.not_false, Bool.not_not, if_true, if_false, decide_true, decide_false, Bool.false_eq_true, Bool.true_eq_false, reduceIte, reduceCtorEq, Nat.reduceSub, Nat.reduceAdd, Int.reduceLT, Int.reduceEq, Int.reduceNeg, Int.reduceLE, Int.reducePow, Nat.reduceAdd, eq_self, and_self, and_true, true_and, not_true, not_false_eq_true, uVs0, uVs1, ew, h2', hi, er, h0, hp]
      exact this
    · have := main [] PDrawn.nil (fun e he => nomatch he) (by decide)
      simp only [eVs0, eVs1, eVs2, eVs3, eVs4, eVs5, eVs6, eVs7, O.of_ok, O.of_ex, isVar, initE, List.length_map, List.map_cons, List.map_nil, List.length_cons, List.length_nil, List.replicate_succ, List.replicate_zero, List.cons_append, List.nil_append, List.getElem?_cons_zero, List.getElem?_cons_succ, List.set_cons_zero, List.set_cons_succ, Bool.or_true, Bool.true_or, Bool.or_false, Bool.false_or, Bool.and_true, Bool.true_and, Bool.not_true, Bool.not_false, Bool.not_not, if_true, if_false, decide_true, decide_false, Bool.false_eq_true, Bool.true_eq_false, reduceIte, reduceCtorEq, Nat.reduceSub, Nat.reduceAdd, Int.reduceLT, Int.reduceEq, Int.reduceNeg, Int.reduceLE, Int.reducePow, Nat.reduceAdd, eq_self, and_self, and_true, true_and, not_true, not_false_eq_true, uVs0, uVs1, ew, h2', hi, er, h0]
      exact this
  · have h2' : ¬ (2 : Int) < (cs.length : Int) := by omega
    have := main [] PDrawn.nil (fun e he => nomatch he) (by decide)
    simp only [eVs0, eVs1, eVs2, eVs3, eVs4, eVs5, eVs6, eVs7, O.of_ok, O.of_ex, isVar, initE, List.length_map, List.map_cons, List.map_nil, List.length_cons, List.length_nil, List.replicate_succ, List.replicate_zero, List.cons_append, List.nil_append, List.getElem?_cons_zero, List.getElem?_cons_succ, List.set_cons_zero, List.set_cons_succ, Bool.or_true, Bool.true_or, Bool.or_false, Bool.false_or, Bool.and_true, Bool.true_and, Bool.not_true, Bool.not_false, Bool.not_not, if_true, if_false, decide_true, decide_false, Bool.false_eq_true, Bool.true_eq_false, reduceIte, reduceCtorEq, Nat.reduceSub, Nat.reduceAdd, Int.reduceLT, Int.reduceEq, Int.reduceNeg, Int.reduceLE, Int.reducePow, Nat.reduceAdd, eq_self, and_self, and_true, true_and, not_true, not_false_eq_true, uVs0, uVs1, ew, h2']
    exact this
theorem t_pane {x y z u k : Nat} (hx : ds[x]? = some tMixed) (hy : ds[y]? = some tNameDa) (hu : ds[u]? = some tShut) (hf : ds[f]? = some (tPane x y z u)) (Px : Str → Str → Prop) (hps : Px "shut" "")
    (ht : ∀ (mk : Str) (c s : Int) (w : Nat), 0 < w → ∃ v : Str, Px mk v ∧ evF ds fl (n + k + 1) z [.imm (.str mk), .imm (.int c), .imm (.int s), .imm (.int (w : Int))] = .ok (.imm (.str v))) (cs : List Int) (hc : cs.length ≤ 1000) (s : Int) :
    ∃ es : List En, PDrawn 15 es ∧ (∀ e ∈ es, Px e.m e.t) ∧ es.length ≤ cs.length + 1 ∧ evF ds fl (n + k + 2) f [.imm (.list (cs.map .int)), .imm (.int s)] = .ok (.L ((byWay es).map En.d)) := by
  obtain ⟨es, h1, h2, h3, h4⟩ := t_paneN hx hy hu hf Px hps ht cs hc s
  exact ⟨es, h1, h2, h3.1, h4⟩
/-! ### cells -/
def tCells (x : Nat) : Df := ⟨"_law_cells", 4, ["_law_script", "_law_first", "_law_step", "_law_many", "_law_k"], [.ret (.lcR 4 none (.var 3) (.bin .Add (.call x [(.var 0), (.bin .Add (.var 1) (.bin .Mult (.var 2) (.var 4)))]) (.var 4)) none)]⟩
theorem t_cells {x : Nat} (hx : ds[x]? = some tCell) (hf : ds[f]? = some (tCells x)) (ns : List Int) (a b : Nat) (m : Nat) (ha : a ≤ 100000) (hb : b ≤ 100000) (hm : m ≤ 100000) : ∃ cs : List Int, cs.length = m ∧ evF ds fl (n + 2) f [.scr ns, .imm (.int (a : Int)), .imm (.int (b : Int)), .imm (.int (m : Int))] = .ok (.L (cs.map .int)) := by
  refine ⟨(List.range m).map fun k => ns.getD (a + b * k) 0 + (k : Int), by simp, ?_⟩
  rw [evF_succ hf]
  simp only [tCells]
  simp only [eVs0, eVs1, eVs2, eVs3, eVs4, eVs5, eVs6, eVs7, O.of_ok, O.of_ex, isVar, initE, List.length_map, List.map_cons, List.map_nil, List.length_cons, List.length_nil, List.replicate_succ, List.replicate_zero, List.cons_append, List.nil_append, List.getElem?_cons_zero, List.getElem?_cons_succ, List.set_cons_zero, List.set_cons_succ, Bool.or_true, Bool.true_or, Bool.or_false, Bool.false_or, Bool.and_true, Bool.true_and, Bool.not_true, Bool.not_false, Bool.not_not, if_true, if_false, decide_true, decide_false, Bool.false_eq_true, Bool.true_eq_false, reduceIte, reduceCtorEq, Nat.reduceSub, Nat.reduceAdd, Int.reduceLT, Int.reduceEq, Int.reduceNeg, Int.reduceLE, Int.reducePow, Nat.reduceAdd, eq_self, and_self, and_true, true_and, not_true, not_false_eq_true, uVs0, uVs1]
  rw [rng0 (by omega)]
  simp only [eVs0, eVs1, eVs2, eVs3, eVs4, eVs5, eVs6, eVs7, O.of_ok, O.of_ex, isVar, initE, List.length_map, List.map_cons, List.map_nil, List.length_cons, List.length_nil, List.replicate_succ, List.replicate_zero, List.cons_append, List.nil_append, List.getElem?_cons_zero, List.getElem?_cons_succ, List.set_cons_zero, List.set_cons_succ, Bool.or_true, Bool.true_or, Bool.or_false, Bool.false_or, Bool.and_true, Bool.true_and, Bool.not_true, Bool.not_false, Bool.not_not, if_true, if_false, decide_true, decide_false, Bool.false_eq_true, Bool.true_eq_false, reduceIte, reduceCtorEq, Nat.reduceSub, Nat.reduceAdd, Int.reduceLT, Int.reduceEq, Int.reduceNeg, Int.reduceLE, Int.reducePow, Nat.reduceAdd, eq_self, and_self, and_true, true_and, not_true, not_false_eq_true, uVs0, uVs1]
  rw [lcI_ok (by simp), lc_mapA (f := fun k : Nat => PyData.int (k : Int)) (g := fun k : Nat => .int (ns.getD (a + b * k) 0 + (k : Int))) (fun k hk => ?_) (by rw [List.length_range]; omega)]
  · simp only [eVs0, eVs1, eVs2, eVs3, eVs4, eVs5, eVs6, eVs7, O.of_ok, O.of_ex, isVar, initE, List.length_map, List.map_cons, List.map_nil, List.length_cons, List.length_nil, List.replicate_succ, List.replicate_zero, List.cons_append, List.nil_append, List.getElem?_cons_zero, List.getElem?_cons_succ, List.set_cons_zero, List.set_cons_succ, Bool.or_true, Bool.true_or, Bool.or_false, Bool.false_or, Bool.and_true, Bool.true_and, Bool.not_true, Bool.not_false, Bool.not_not, if_true, if_false, decide_true, decide_false, Bool.false_eq_true, Bool.true_eq_false, reduceIte, reduceCtorEq, Nat.reduceSub, Nat.reduceAdd, Int.reduceLT, Int.reduceEq, Int.reduceNeg, Int.reduceLE, Int.reducePow, Nat.reduceAdd, eq_self, and_self, and_true, true_and, not_true, not_false_eq_true, uVs0, uVs1]
    rw [List.map_map]
    rfl
  · have hmul := r_mul_l (i := (b : Int)) (j := (k : Int)) (by omega) (by omega)
    have hc := t_cell (ds := ds) (fl := fl) (n := n) hx ns ((a : Int) + b * k) (Int.add_nonneg (Int.natCast_nonneg _) (Int.mul_nonneg (Int.natCast_nonneg _) (Int.natCast_nonneg _)))
    rw [show ((a : Int) + b * k).toNat = a + b * k from by
      have : (a : Int) + b * k = ((a + b * k : Nat) : Int) := by simp
      rw [this]; rfl] at hc
    simp only [eVs0, eVs1, eVs2, eVs3, eVs4, eVs5, eVs6, eVs7, O.of_ok, O.of_ex, isVar, initE, List.length_map, List.map_cons, List.map_nil, List.length_cons, List.length_nil, List.replicate_succ, List.replicate_zero, List.cons_append, List.nil_append, List.getElem?_cons_zero, List.getElem?_cons_succ, List.set_cons_zero, List.set_cons_succ, Bool.or_true, Bool.true_or, Bool.or_false, Bool.false_or, Bool.and_true, Bool.true_and, Bool.not_true, Bool.not_false, Bool.not_not, if_true, if_false, decide_true, decide_false, Bool.false_eq_true, Bool.true_eq_false, reduceIte, reduceCtorEq, Nat.reduceSub, Nat.reduceAdd, Int.reduceLT, Int.reduceEq, Int.reduceNeg, Int.reduceLE, Int.reducePow, Nat.reduceAdd, eq_self, and_self, and_true, true_and, not_true, not_false_eq_true, uVs0, uVs1, hmul, hc]
end
/-! ### lists of panes -/
def Ps (pss : List (List En)) : PyData := .list (pss.map Tr)
theorem ps_def {pss : List (List En)} : PyData.list (pss.map Tr) = Ps pss := rfl
theorem eqv_trs : ∀ a b : List (List En), PyData.eqvAll (a.map Tr) (b.map Tr) = decide (a = b)
  | [], [] => by simp [PyData.eqvAll]
  | [], _ :: _ => by simp [PyData.eqvAll]
  | _ :: _, [] => by simp [PyData.eqvAll]
  | x :: a, y :: b => by
    simp only [List.map_cons, PyData.eqvAll, eqv_tr, eqv_trs a b]
    by_cases h1 : x = y <;> by_cases h2 : a = b <;> simp [h1, h2]
theorem dep_trs : ∀ a : List (List En), PyData.depthAll (a.map Tr) ≤ 3
  | [] => by simp [PyData.depthAll]
  | x :: a => by
    have := dep_trs a
    have := dep_tr (es := x)
    simp only [List.map_cons, PyData.depthAll]
    omega
theorem dep_ps {pss : List (List En)} : (Ps pss).depth ≤ 4 := by
  have := dep_trs pss
  unfold Ps
  simp only [PyData.depth]
  omega
theorem eqv_ps {a b : List (List En)} : PyData.eqv (Ps a) (Ps b) = decide (a = b) := by
  unfold Ps
  simp only [PyData.eqv, eqv_trs]
theorem c_eq_ps {a b : List (List En)} : cmpR .Eq (.imm (Ps a)) (.imm (Ps b)) = .ok (.imm (.bool (decide (a = b)))) := by
  rw [c_eq_dat (d := Ps a) (e := Ps b) rfl rfl (by have := dep_ps (pss := a); omega), eqv_ps]
theorem c_ne_ps {a b : List (List En)} : cmpR .NotEq (.imm (Ps a)) (.imm (Ps b)) = .ok (.imm (.bool (!decide (a = b)))) := by
  rw [c_ne_dat (d := Ps a) (e := Ps b) rfl rfl (by have := dep_ps (pss := a); omega), eqv_ps]
theorem src_ps {pss : List (List En)} : srcS (.imm (Ps pss)) = .ok (.imm (Ps pss), pss.map Tr) := rfl
theorem len_ps {pss : List (List En)} : lenT (.imm (Ps pss)) = some pss.length := by show some (pss.map Tr).length = _; rw [List.length_map]
theorem ix_ps {pss : List (List En)} {j : Nat} {es : List En} (h : pss[j]? = some es) : idxT (.imm (Ps pss)) (.int (j : Int)) = some (.imm (Tr es)) := ix_list (by rw [List.getElem?_map, h]; rfl)
theorem slc_ps {pss : List (List En)} {lo hi : Option Int} : slcT (.imm (Ps pss)) lo hi = some (.L ((cutL pss lo hi).map Tr)) := by
  unfold Ps
  rw [slc_list, cut_map]
theorem kids_ps {pss : List (List En)} : (T.imm (Ps pss)).kids = some (true, pss.map Tr) := rfl
theorem listO_ps {pss : List (List En)} : listO (.imm (Ps pss)) = some (pss.map Tr) := rfl
theorem app_ps {pss : List (List En)} {es : List En} (h : pss.length < 16777216) : appT (.L (pss.map Tr)) (.L (es.map En.d)) = some (.L ((pss ++ [es]).map Tr)) := by
  rw [appT_LL (by rw [List.length_map, sizeLine_eq]; exact h)]
  simp [Tr]
theorem ix_Lps {pss : List (List En)} {j : Nat} {es : List En} (h : pss[j]? = some es) : idxT (.L (pss.map Tr)) (.int (j : Int)) = some (.imm (Tr es)) := ix_L (by rw [List.getElem?_map, h]; rfl)
theorem copy_ps {call : Nat → List T → Rs T} {i : Nat} {ρ : Env} {pss : List (List En)} (h : pss.length ≤ 16777216) (hi : i < ρ.length) : lcB call i (.bi .list [.var i]) none ρ (pss.map Tr) = .ok (.L (pss.map Tr)) := by
  refine lc_mapA (f := Tr) (g := Tr) (fun es he => ?_) h
  have hg : (ρ.set i (some (.imm (Tr es))))[i]? = some (some (.imm (Tr es))) := List.getElem?_set_self hi
  simp only [eVs0, eVs1, eVs2, eVs3, eVs4, eVs5, eVs6, eVs7, O.of_ok, O.of_ex, isVar, initE, List.length_map, List.map_cons, List.map_nil, List.length_cons, List.length_nil, List.replicate_succ, List.replicate_zero, List.cons_append, List.nil_append, List.getElem?_cons_zero, List.getElem?_cons_succ, List.set_cons_zero, List.set_cons_succ, Bool.or_true, Bool.true_or, Bool.or_false, Bool.false_or, Bool.and_true, Bool.true_and, Bool.not_true, Bool.not_false, Bool.not_not, if_true, if_false, decide_true, decide_false, Bool.false_eq_true, Bool.true_eq_false, reduceIte, reduceCtorEq, Nat.reduceSub, Nat.reduceAdd, Int.reduceLT, Int.reduceEq, Int.reduceNeg, Int.reduceLE, Int.reducePow, Nat.reduceAdd, eq_self, and_self, and_true, true_and, not_true, not_false_eq_true, uVs0, uVs1, hg]
/-! the rules by one name -/
def xVs0 := And.intro @isi_bint (And.intro @c_in_th (And.intro @notIn_th (And.intro @c_eq_ps (And.intro @c_ne_ps (And.intro @src_ps (And.intro @len_ps (And.intro @slc_ps (And.intro @listO_ps (@ps_def)))))))))
end Gl

set_option Elab.async false
set_option linter.all false
set_option maxRecDepth 100000
set_option maxHeartbeats 4000000
/-! GlW: the order of ways, and what sorting makes of rows with ways of their own. -/
namespace Gl
open PySem L2
section
variable {α : Type} {enc : α → PyData}
theorem dle_total (a b : α) : (W.dataLe false enc a b || W.dataLe false enc b a) = true := by
  rw [W.dataLe_eq]
  show (!W.dataLt (enc b) (enc a) || !W.dataLt (enc a) (enc b)) = true
  cases h1 : W.dataLt (enc b) (enc a) with
  | false => rfl
  | true =>
    cases h2 : W.dataLt (enc a) (enc b) with
    | false => rfl
    | true =>
      have := (PyProof.Rows.listOrd PyProof.Rows.itemOrd).trans _ _ _ h1 h2
      exact absurd ((PyProof.Rows.listOrd PyProof.Rows.itemOrd).irrefl _) (by rw [this]; decide)
theorem dle_trans (a b c : α) (h1 : W.dataLe false enc a b = true) (h2 : W.dataLe false enc b c = true) : W.dataLe false enc a c = true := by
  rw [W.dataLe_eq] at *
  have h1 : (!W.dataLt (enc b) (enc a)) = true := h1
  have h2 : (!W.dataLt (enc c) (enc b)) = true := h2
  show (!W.dataLt (enc c) (enc a)) = true
  rw [Bool.not_eq_true'] at *
  rw [Bool.eq_false_iff]
  intro z
  rcases (PyProof.Rows.listOrd PyProof.Rows.itemOrd).negTrans _ _ _ z with q | q
  · exact absurd (show W.dataLt (enc c) (enc b) = true from q) (by rw [h2]; decide)
  · exact absurd (show W.dataLt (enc b) (enc a) = true from q) (by rw [h1]; decide)
theorem dle_toks (a b : α) (h1 : W.dataLe false enc a b = true) (h2 : W.dataLe false enc b a = true) : W.keyToks (enc a) = W.keyToks (enc b) := by
  rw [W.dataLe_eq] at *
  have h1 : (!W.dataLt (enc b) (enc a)) = true := h1
  have h2 : (!W.dataLt (enc a) (enc b)) = true := h2
  rw [Bool.not_eq_true'] at *
  exact (PyProof.Rows.listOrd PyProof.Rows.itemOrd).total _ _ h2 h1
end
theorem toks_strs : ∀ {a b : List Str} {p q : List (Int ⊕ List Nat)}, W.keyToksAll (a.map .str) ++ p = W.keyToksAll (b.map .str) ++ q → a = b ∧ p = q
  | [], [], p, q, h => by simpa [W.keyToksAll] using h
  | [], y :: b, p, q, h => by simp [W.keyToksAll] at h
  | x :: a, [], p, q, h => by simp [W.keyToksAll] at h
  | x :: a, y :: b, p, q, h => by
    simp only [List.map_cons, W.keyToksAll, W.keyToks, List.cons_append, List.nil_append, List.cons.injEq, true_and] at h
    obtain ⟨h1, h2⟩ := h
    have := toks_strs h2
    exact ⟨by rw [this.1, W.str_of_cps (Sum.inr.inj h1)], this.2⟩
theorem toks_wy {a b : List Str} (h : W.keyToks (Wy a) = W.keyToks (Wy b)) : a = b := by
  unfold Wy at h
  simp only [W.keyToks] at h
  exact (toks_strs (p := []) (q := []) (by simpa using h)).1
theorem wle_total (a b : List Str) : (wle a b || wle b a) = true := dle_total (enc := id) (Wy a) (Wy b)
theorem wle_trans {a b c : List Str} (h1 : wle a b = true) (h2 : wle b c = true) : wle a c = true := dle_trans (enc := id) (Wy a) (Wy b) (Wy c) h1 h2
theorem wle_anti {a b : List Str} (h1 : wle a b = true) (h2 : wle b a = true) : a = b := toks_wy (dle_toks (enc := id) (Wy a) (Wy b) h1 h2)
/-- a way is less than another -/
def wlt (a b : List Str) : Bool := !wle b a
theorem wle_lt {a b : List Str} : wle a b = !W.dataLt (Wy b) (Wy a) := rfl
theorem wlt_lt {a b : List Str} : wlt a b = W.dataLt (Wy a) (Wy b) := by unfold wlt; rw [wle_lt, Bool.not_not]
theorem en_lt {a b : En} (h : a.w ≠ b.w) : W.dataLt a.d b.d = wlt a.w b.w := by
  unfold En.d
  rw [W.dataLt_tuple, W.dataLt_cons (alike_wy _ _), eqv_wy, decide_eq_false h, if_neg (by decide), wlt_lt]
theorem en_le {a b : En} (h : a.w ≠ b.w) : W.dataLe false id a.d b.d = wle a.w b.w := by
  show (!W.dataLt b.d a.d) = _
  rw [en_lt (Ne.symm h)]
  unfold wlt
  rw [Bool.not_not]
theorem byWay_sorted (es : List En) : (byWay es).Pairwise fun a b => wle a.w b.w = true := List.pairwise_mergeSort (le := fun a b : En => wle a.w b.w) (fun a b c => wle_trans) (fun a b => wle_total a.w b.w) es
/-- rows with ways of their own, sorted by ways -/
def Srt (es : List En) : Prop := es.Pairwise fun a b => wlt a.w b.w = true
theorem wlt_irr {a : List Str} : wlt a a = false := by
  unfold wlt
  have := wle_total a a
  rw [Bool.or_self] at this
  rw [this]; rfl
theorem wlt_of {a b : List Str} (h : wle a b = true) (hn : a ≠ b) : wlt a b = true := by
  unfold wlt
  rw [Bool.not_eq_true', Bool.eq_false_iff]
  exact fun z => hn (wle_anti h z)
theorem wle_of {a b : List Str} (h : wlt a b = true) : wle a b = true := by
  have := wle_total a b
  unfold wlt at h
  rw [Bool.not_eq_true'] at h
  rwa [h, Bool.or_false] at this
theorem Srt.nodup {es : List En} (h : Srt es) : (es.map En.w).Nodup := List.pairwise_map.mpr (h.imp fun h z => by rw [z, wlt_irr] at h; cases h)
theorem byWay_srt {es : List En} (nd : (es.map En.w).Nodup) : Srt (byWay es) := by
  have nd2 : ((byWay es).map En.w).Nodup := ((byWay_perm es).map En.w).nodup_iff.mpr nd
  exact List.Pairwise.imp₂ (fun a b h1 h2 => wlt_of h1 h2) (byWay_sorted es) (List.pairwise_map.mp nd2)
theorem Srt.perm {a b : List En} (ha : Srt a) (hb : Srt b) (p : a.Perm b) : a = b := by
  refine List.Perm.eq_of_pairwise (le := fun a b : En => wlt a.w b.w = true) (fun x y _ _ h1 h2 => ?_) ha hb p
  have := wle_of h2
  unfold wlt at h1
  rw [this] at h1
  cases h1
theorem nodup_of_map {α β : Type} {f : α → β} {l : List α} (h : (l.map f).Nodup) : l.Nodup := (List.pairwise_map.mp h).imp fun h z => h (by rw [z])
/-- two sorted lists of the same rows are one -/
theorem Srt.ext {a b : List En} (ha : Srt a) (hb : Srt b) (h : ∀ e, e ∈ a ↔ e ∈ b) : a = b :=
  ha.perm hb ((List.perm_ext_iff_of_nodup (nodup_of_map ha.nodup) (nodup_of_map hb.nodup)).mpr h)
theorem byWay_of {es : List En} (h : Srt es) : byWay es = es := (byWay_srt h.nodup).perm h (byWay_perm es)
/-- sorted(rows), where no way stands twice -/
theorem sortD_ens {es : List En} (nd : (es.map En.w).Nodup) : sortD (es.map En.d) = (byWay es).map En.d := by
  rw [sortD_map (enc := En.d)]
  congr 1
  have hs : (es.mergeSort fun a b => W.dataLe false id a.d b.d).Pairwise fun a b => W.dataLe false id a.d b.d = true :=
    List.pairwise_mergeSort (le := fun a b : En => W.dataLe false id a.d b.d) (fun a b c => dle_trans (enc := id) a.d b.d c.d) (fun a b => dle_total (enc := id) a.d b.d) es
  have p := List.mergeSort_perm es (fun a b : En => W.dataLe false id a.d b.d)
  have nd2 : ((es.mergeSort fun a b => W.dataLe false id a.d b.d).map En.w).Nodup := (p.map En.w).nodup_iff.mpr nd
  have hs2 : Srt (es.mergeSort fun a b => W.dataLe false id a.d b.d) := List.Pairwise.imp₂ (fun a b h1 h2 => wlt_of (by rw [← en_le h2]; exact h1) h2) hs (List.pairwise_map.mp nd2)
  exact hs2.perm (byWay_srt nd) (p.trans (byWay_perm es).symm)
end Gl

set_option Elab.async false
set_option linter.all false
set_option maxRecDepth 100000
set_option maxHeartbeats 4000000
namespace Gl.k10
open PySem L2
/-- lies_under -/
def d0 : Df := ⟨"lies_under", 2, ["way", "other"], [.ret (.bop true [(.cmp .Gt (.bi .len [(.var 0)]) (.bi .len [(.var 1)])), (.cmp .Eq (.slc (.var 0) none (some (.bi .len [(.var 1)]))) (.var 1))])]⟩
/-- part -/
def d1 : Df := ⟨"part", 2, ["tree", "way", "entry"], [.ret (.lc 2 (.var 0) (.tup [(.slc (.idx (.var 2) (.cst (.int 0))) (some (.bi .len [(.var 1)])) none), (.idx (.var 2) (.cst (.int 1))), (.idx (.var 2) (.cst (.int 2)))]) (some (.call 0 [(.idx (.var 2) (.cst (.int 0))), (.var 1)])))]⟩
/-- without -/
def d2 : Df := ⟨"without", 2, ["tree", "way", "entry"], [.ret (.lc 2 (.var 0) (.var 2) (some (.bop true [(.cmp .NotEq (.idx (.var 2) (.cst (.int 0))) (.var 1)), (.not (.call 0 [(.idx (.var 2) (.cst (.int 0))), (.var 1)]))])))]⟩
/-- grafted -/
def d3 : Df := ⟨"grafted", 4, ["tree", "way", "thing", "below", "rows", "entry"], [.asg 4 (.call 2 [(.var 0), (.var 1)]), .app 4 (.tup [(.var 1), (.idx (.var 2) (.cst (.int 0))), (.idx (.var 2) (.cst (.int 1)))]), .fr 5 (.var 3) [.app 4 (.tup [(.bin .Add (.var 1) (.idx (.var 5) (.cst (.int 0)))), (.idx (.var 5) (.cst (.int 1))), (.idx (.var 5) (.cst (.int 2)))])], .ret (.bi .sorted [(.var 4)])]⟩
/-- by_way -/
def d4 : Df := ⟨"by_way", 1, ["entries", "things", "entry"], [.asg 1 .dnT, .fr 2 (.var 0) [.put 1 (.idx (.var 2) (.cst (.int 0))) (.tup [(.idx (.var 2) (.cst (.int 1))), (.idx (.var 2) (.cst (.int 2)))])], .ret (.var 1)]⟩
/-- thing_at -/
def d5 : Df := ⟨"thing_at", 2, ["tree", "way"], [.iff (.cmp .Eq (.var 1) (.tup [])) [.ret (.tup [(.glb "FOLDER" (.str "folder")), (.cst (.str ""))])] [], .ret (.mth (.call 4 [(.var 0)]) .get [(.var 1)])]⟩
/-- _law_cell_at -/
def d6 : Df := ⟨"_law_cell_at", 2, ["_law_script", "_law_k"], [.iff (.cmp .Lt (.var 1) (.bi .len [(.var 0)])) [.ret (.idx (.var 0) (.var 1))] [], .ret (.cst (.int 0))]⟩
/-- _law_mixed -/
def d7 : Df := ⟨"_law_mixed", 3, ["_law_cell", "_law_turn", "_law_many", "_law_by", "_law_prime"], [.asg 3 (.tup [(.cst (.int 48271)), (.cst (.int 69621)), (.cst (.int 16807)), (.cst (.int 39373)), (.cst (.int 21401)), (.cst (.int 60493)), (.cst (.int 87721)), (.cst (.int 31337))]), .asg 4 (.tup [(.cst (.int 99991)), (.cst (.int 99989)), (.cst (.int 99971)), (.cst (.int 99961)), (.cst (.int 99929)), (.cst (.int 99923)), (.cst (.int 99907)), (.cst (.int 99901))]), .ret (.bin .Mod (.bin .Mod (.bin .Mult (.bin .Add (.bin .Mod (.var 0) (.bin .Pow (.cst (.int 10)) (.cst (.int 18)))) (.cst (.int 1))) (.idx (.var 3) (.bin .Mod (.var 1) (.cst (.int 8))))) (.idx (.var 4) (.bin .Mod (.var 1) (.cst (.int 8))))) (.var 2))]⟩
/-- _law_name_by -/
def d8 : Df := ⟨"_law_name_by", 2, ["_law_stem", "_law_v", "_law_signs", "_law_size", "_law_spot", "_law_name", "_law_k", "_law_turn"], [.asg 2 (.cst (.str "abcdefghijklmnopqrstuvwxyz0123456789")), .asg 3 (.bin .Add (.cst (.int 1)) (.bin .Mod (.var 0) (.cst (.int 12)))), .asg 4 (.bin .Mod (.bin .FloorDiv (.var 0) (.cst (.int 12))) (.var 3)), .asg 5 (.cst (.str "")), .frR 6 none (.var 3) [.asg 7 (.bin .Add (.bin .FloorDiv (.var 0) (.cst (.int 5184))) (.bin .Mult (.var 6) (.bin .Mod (.bin .FloorDiv (.var 0) (.cst (.int 144))) (.cst (.int 36))))), .iff (.cmp .Eq (.var 6) (.var 4)) [.asg 7 (.bin .Add (.var 7) (.var 1))] [], .asg 5 (.bin .Add (.var 5) (.idx (.var 2) (.bin .Mod (.var 7) (.cst (.int 36)))))], .iff (.bop true [(.cmp .Eq (.bin .Mod (.bin .FloorDiv (.var 0) (.cst (.int 3))) (.cst (.int 2))) (.cst (.int 1))), (.cmp .Eq (.bin .Mod (.var 1) (.cst (.int 5))) (.cst (.int 4)))]) [.asg 5 (.slc (.var 5) none (some (.bin .Add (.cst (.int 1)) (.bin .Mod (.var 1) (.var 3))))), .fz 5] [], .ret (.var 5)]⟩
/-- _law_text_by -/
def d9 : Df := ⟨"_law_text_by", 4, ["_law_mark", "_law_cell", "_law_stem", "_law_wide", "_law_name"], [.iff (.cmp .Eq (.var 0) (.cst (.str "file"))) [.ret (.idx (.tup [(.cst (.str "")), (.cst (.str "as it was")), (.bi .str [(.bin .Mod (.var 1) (.bin .Pow (.cst (.int 10)) (.cst (.int 30))))])]) (.call 7 [(.var 1), (.cst (.int 5)), (.cst (.int 3))]))] [], .iff (.cmp .NotEq (.var 0) (.cst (.str "link"))) [.ret (.cst (.str ""))] [], .asg 4 (.call 8 [(.var 2), (.call 7 [(.var 1), (.cst (.int 5)), (.var 3)])]), .ret (.idx (.tup [(.cst (.str "/")), (.bin .Add (.cst (.str "/")) (.var 4)), (.var 4), (.bin .Add (.cst (.str "../")) (.var 4)), (.bin .Add (.bin .Add (.cst (.str "./")) (.var 4)) (.cst (.str "/.."))), (.cst (.str ".."))]) (.call 7 [(.var 1), (.cst (.int 7)), (.cst (.int 6))]))]⟩
/-- _law_tree_by -/
def d10 : Df := ⟨"_law_tree_by", 2, ["_law_cells", "_law_stem", "_law_wide", "_law_things", "_law_folders", "_law_cell", "_law_over", "_law_way", "_law_mark"], [.asg 2 (.bin .Add (.cst (.int 2)) (.bin .Mod (.bin .FloorDiv (.var 1) (.cst (.int 5))) (.cst (.int 7)))), .asg 3 .dnT, .asg 4 (.lst [(.tup [])]), .fr 5 (.var 0) [.asg 6 (.idx (.var 4) (.call 7 [(.var 5), (.cst (.int 0)), (.bi .len [(.var 4)])])), .iff (.cmp .Eq (.call 7 [(.var 5), (.cst (.int 3)), (.cst (.int 3))]) (.cst (.int 0))) [.asg 6 (.idx (.var 4) (.neg (.cst (.int 1))))] [], .asg 7 (.bin .Add (.var 6) (.tup [(.call 8 [(.var 1), (.call 7 [(.var 5), (.cst (.int 1)), (.var 2)])])])), .iff (.bop true [(.cmp .NotIn (.var 7) (.var 3)), (.cmp .Lt (.bi .len [(.var 7)]) (.cst (.int 15)))]) [.asg 8 (.idx (.tup [(.cst (.str "folder")), (.cst (.str "file")), (.cst (.str "folder")), (.cst (.str "link"))]) (.call 7 [(.var 5), (.cst (.int 2)), (.cst (.int 4))])), .put 3 (.var 7) (.tup [(.var 8), (.call 9 [(.var 8), (.var 5), (.var 1), (.var 2)])]), .iff (.cmp .Eq (.var 8) (.cst (.str "folder"))) [.app 4 (.var 7)] []] []], .ret (.lc 7 (.bi .sorted [(.bi .list [(.var 3)])]) (.bin .Add (.tup [(.var 7)]) (.idx (.var 3) (.var 7))) none)]⟩
/-- _law_way_by -/
def d11 : Df := ⟨"_law_way_by", 3, ["_law_rows", "_law_cell", "_law_name", "_law_row"], [.iff (.bop false [(.cmp .Eq (.var 0) (.lst [])), (.cmp .Eq (.call 7 [(.var 1), (.cst (.int 0)), (.cst (.int 6))]) (.cst (.int 5)))]) [.ret (.tup [(.var 2)])] [], .asg 3 (.idx (.var 0) (.call 7 [(.var 1), (.cst (.int 1)), (.bi .len [(.var 0)])])), .iff (.bop true [(.cmp .Eq (.idx (.var 3) (.cst (.int 1))) (.cst (.str "folder"))), (.cmp .Gt (.call 7 [(.var 1), (.cst (.int 2)), (.cst (.int 3))]) (.cst (.int 0)))]) [.ret (.bin .Add (.idx (.var 3) (.cst (.int 0))) (.tup [(.var 2)]))] [], .ret (.idx (.var 3) (.cst (.int 0)))]⟩
/-- _law_same -/
def d12 : Df := ⟨"_law_same", 2, ["_law_given", "_law_due", "_law_k", "_law_row"], [.iff (.bop false [(.not (.isi (.var 0) .list)), (.cmp .NotEq (.bi .len [(.var 0)]) (.bi .len [(.var 1)]))]) [.ret (.cst (.bool false))] [], .frR 2 none (.bi .len [(.var 1)]) [.asg 3 (.idx (.var 0) (.var 2)), .iff (.bop false [(.not (.isi (.var 3) .tuple)), (.cmp .NotEq (.bi .len [(.var 3)]) (.cst (.int 3))), (.not (.isi (.idx (.var 3) (.cst (.int 0))) .tuple))]) [.ret (.cst (.bool false))] [], .iff (.bop false [(.not (.isi (.idx (.var 3) (.cst (.int 1))) .str)), (.not (.isi (.idx (.var 3) (.cst (.int 2))) .str)), (.cmp .NotEq (.var 3) (.idx (.var 1) (.var 2)))]) [.ret (.cst (.bool false))] []], .ret (.cst (.bool true))]⟩
/-- _law_put_in -/
def d13 : Df := ⟨"_law_put_in", 4, ["_law_rows", "_law_way", "_law_thing", "_law_below", "_law_due", "_law_row"], [.asg 4 (.lst [(.tup [(.var 1), (.idx (.var 2) (.cst (.int 0))), (.idx (.var 2) (.cst (.int 1)))])]), .fr 5 (.var 0) [.iff (.cmp .NotEq (.slc (.idx (.var 5) (.cst (.int 0))) none (some (.bi .len [(.var 1)]))) (.var 1)) [.app 4 (.var 5)] []], .fr 5 (.var 3) [.app 4 (.tup [(.bin .Add (.var 1) (.idx (.var 5) (.cst (.int 0)))), (.idx (.var 5) (.cst (.int 1))), (.idx (.var 5) (.cst (.int 2)))])], .ret (.bi .sorted [(.var 4)])]⟩
/-- law -/
def d14 : Df := ⟨"law", 1, ["_law_script", "_law_stem", "_law_drawn", "_law_one", "_law_other", "_law_mark", "_law_thing", "_law_way", "_law_handed", "_law_given", "_law_row", "_law_kept", "_law_inner", "_law_rest"], [.asg 1 (.bin .Mod (.call 6 [(.var 0), (.cst (.int 0))]) (.bin .Pow (.cst (.int 10)) (.cst (.int 18)))), .asg 2 (.call 6 [(.var 0), (.cst (.int 1))]), .fz 2, .asg 3 (.call 10 [(.sls (.var 0) (some (.cst (.int 2))) (some (.cst (.int 50))) 2), (.var 1)]), .fz 3, .asg 4 (.call 10 [(.sls (.var 0) (some (.cst (.int 3))) (some (.cst (.int 51))) 2), (.var 1)]), .fz 4, .asg 5 (.idx (.tup [(.cst (.str "folder")), (.cst (.str "file")), (.cst (.str "folder")), (.cst (.str "link")), (.cst (.str "folder"))]) (.call 7 [(.var 2), (.cst (.int 3)), (.cst (.int 5))])), .asg 6 (.tup [(.var 5), (.call 9 [(.var 5), (.var 2), (.var 1), (.cst (.int 9))])]), .iff (.cmp .NotEq (.var 5) (.cst (.str "folder"))) [.asg 4 (.lst []), .fz 4] [], .asg 7 (.call 11 [(.var 3), (.var 2), (.call 8 [(.var 1), (.call 7 [(.var 2), (.cst (.int 4)), (.cst (.int 9))])])]), .fz 7, .asg 8 (.lst [(.bi .list [(.var 3)]), (.bi .list [(.var 4)])]), .fz 8, .asg 9 (.call 3 [(.idx (.var 8) (.cst (.int 0))), (.var 7), (.var 6), (.idx (.var 8) (.cst (.int 1)))]), .fz 9, .iff (.not (.call 12 [(.var 9), (.call 13 [(.var 3), (.var 7), (.var 6), (.var 4)])])) [.ret (.cst (.bool false))] [], .fr 10 (.bin .Add (.slc (.var 3) none (some (.cst (.int 8)))) (.slc (.var 3) (some (.neg (.cst (.int 4)))) none)) [.asg 11 (.call 5 [(.idx (.var 8) (.cst (.int 0))), (.idx (.var 10) (.cst (.int 0)))]), .fz 11, .asg 12 (.call 1 [(.idx (.var 8) (.cst (.int 0))), (.idx (.var 10) (.cst (.int 0)))]), .fz 12, .asg 13 (.call 2 [(.idx (.var 8) (.cst (.int 0))), (.idx (.var 10) (.cst (.int 0)))]), .fz 13, .iff (.bop false [(.cmp .NotEq (.var 11) (.tup [(.idx (.var 10) (.cst (.int 1))), (.idx (.var 10) (.cst (.int 2)))])), (.not (.call 12 [(.call 3 [(.var 13), (.idx (.var 10) (.cst (.int 0))), (.var 11), (.var 12)]), (.var 3)]))]) [.ret (.cst (.bool false))] []], .ret (.bop true [(.cmp .Eq (.idx (.var 8) (.cst (.int 0))) (.var 3)), (.cmp .Eq (.idx (.var 8) (.cst (.int 1))) (.var 4))])]⟩
def ds : List Df := [d0, d1, d2, d3, d4, d5, d6, d7, d8, d9, d10, d11, d12, d13, d14]
def tx : Tx := { glb := [("FOLDER", (.str "folder"))], cls := [], exm := [], kit := [] }
def fl : Nat := 0
def lv : Nat := 20
end Gl.k10

set_option Elab.async false
set_option linter.all false
set_option maxRecDepth 100000
set_option maxHeartbeats 4000000
namespace Gl.k10
open PySem L2
theorem pickL_map {α β : Type} (f : α → β) (xs : List α) (lo hi : Option Int) (k : Nat) : pickL (xs.map f) lo hi k = (pickL xs lo hi k).map f := by
  unfold pickL
  simp only [List.length_map, List.map_filterMap]
  congr 1
  funext i
  rw [List.getElem?_map]
theorem cell (n : Nat) (ns : List Int) (k : Int) (h : 0 ≤ k) : evF ds fl (n + 1) 6 [.scr ns, .imm (.int k)] = .ok (.imm (.int (ns.getD k.toNat 0))) := t_cell rfl ns k h
theorem mixed (n : Nat) (c t : Int) (m : Nat) (hm : 0 < m) : ∃ r : Nat, r < m ∧ evF ds fl (n + 1) 7 [.imm (.int c), .imm (.int t), .imm (.int (m : Int))] = .ok (.imm (.int (r : Int))) := t_mixed rfl c t m hm
theorem name_by (n : Nat) (s v : Int) : ∃ x : Str, Nm x ∧ evF ds fl (n + 1) 8 [.imm (.int s), .imm (.int v)] = .ok (.imm (.str x)) := t_nameDa rfl s v
theorem text_by (n : Nat) (mk : Str) (c s : Int) (w : Nat) (hw : 0 < w) : ∃ z : Str, evF ds fl (n + 2) 9 [.imm (.str mk), .imm (.int c), .imm (.int s), .imm (.int (w : Int))] = .ok (.imm (.str z)) := t_textC7 (x := 7) (y := 8) rfl rfl rfl mk c s w hw
theorem tree_by (n : Nat) (cs : List Int) (hc : cs.length ≤ 1000) (s : Int) : ∃ es : List En, Drawn 15 es ∧ es.length ≤ cs.length ∧ evF ds fl (n + 3) 10 [.imm (.list (cs.map .int)), .imm (.int s)] = .ok (.L ((byWay es).map En.d)) := by
  obtain ⟨es, h1, _, h2, h3⟩ := t_tree97 (ds := ds) (fl := fl) (n := n) (k := 1) (f := 10) (x := 7) (y := 8) (z := 9) rfl rfl rfl (fun _ _ => True) (fun mk c s w hw => by
    obtain ⟨u, hu⟩ := text_by n mk c s w hw
    exact ⟨u, trivial, hu⟩) cs hc s
  exact ⟨es, h1, h2, h3⟩
theorem part_ (n : Nat) (es : List En) (h : es.length ≤ 16777216) (w : List Str) : evF ds fl (n + 2) 1 [.imm (Tr es), .imm (Wy w)] = .ok (.L ((part es w).map En.d)) := t_part (u := 0) rfl rfl es h w
theorem without_ (n : Nat) (es : List En) (h : es.length ≤ 16777216) (w : List Str) : evF ds fl (n + 2) 2 [.imm (Tr es), .imm (Wy w)] = .ok (.L ((without es w).map En.d)) := t_without (u := 0) rfl rfl es h w
theorem thing_ (n : Nat) (es : List En) (h : es.length ≤ 10000) (nd : (es.map En.w).Nodup) (w : List Str) : evF ds fl (n + 2) 5 [.imm (Tr es), .imm (Wy w)] = .ok (.imm (thing es w)) := t_thing (b := 4) rfl rfl es h nd w
/-- rows put under a way -/
def ahead (w : List Str) (bs : List En) : List En := bs.map fun e => ⟨w ++ e.w, e.m, e.t⟩
def gr (es : List En) (w : List Str) (m t : Str) (bs : List En) : List En := without es w ++ [⟨w, m, t⟩] ++ ahead w bs
def pin (es : List En) (w : List Str) (m t : Str) (bs : List En) : List En := [⟨w, m, t⟩] ++ es.filter (fun e => !decide (e.w.take w.length = w)) ++ ahead w bs
theorem gr_perm {es : List En} {w : List Str} {m t : Str} {bs : List En} : (pin es w m t bs).Perm (gr es w m t bs) := by
  unfold gr pin
  refine List.Perm.append_right _ ?_
  have : without es w = es.filter fun e => !decide (e.w.take w.length = w) := by
    unfold without
    refine List.filter_congr fun e _ => ?_
    unfold under
    by_cases h : e.w.take w.length = w
    · by_cases h2 : e.w = w
      · simp [h2]
      · have : w.length < e.w.length := by
          have h3 := congrArg List.length h
          rw [List.length_take] at h3
          rcases Nat.lt_or_ge w.length e.w.length with q | q
          · exact q
          · rw [List.take_of_length_le q] at h; exact absurd h h2
        simp [h, this]
    · have : e.w ≠ w := fun z => h (by rw [z, List.take_length])
      simp [h, this]
  rw [this]
  exact List.perm_append_comm
theorem gr_nd {es : List En} {w : List Str} {m t : Str} {bs : List En} (nd : (es.map En.w).Nodup) (nb : (bs.map En.w).Nodup) (ne : ∀ b ∈ bs, b.w ≠ []) : ((gr es w m t bs).map En.w).Nodup := by
  have h1 : ((without es w).map En.w).Nodup := nd.sublist (List.filter_sublist.map _)
  have h2 : ((ahead w bs).map En.w).Nodup := by
    unfold ahead
    rw [List.map_map]
    rw [show (En.w ∘ fun e : En => (⟨w ++ e.w, e.m, e.t⟩ : En)) = (w ++ ·) ∘ En.w from rfl, ← List.map_map]
    exact List.pairwise_map.mpr (nb.imp fun h z => h (List.append_cancel_left z))
  have h3 : ∀ e ∈ without es w, e.w ≠ w ∧ ¬ (w.length < e.w.length ∧ e.w.take w.length = w) := fun e he => by
    have := (List.mem_filter.mp he).2
    unfold under at this
    rw [Bool.and_eq_true, Bool.not_eq_true', Bool.not_eq_true', decide_eq_false_iff_not, decide_eq_false_iff_not] at this
    exact this
  unfold gr
  rw [List.map_append, List.map_append]
  refine List.nodup_append.mpr ⟨List.nodup_append.mpr ⟨h1, by simp, ?_⟩, h2, ?_⟩
  · intro a ha b hb
    obtain ⟨e, he, rfl⟩ := List.mem_map.mp ha
    rw [show b = w by simpa using hb]
    exact (h3 e he).1
  · intro a ha b hb
    obtain ⟨x, hx, rfl⟩ := List.mem_map.mp hb
    obtain ⟨y, hy, rfl⟩ := List.mem_map.mp hx
    have hy' := ne y hy
    have hpos : 0 < y.w.length := List.length_pos_iff.mpr hy'
    intro z
    rcases List.mem_append.mp ha with ha | ha
    · obtain ⟨e, he, rfl⟩ := List.mem_map.mp ha
      exact (h3 e he).2 (by rw [z]; exact ⟨by simp; omega, by simp⟩)
    · rw [show a = w by simpa using ha] at z
      have := congrArg List.length z
      simp at this
      exact hy' this
theorem gr_len {es : List En} {w : List Str} {m t : Str} {bs : List En} : (gr es w m t bs).length ≤ es.length + 1 + bs.length := by
  have h : (without es w).length ≤ es.length := List.length_filter_le ..
  unfold gr ahead
  simp only [List.length_append, List.length_map, List.length_singleton]
  omega
theorem under_split {a w : List Str} (h : under a w = true) : w ++ a.drop w.length = a := by
  unfold under at h
  have h := of_decide_eq_true h
  conv => lhs; lhs; rw [← h.2]
  exact List.take_append_drop ..
theorem gr_back {es : List En} (hs : Srt es) (ne : ∀ e ∈ es, e.w ≠ []) {r : En} (hr : r ∈ es) : byWay (gr (without es r.w) r.w r.m r.t (part es r.w)) = es := by
  have nd1 : ((without es r.w).map En.w).Nodup := hs.nodup.sublist (List.filter_sublist.map _)
  have nd2 : ((part es r.w).map En.w).Nodup := by
    have : ((es.filter fun e => under e.w r.w).map En.w).Nodup := hs.nodup.sublist (List.filter_sublist.map _)
    unfold part
    rw [List.map_map]
    rw [List.Nodup, List.pairwise_map] at this ⊢
    refine List.Pairwise.imp_of_mem ?_ this
    intro a b ha hb h z
    have ha := (List.mem_filter.mp ha).2
    have hb := (List.mem_filter.mp hb).2
    exact h (by rw [← under_split ha, ← under_split hb]; exact congrArg (r.w ++ ·) z)
  have ne2 : ∀ b ∈ part es r.w, b.w ≠ [] := fun b hb => by
    obtain ⟨e, he, rfl⟩ := List.mem_map.mp hb
    have := (List.mem_filter.mp he).2
    unfold under at this
    have := (of_decide_eq_true this).1
    intro z
    have := congrArg List.length z
    simp at this
    omega
  have nd := gr_nd (w := r.w) (m := r.m) (t := r.t) nd1 nd2 ne2
  refine (byWay_srt nd).ext hs fun e => ?_
  rw [(byWay_perm _).mem_iff]
  have uniq : ∀ e ∈ es, e.w = r.w → e = r := fun e he h => by
    have h1 := enM_look hs.nodup he
    rw [h, enM_look hs.nodup hr] at h1
    have h1 := Option.some.inj h1
    cases e
    cases r
    simp only [En.th, Th, PyData.tuple.injEq, List.cons.injEq, PyData.str.injEq, and_true] at h1
    simp only at h
    rw [h, h1.1, h1.2]
  unfold gr ahead part without
  simp only [List.mem_append, List.mem_filter, List.mem_singleton, List.mem_map, Bool.and_eq_true, Bool.not_eq_true', decide_eq_false_iff_not]
  constructor
  · rintro ((h | h) | ⟨b, ⟨x, ⟨hx, hu⟩, rfl⟩, rfl⟩)
    · exact h.1.1
    · rw [h]; exact hr
    · simp only [under_split hu]; exact hx
  · intro he
    by_cases h1 : e.w = r.w
    · exact .inl (.inr (uniq e he h1))
    · cases h2 : under e.w r.w
      · exact .inl (.inl ⟨⟨he, h1, rfl⟩, h1, rfl⟩)
      · exact .inr ⟨_, ⟨e, ⟨he, h2⟩, rfl⟩, by simp only [under_split h2]⟩
theorem sort_gr {xs ys : List En} (p : xs.Perm ys) (nd : (ys.map En.w).Nodup) (hl : ys.length ≤ 10000) : biR .sorted [T.L (xs.map En.d)] = .ok (.L ((byWay ys).map En.d)) := by
  have nd' : (xs.map En.w).Nodup := (p.map En.w).nodup_iff.mpr nd
  have e1 : byWay xs = byWay ys := (byWay_srt nd').perm (byWay_srt nd) ((byWay_perm xs).trans (p.trans (byWay_perm ys).symm))
  rw [← e1, ← sortD_ens nd']
  exact bi_sorted kids_L (sortB_ens (by rw [p.length_eq, sizeLine_eq]; omega))
theorem grafted (n : Nat) (es bs : List En) (w : List Str) (m t : Str) (he : es.length ≤ 1000) (hb : bs.length ≤ 1000) (hw : w.length ≤ 100) (hbw : ∀ b ∈ bs, b.w.length ≤ 100) (nd : ((gr es w m t bs).map En.w).Nodup) :
    evF ds fl (n + 3) 3 [.imm (Tr es), .imm (Wy w), .imm (Th m t), .imm (Tr bs)] = .ok (.L ((byWay (gr es w m t bs)).map En.d)) := by
  have e1 := without_ n es (by omega) w
  have hwl : (without es w).length ≤ es.length := List.length_filter_le ..
  have ap0 : appT (.L ((without es w).map En.d)) (.imm (En.mk w m t).d) = some (.L ((without es w ++ [En.mk w m t]).map En.d)) := by
    rw [appT_L (by rw [sizeLine_eq]; simp; omega)]; simp
  rw [evF_succ (d := d3) rfl]
  simp only [d3]
  simp only [eVs0, eVs1, eVs2, eVs3, eVs4, eVs5, eVs6, eVs7, O.of_ok, O.of_ex, isVar, initE, List.length_map, List.map_cons, List.map_nil, List.length_cons, List.length_nil, List.replicate_succ, List.replicate_zero, List.cons_append, List.nil_append, List.getElem?_cons_zero, List.getElem?_cons_succ, List.set_cons_zero, List.set_cons_succ, Bool.or_true, Bool.true_or, Bool.or_false, Bool.false_or, Bool.and_true, Bool.true_and, Bool.not_true, Bool.not_false, Bool.not_not, if_true, if_false, decide_true, decide_false, Bool.false_eq_true, Bool.true_eq_false, reduceIte, reduceCtorEq, Nat.reduceSub, Nat.reduceAdd, Int.reduceLT, Int.reduceEq, Int.reduceNeg, Int.reduceLE, Int.reducePow, Nat.reduceAdd, eq_self, and_self, and_true, true_and, not_true, not_false_eq_true, uVs0, uVs1, e1, ap0]
  refine forB_map (f := En.d) (fun o => outR (o.seq _) = Rs.ok (T.L ((byWay (gr es w m t bs)).map En.d))) (fun pre ρ => ∃ u, ρ = [some (.imm (Tr es)), some (.imm (Wy w)), some (.imm (Th m t)), some (.imm (Tr bs)), some (.L ((without es w ++ [En.mk w m t] ++ ahead w pre).map En.d)), u]) ⟨none, by simp [ahead]⟩ ?_ ?_
  · rintro pre e post ρ hx ⟨u, rfl⟩
    have h2 : pre.length < bs.length := by rw [hx]; simp
    have hel := hbw e (by rw [hx]; simp)
    have ha := add_wy (a := w) (b := e.w) (small_n (by omega))
    have ap : appT (.L ((without es w ++ [En.mk w m t] ++ ahead w pre).map En.d)) (.imm (En.mk (w ++ e.w) e.m e.t).d) = some (.L ((without es w ++ [En.mk w m t] ++ ahead w (pre ++ [e])).map En.d)) := by
      rw [appT_L (by rw [sizeLine_eq]; simp [ahead]; omega)]; simp [ahead]
    exact ⟨_, by simp only [eVs0, eVs1, eVs2, eVs3, eVs4, eVs5, eVs6, eVs7, O.of_ok, O.of_ex, isVar, initE, List.length_map, List.map_cons, List.map_nil, List.length_cons, List.length_nil, List.replicate_succ, List.replicate_zero, List.cons_append, List.nil_append, List.getElem?_cons_zero, List.getElem?_cons_succ, List.set_cons_zero, List.set_cons_succ, Bool.or_true, Bool.true_or, Bool.or_false, Bool.false_or, Bool.and_true, Bool.true_and, Bool.not_true, Bool.not_false, Bool.not_not, if_true, if_false, decide_true, decide_false, Bool.false_eq_true, Bool.true_eq_false, reduceIte, reduceCtorEq, Nat.reduceSub, Nat.reduceAdd, Int.reduceLT, Int.reduceEq, Int.reduceNeg, Int.reduceLE, Int.reducePow, Nat.reduceAdd, eq_self, and_self, and_true, true_and, not_true, not_false_eq_true, uVs0, uVs1, ha, ap] <;> rfl, _, rfl⟩
  · rintro ρ' ⟨u, rfl⟩
    have hs := sort_gr (List.Perm.refl _) nd (by have := gr_len (es := es) (w := w) (m := m) (t := t) (bs := bs); omega)
    unfold gr at hs ⊢
    simp only [eVs0, eVs1, eVs2, eVs3, eVs4, eVs5, eVs6, eVs7, O.of_ok, O.of_ex, isVar, initE, List.length_map, List.map_cons, List.map_nil, List.length_cons, List.length_nil, List.replicate_succ, List.replicate_zero, List.cons_append, List.nil_append, List.getElem?_cons_zero, List.getElem?_cons_succ, List.set_cons_zero, List.set_cons_succ, Bool.or_true, Bool.true_or, Bool.or_false, Bool.false_or, Bool.and_true, Bool.true_and, Bool.not_true, Bool.not_false, Bool.not_not, if_true, if_false, decide_true, decide_false, Bool.false_eq_true, Bool.true_eq_false, reduceIte, reduceCtorEq, Nat.reduceSub, Nat.reduceAdd, Int.reduceLT, Int.reduceEq, Int.reduceNeg, Int.reduceLE, Int.reducePow, Nat.reduceAdd, eq_self, and_self, and_true, true_and, not_true, not_false_eq_true, uVs0, uVs1, hs]
def pn0 (w : List Str) (m t : Str) (pre : List En) : List En := [⟨w, m, t⟩] ++ pre.filter (fun e => !decide (e.w.take w.length = w))
theorem put_in (n : Nat) (es bs : List En) (w : List Str) (m t : Str) (he : es.length ≤ 1000) (hb : bs.length ≤ 1000) (hw : w.length ≤ 100) (hbw : ∀ b ∈ bs, b.w.length ≤ 100) (nd : ((gr es w m t bs).map En.w).Nodup) :
    evF ds fl (n + 1) 13 [.imm (Tr es), .imm (Wy w), .imm (Th m t), .imm (Tr bs)] = .ok (.L ((byWay (gr es w m t bs)).map En.d)) := by
  rw [evF_succ (d := d13) rfl]
  simp only [d13]
  simp only [eVs0, eVs1, eVs2, eVs3, eVs4, eVs5, eVs6, eVs7, O.of_ok, O.of_ex, isVar, initE, List.length_map, List.map_cons, List.map_nil, List.length_cons, List.length_nil, List.replicate_succ, List.replicate_zero, List.cons_append, List.nil_append, List.getElem?_cons_zero, List.getElem?_cons_succ, List.set_cons_zero, List.set_cons_succ, Bool.or_true, Bool.true_or, Bool.or_false, Bool.false_or, Bool.and_true, Bool.true_and, Bool.not_true, Bool.not_false, Bool.not_not, if_true, if_false, decide_true, decide_false, Bool.false_eq_true, Bool.true_eq_false, reduceIte, reduceCtorEq, Nat.reduceSub, Nat.reduceAdd, Int.reduceLT, Int.reduceEq, Int.reduceNeg, Int.reduceLE, Int.reducePow, Nat.reduceAdd, eq_self, and_self, and_true, true_and, not_true, not_false_eq_true, uVs0, uVs1]
  refine forB_map (f := En.d) (fun o => outR (o.seq _) = Rs.ok (T.L ((byWay (gr es w m t bs)).map En.d))) (fun pre ρ => ∃ u, ρ = [some (.imm (Tr es)), some (.imm (Wy w)), some (.imm (Th m t)), some (.imm (Tr bs)), some (.L ((pn0 w m t pre).map En.d)), u]) ⟨none, rfl⟩ ?_ ?_
  · rintro pre e post ρ hx ⟨u, rfl⟩
    have h2 : pre.length < es.length := by rw [hx]; simp
    have hf := List.length_filter_le (fun e : En => !decide (e.w.take w.length = w)) pre
    by_cases h : e.w.take w.length = w
    · exact ⟨_, by simp only [eVs0, eVs1, eVs2, eVs3, eVs4, eVs5, eVs6, eVs7, O.of_ok, O.of_ex, isVar, initE, List.length_map, List.map_cons, List.map_nil, List.length_cons, List.length_nil, List.replicate_succ, List.replicate_zero, List.cons_append, List.nil_append, List.getElem?_cons_zero, List.getElem?_cons_succ, List.set_cons_zero, List.set_cons_succ, Bool.or_true, Bool.true_or, Bool.or_false, Bool.false_or, Bool.and_true, Bool.true_and, Bool.not_true, Bool.not_false, Bool.not_not, if_true, if_false, decide_true, decide_false, Bool.false_eq_true, Bool.true_eq_false, reduceIte, reduceCtorEq, Nat.reduceSub, Nat.reduceAdd, Int.reduceLT, Int.reduceEq, Int.reduceNeg, Int.reduceLE, Int.reducePow, Nat.reduceAdd, eq_self, and_self, and_true, true_and, not_true, not_false_eq_true, uVs0, uVs1, slc_wy, cut_to, h] <;> rfl, some (.imm e.d), by simp [pn0, h]⟩
    · have ap : appT (.L ((pn0 w m t pre).map En.d)) (.imm e.d) = some (.L ((pn0 w m t (pre ++ [e])).map En.d)) := by
        rw [appT_L (by rw [sizeLine_eq]; simp [pn0]; omega)]; simp [pn0, h]
      exact ⟨_, by simp only [eVs0, eVs1, eVs2, eVs3, eVs4, eVs5, eVs6, eVs7, O.of_ok, O.of_ex, isVar, initE, List.length_map, List.map_cons, List.map_nil, List.length_cons, List.length_nil, List.replicate_succ, List.replicate_zero, List.cons_append, List.nil_append, List.getElem?_cons_zero, List.getElem?_cons_succ, List.set_cons_zero, List.set_cons_succ, Bool.or_true, Bool.true_or, Bool.or_false, Bool.false_or, Bool.and_true, Bool.true_and, Bool.not_true, Bool.not_false, Bool.not_not, if_true, if_false, decide_true, decide_false, Bool.false_eq_true, Bool.true_eq_false, reduceIte, reduceCtorEq, Nat.reduceSub, Nat.reduceAdd, Int.reduceLT, Int.reduceEq, Int.reduceNeg, Int.reduceLE, Int.reducePow, Nat.reduceAdd, eq_self, and_self, and_true, true_and, not_true, not_false_eq_true, uVs0, uVs1, slc_wy, cut_to, h, ap] <;> rfl, some (.imm e.d), rfl⟩
  · rintro ρ' ⟨u, rfl⟩
    have hf := List.length_filter_le (fun e : En => !decide (e.w.take w.length = w)) es
    simp only [eVs0, eVs1, eVs2, eVs3, eVs4, eVs5, eVs6, eVs7, O.of_ok, O.of_ex, isVar, initE, List.length_map, List.map_cons, List.map_nil, List.length_cons, List.length_nil, List.replicate_succ, List.replicate_zero, List.cons_append, List.nil_append, List.getElem?_cons_zero, List.getElem?_cons_succ, List.set_cons_zero, List.set_cons_succ, Bool.or_true, Bool.true_or, Bool.or_false, Bool.false_or, Bool.and_true, Bool.true_and, Bool.not_true, Bool.not_false, Bool.not_not, if_true, if_false, decide_true, decide_false, Bool.false_eq_true, Bool.true_eq_false, reduceIte, reduceCtorEq, Nat.reduceSub, Nat.reduceAdd, Int.reduceLT, Int.reduceEq, Int.reduceNeg, Int.reduceLE, Int.reducePow, Nat.reduceAdd, eq_self, and_self, and_true, true_and, not_true, not_false_eq_true, uVs0, uVs1]
    refine forB_map (f := En.d) (fun o => outR (o.seq _) = Rs.ok (T.L ((byWay (gr es w m t bs)).map En.d))) (fun pre ρ => ∃ u, ρ = [some (.imm (Tr es)), some (.imm (Wy w)), some (.imm (Th m t)), some (.imm (Tr bs)), some (.L ((pin es w m t pre).map En.d)), u]) ⟨u, by simp [ahead, pin, pn0]⟩ ?_ ?_
    · rintro pre e post ρ hx ⟨u, rfl⟩
      have h2 : pre.length < bs.length := by rw [hx]; simp
      have hel := hbw e (by rw [hx]; simp)
      have ha := add_wy (a := w) (b := e.w) (small_n (by omega))
      have ap : appT (.L ((pin es w m t pre).map En.d)) (.imm (En.mk (w ++ e.w) e.m e.t).d) = some (.L ((pin es w m t (pre ++ [e])).map En.d)) := by
        rw [appT_L (by rw [sizeLine_eq]; simp [ahead, pin]; omega)]; simp [ahead, pin]
      exact ⟨_, by simp only [eVs0, eVs1, eVs2, eVs3, eVs4, eVs5, eVs6, eVs7, O.of_ok, O.of_ex, isVar, initE, List.length_map, List.map_cons, List.map_nil, List.length_cons, List.length_nil, List.replicate_succ, List.replicate_zero, List.cons_append, List.nil_append, List.getElem?_cons_zero, List.getElem?_cons_succ, List.set_cons_zero, List.set_cons_succ, Bool.or_true, Bool.true_or, Bool.or_false, Bool.false_or, Bool.and_true, Bool.true_and, Bool.not_true, Bool.not_false, Bool.not_not, if_true, if_false, decide_true, decide_false, Bool.false_eq_true, Bool.true_eq_false, reduceIte, reduceCtorEq, Nat.reduceSub, Nat.reduceAdd, Int.reduceLT, Int.reduceEq, Int.reduceNeg, Int.reduceLE, Int.reducePow, Nat.reduceAdd, eq_self, and_self, and_true, true_and, not_true, not_false_eq_true, uVs0, uVs1, ha, ap] <;> rfl, some (.imm e.d), rfl⟩
    · rintro ρ' ⟨u, rfl⟩
      have hs := sort_gr gr_perm nd (by have := gr_len (es := es) (w := w) (m := m) (t := t) (bs := bs); omega)
      simp only [eVs0, eVs1, eVs2, eVs3, eVs4, eVs5, eVs6, eVs7, O.of_ok, O.of_ex, isVar, initE, List.length_map, List.map_cons, List.map_nil, List.length_cons, List.length_nil, List.replicate_succ, List.replicate_zero, List.cons_append, List.nil_append, List.getElem?_cons_zero, List.getElem?_cons_succ, List.set_cons_zero, List.set_cons_succ, Bool.or_true, Bool.true_or, Bool.or_false, Bool.false_or, Bool.and_true, Bool.true_and, Bool.not_true, Bool.not_false, Bool.not_not, if_true, if_false, decide_true, decide_false, Bool.false_eq_true, Bool.true_eq_false, reduceIte, reduceCtorEq, Nat.reduceSub, Nat.reduceAdd, Int.reduceLT, Int.reduceEq, Int.reduceNeg, Int.reduceLE, Int.reducePow, Nat.reduceAdd, eq_self, and_self, and_true, true_and, not_true, not_false_eq_true, uVs0, uVs1, hs]
theorem same (n : Nat) (a b : List En) (hb : b.length ≤ 10000) : evF ds fl (n + 1) 12 [.imm (Tr a), .imm (Tr b)] = .ok (.imm (.bool (decide (a = b)))) := by
  rw [evF_succ (d := d12) rfl]
  simp only [d12]
  by_cases hl : (a.length : Int) = b.length
  · simp only [eVs0, eVs1, eVs2, eVs3, eVs4, eVs5, eVs6, eVs7, O.of_ok, O.of_ex, isVar, initE, List.length_map, List.map_cons, List.map_nil, List.length_cons, List.length_nil, List.replicate_succ, List.replicate_zero, List.cons_append, List.nil_append, List.getElem?_cons_zero, List.getElem?_cons_succ, List.set_cons_zero, List.set_cons_succ, Bool.or_true, Bool.true_or, Bool.or_false, Bool.false_or, Bool.and_true, Bool.true_and, Bool.not_true, Bool.not_false, Bool.not_not, if_true, if_false, decide_true, decide_false, Bool.false_eq_true, Bool.true_eq_false, reduceIte, reduceCtorEq, Nat.reduceSub, Nat.reduceAdd, Int.reduceLT, Int.reduceEq, Int.reduceNeg, Int.reduceLE, Int.reducePow, Nat.reduceAdd, eq_self, and_self, and_true, true_and, not_true, not_false_eq_true, uVs0, uVs1, hl]
    rw [rng0 (by omega)]
    simp only [eVs0, eVs1, eVs2, eVs3, eVs4, eVs5, eVs6, eVs7, O.of_ok, O.of_ex, isVar, initE, List.length_map, List.map_cons, List.map_nil, List.length_cons, List.length_nil, List.replicate_succ, List.replicate_zero, List.cons_append, List.nil_append, List.getElem?_cons_zero, List.getElem?_cons_succ, List.set_cons_zero, List.set_cons_succ, Bool.or_true, Bool.true_or, Bool.or_false, Bool.false_or, Bool.and_true, Bool.true_and, Bool.not_true, Bool.not_false, Bool.not_not, if_true, if_false, decide_true, decide_false, Bool.false_eq_true, Bool.true_eq_false, reduceIte, reduceCtorEq, Nat.reduceSub, Nat.reduceAdd, Int.reduceLT, Int.reduceEq, Int.reduceNeg, Int.reduceLE, Int.reducePow, Nat.reduceAdd, eq_self, and_self, and_true, true_and, not_true, not_false_eq_true, uVs0, uVs1]
    refine forB_retR (fun o => outR (o.seq _) = Rs.ok (T.imm (PyData.bool (decide (a = b))))) (fun k => decide (a[k]? = b[k]?)) (.rt (.imm (.bool false))) (fun ρ' z => by cases z) (fun ρ => ∃ u v, ρ = [some (.imm (Tr a)), some (.imm (Tr b)), u, v]) ⟨none, none, rfl⟩ ?_ ?_ ?_
    · rintro k ρ hk ⟨u, v, rfl⟩
      have e1 : a[k]? = some a[k] := List.getElem?_eq_getElem (by omega)
      have e2 : b[k]? = some b[k] := List.getElem?_eq_getElem hk
      by_cases hm : a[k] = b[k]
      · refine .inl ⟨by simp [e1, e2, hm], _, ?_, some (.imm (.int (k : Int))), some (.imm a[k].d), rfl⟩
        simp only [eVs0, eVs1, eVs2, eVs3, eVs4, eVs5, eVs6, eVs7, O.of_ok, O.of_ex, isVar, initE, List.length_map, List.map_cons, List.map_nil, List.length_cons, List.length_nil, List.replicate_succ, List.replicate_zero, List.cons_append, List.nil_append, List.getElem?_cons_zero, List.getElem?_cons_succ, List.set_cons_zero, List.set_cons_succ, Bool.or_true, Bool.true_or, Bool.or_false, Bool.false_or, Bool.and_true, Bool.true_and, Bool.not_true, Bool.not_false, Bool.not_not, if_true, if_false, decide_true, decide_false, Bool.false_eq_true, Bool.true_eq_false, reduceIte, reduceCtorEq, Nat.reduceSub, Nat.reduceAdd, Int.reduceLT, Int.reduceEq, Int.reduceNeg, Int.reduceLE, Int.reducePow, Nat.reduceAdd, eq_self, and_self, and_true, true_and, not_true, not_false_eq_true, uVs0, uVs1, ix_tr e1, ix_tr e2, hm]
      · refine .inr ⟨by simp [e1, e2, hm], ?_⟩
        simp only [eVs0, eVs1, eVs2, eVs3, eVs4, eVs5, eVs6, eVs7, O.of_ok, O.of_ex, isVar, initE, List.length_map, List.map_cons, List.map_nil, List.length_cons, List.length_nil, List.replicate_succ, List.replicate_zero, List.cons_append, List.nil_append, List.getElem?_cons_zero, List.getElem?_cons_succ, List.set_cons_zero, List.set_cons_succ, Bool.or_true, Bool.true_or, Bool.or_false, Bool.false_or, Bool.and_true, Bool.true_and, Bool.not_true, Bool.not_false, Bool.not_not, if_true, if_false, decide_true, decide_false, Bool.false_eq_true, Bool.true_eq_false, reduceIte, reduceCtorEq, Nat.reduceSub, Nat.reduceAdd, Int.reduceLT, Int.reduceEq, Int.reduceNeg, Int.reduceLE, Int.reducePow, Nat.reduceAdd, eq_self, and_self, and_true, true_and, not_true, not_false_eq_true, uVs0, uVs1, ix_tr e1, ix_tr e2, hm]
    · rintro h ρ' ⟨u, v, rfl⟩
      have : a = b := List.ext_getElem? fun k => by
        by_cases hk : k < b.length
        · simpa using h k hk
        · rw [List.getElem?_eq_none (by omega), List.getElem?_eq_none (by omega)]
      simp only [eVs0, eVs1, eVs2, eVs3, eVs4, eVs5, eVs6, eVs7, O.of_ok, O.of_ex, isVar, initE, List.length_map, List.map_cons, List.map_nil, List.length_cons, List.length_nil, List.replicate_succ, List.replicate_zero, List.cons_append, List.nil_append, List.getElem?_cons_zero, List.getElem?_cons_succ, List.set_cons_zero, List.set_cons_succ, Bool.or_true, Bool.true_or, Bool.or_false, Bool.false_or, Bool.and_true, Bool.true_and, Bool.not_true, Bool.not_false, Bool.not_not, if_true, if_false, decide_true, decide_false, Bool.false_eq_true, Bool.true_eq_false, reduceIte, reduceCtorEq, Nat.reduceSub, Nat.reduceAdd, Int.reduceLT, Int.reduceEq, Int.reduceNeg, Int.reduceLE, Int.reducePow, Nat.reduceAdd, eq_self, and_self, and_true, true_and, not_true, not_false_eq_true, uVs0, uVs1, this]
    · rintro ⟨k, hk, h⟩
      have : ¬ a = b := fun z => by subst z; simp at h
      simp only [eVs0, eVs1, eVs2, eVs3, eVs4, eVs5, eVs6, eVs7, O.of_ok, O.of_ex, isVar, initE, List.length_map, List.map_cons, List.map_nil, List.length_cons, List.length_nil, List.replicate_succ, List.replicate_zero, List.cons_append, List.nil_append, List.getElem?_cons_zero, List.getElem?_cons_succ, List.set_cons_zero, List.set_cons_succ, Bool.or_true, Bool.true_or, Bool.or_false, Bool.false_or, Bool.and_true, Bool.true_and, Bool.not_true, Bool.not_false, Bool.not_not, if_true, if_false, decide_true, decide_false, Bool.false_eq_true, Bool.true_eq_false, reduceIte, reduceCtorEq, Nat.reduceSub, Nat.reduceAdd, Int.reduceLT, Int.reduceEq, Int.reduceNeg, Int.reduceLE, Int.reducePow, Nat.reduceAdd, eq_self, and_self, and_true, true_and, not_true, not_false_eq_true, uVs0, uVs1, this]
  · have : ¬ a = b := fun z => hl (by rw [z])
    simp only [eVs0, eVs1, eVs2, eVs3, eVs4, eVs5, eVs6, eVs7, O.of_ok, O.of_ex, isVar, initE, List.length_map, List.map_cons, List.map_nil, List.length_cons, List.length_nil, List.replicate_succ, List.replicate_zero, List.cons_append, List.nil_append, List.getElem?_cons_zero, List.getElem?_cons_succ, List.set_cons_zero, List.set_cons_succ, Bool.or_true, Bool.true_or, Bool.or_false, Bool.false_or, Bool.and_true, Bool.true_and, Bool.not_true, Bool.not_false, Bool.not_not, if_true, if_false, decide_true, decide_false, Bool.false_eq_true, Bool.true_eq_false, reduceIte, reduceCtorEq, Nat.reduceSub, Nat.reduceAdd, Int.reduceLT, Int.reduceEq, Int.reduceNeg, Int.reduceLE, Int.reducePow, Nat.reduceAdd, eq_self, and_self, and_true, true_and, not_true, not_false_eq_true, uVs0, uVs1, hl, this]
theorem way_by (n : Nat) (es : List En) (c : Int) (x : Str) (hw : ∀ e ∈ es, e.w.length < 15) : ∃ w : List Str, w.length ≤ 15 ∧ evF ds fl (n + 2) 11 [.imm (Tr es), .imm (.int c), .imm (.str x)] = .ok (.imm (Wy w)) := by
  rw [evF_succ (d := d11) rfl]
  simp only [d11]
  have hq := c_eq_dat (a := .imm (Tr es)) (b := .node .lst []) (d := Tr es) (e := Tr []) rfl (dat_L []) (by have := dep_tr (es := es); omega)
  rw [eqv_tr] at hq
  by_cases h0 : es = []
  · exact ⟨[x], by simp, by simp only [eVs0, eVs1, eVs2, eVs3, eVs4, eVs5, eVs6, eVs7, O.of_ok, O.of_ex, isVar, initE, List.length_map, List.map_cons, List.map_nil, List.length_cons, List.length_nil, List.replicate_succ, List.replicate_zero, List.cons_append, List.nil_append, List.getElem?_cons_zero, List.getElem?_cons_succ, List.set_cons_zero, List.set_cons_succ, Bool.or_true, Bool.true_or, Bool.or_false, Bool.false_or, Bool.and_true, Bool.true_and, Bool.not_true, Bool.not_false, Bool.not_not, if_true, if_false, decide_true, decide_false, Bool.false_eq_true, Bool.true_eq_false, reduceIte, reduceCtorEq, Nat.reduceSub, Nat.reduceAdd, Int.reduceLT, Int.reduceEq, Int.reduceNeg, Int.reduceLE, Int.reducePow, Nat.reduceAdd, eq_self, and_self, and_true, true_and, not_true, not_false_eq_true, uVs0, uVs1, hq, h0] <;> rfl⟩
  · have hp : 0 < es.length := List.length_pos_iff.mpr h0
    obtain ⟨r0, hr0, e0⟩ := mixed n c 0 6 (by decide)
    have e0 : evF ds fl (n + 1) 7 [.imm (.int c), .imm (.int 0), .imm (.int 6)] = .ok (.imm (.int (r0 : Int))) := e0
    by_cases h5 : (r0 : Int) = 5
    · exact ⟨[x], by simp, by simp only [eVs0, eVs1, eVs2, eVs3, eVs4, eVs5, eVs6, eVs7, O.of_ok, O.of_ex, isVar, initE, List.length_map, List.map_cons, List.map_nil, List.length_cons, List.length_nil, List.replicate_succ, List.replicate_zero, List.cons_append, List.nil_append, List.getElem?_cons_zero, List.getElem?_cons_succ, List.set_cons_zero, List.set_cons_succ, Bool.or_true, Bool.true_or, Bool.or_false, Bool.false_or, Bool.and_true, Bool.true_and, Bool.not_true, Bool.not_false, Bool.not_not, if_true, if_false, decide_true, decide_false, Bool.false_eq_true, Bool.true_eq_false, reduceIte, reduceCtorEq, Nat.reduceSub, Nat.reduceAdd, Int.reduceLT, Int.reduceEq, Int.reduceNeg, Int.reduceLE, Int.reducePow, Nat.reduceAdd, eq_self, and_self, and_true, true_and, not_true, not_false_eq_true, uVs0, uVs1, hq, h0, e0, h5] <;> rfl⟩
    · obtain ⟨r1, hr1, e1⟩ := mixed n c 1 es.length hp
      obtain ⟨r2, hr2, e2⟩ := mixed n c 2 3 (by decide)
      have e2 : evF ds fl (n + 1) 7 [.imm (.int c), .imm (.int 2), .imm (.int 3)] = .ok (.imm (.int (r2 : Int))) := e2
      have hwl := hw es[r1] (List.getElem_mem hr1)
      have i1 := ix_tr (List.getElem?_eq_getElem hr1)
      generalize es[r1] = e at hwl i1
      have a1 := add_wy (a := e.w) (b := [x]) (small_n (by simp; omega))
      by_cases h1 : e.m = Str.ofString "folder"
      · by_cases h3 : (0 : Int) < r2
        · exact ⟨e.w ++ [x], by simp; omega, by simp only [eVs0, eVs1, eVs2, eVs3, eVs4, eVs5, eVs6, eVs7, O.of_ok, O.of_ex, isVar, initE, List.length_map, List.map_cons, List.map_nil, List.length_cons, List.length_nil, List.replicate_succ, List.replicate_zero, List.cons_append, List.nil_append, List.getElem?_cons_zero, List.getElem?_cons_succ, List.set_cons_zero, List.set_cons_succ, Bool.or_true, Bool.true_or, Bool.or_false, Bool.false_or, Bool.and_true, Bool.true_and, Bool.not_true, Bool.not_false, Bool.not_not, if_true, if_false, decide_true, decide_false, Bool.false_eq_true, Bool.true_eq_false, reduceIte, reduceCtorEq, Nat.reduceSub, Nat.reduceAdd, Int.reduceLT, Int.reduceEq, Int.reduceNeg, Int.reduceLE, Int.reducePow, Nat.reduceAdd, eq_self, and_self, and_true, true_and, not_true, not_false_eq_true, uVs0, uVs1, hq, h0, e0, h5, e1, i1, h1, e2, h3, a1] <;> rfl⟩
        · exact ⟨e.w, by omega, by simp only [eVs0, eVs1, eVs2, eVs3, eVs4, eVs5, eVs6, eVs7, O.of_ok, O.of_ex, isVar, initE, List.length_map, List.map_cons, List.map_nil, List.length_cons, List.length_nil, List.replicate_succ, List.replicate_zero, List.cons_append, List.nil_append, List.getElem?_cons_zero, List.getElem?_cons_succ, List.set_cons_zero, List.set_cons_succ, Bool.or_true, Bool.true_or, Bool.or_false, Bool.false_or, Bool.and_true, Bool.true_and, Bool.not_true, Bool.not_false, Bool.not_not, if_true, if_false, decide_true, decide_false, Bool.false_eq_true, Bool.true_eq_false, reduceIte, reduceCtorEq, Nat.reduceSub, Nat.reduceAdd, Int.reduceLT, Int.reduceEq, Int.reduceNeg, Int.reduceLE, Int.reducePow, Nat.reduceAdd, eq_self, and_self, and_true, true_and, not_true, not_false_eq_true, uVs0, uVs1, hq, h0, e0, h5, e1, i1, h1, e2, h3] <;> rfl⟩
      · exact ⟨e.w, by omega, by simp only [eVs0, eVs1, eVs2, eVs3, eVs4, eVs5, eVs6, eVs7, O.of_ok, O.of_ex, isVar, initE, List.length_map, List.map_cons, List.map_nil, List.length_cons, List.length_nil, List.replicate_succ, List.replicate_zero, List.cons_append, List.nil_append, List.getElem?_cons_zero, List.getElem?_cons_succ, List.set_cons_zero, List.set_cons_succ, Bool.or_true, Bool.true_or, Bool.or_false, Bool.false_or, Bool.and_true, Bool.true_and, Bool.not_true, Bool.not_false, Bool.not_not, if_true, if_false, decide_true, decide_false, Bool.false_eq_true, Bool.true_eq_false, reduceIte, reduceCtorEq, Nat.reduceSub, Nat.reduceAdd, Int.reduceLT, Int.reduceEq, Int.reduceNeg, Int.reduceLE, Int.reducePow, Nat.reduceAdd, eq_self, and_self, and_true, true_and, not_true, not_false_eq_true, uVs0, uVs1, hq, h0, e0, h5, e1, i1, h1] <;> rfl⟩
theorem law_true (ns : List Int) (hl : ns.length ≤ 63) : evF ds fl (lv + 1) 14 [.scr ns] = .ok (.imm (.bool true)) := by
  rw [show lv + 1 = 20 + 1 from rfl, evF_succ (d := d14) rfl]
  simp only [d14]
  have hp : binR .Pow (.imm (.int 10)) (.imm (.int 18)) = .ok (.imm (.int (10 ^ 18))) := r_pow_int ⟨by decide, by decide, by decide⟩
  have hs1 : slsT (.scr ns) (some 2) (some 50) 2 = some (.L ((pickL ns (some 2) (some 50) 2).map .int)) := by simp only [slsT, T.kids, pickL_map]
  have hs2 : slsT (.scr ns) (some 3) (some 51) 2 = some (.L ((pickL ns (some 3) (some 51) 2).map .int)) := by simp only [slsT, T.kids, pickL_map]
  have hl1 := pick_len ns (some 2) (some 50) 2
  have hl2 := pick_len ns (some 3) (some 51) 2
  generalize pickL ns (some 2) (some 50) 2 = cs1 at hs1 hl1
  generalize pickL ns (some 3) (some 51) 2 = cs2 at hs2 hl2
  simp only [eVs0, eVs1, eVs2, eVs3, eVs4, eVs5, eVs6, eVs7, O.of_ok, O.of_ex, isVar, initE, List.length_map, List.map_cons, List.map_nil, List.length_cons, List.length_nil, List.replicate_succ, List.replicate_zero, List.cons_append, List.nil_append, List.getElem?_cons_zero, List.getElem?_cons_succ, List.set_cons_zero, List.set_cons_succ, Bool.or_true, Bool.true_or, Bool.or_false, Bool.false_or, Bool.and_true, Bool.true_and, Bool.not_true, Bool.not_false, Bool.not_not, if_true, if_false, decide_true, decide_false, Bool.false_eq_true, Bool.true_eq_false, reduceIte, reduceCtorEq, Nat.reduceSub, Nat.reduceAdd, Int.reduceLT, Int.reduceEq, Int.reduceNeg, Int.reduceLE, Int.reducePow, Nat.reduceAdd, eq_self, and_self, and_true, true_and, not_true, not_false_eq_true, uVs0, uVs1, cell, hp]
  generalize ns.getD (Int.toNat 0) 0 % 1000000000000000000 = st
  generalize ns.getD (Int.toNat 1) 0 = dr
  have srt : ∀ es : List En, Drawn 15 es → es.length ≤ 63 → Drawn 15 (byWay es) ∧ Srt (byWay es) ∧ (byWay es).length ≤ 63 := fun es h hl => ⟨h.perm (byWay_perm es), byWay_srt h.nd, by rw [(byWay_perm es).length_eq]; exact hl⟩
  obtain ⟨es, hD, hle, e1⟩ := tree_by 17 cs1 (by omega) st
  obtain ⟨hD, hS, hle⟩ := srt es hD (by omega)
  have e1 : evF ds fl 20 10 _ = _ := e1
  obtain ⟨bs, hE, hbe, e2⟩ := tree_by 17 cs2 (by omega) st
  obtain ⟨hE, _, hbe⟩ := srt bs hE (by omega)
  have e2 : evF ds fl 20 10 _ = _ := e2
  generalize byWay es = es at hD hS hle e1
  generalize byWay bs = bs at hE hbe e2
  obtain ⟨r1, hr1, f1⟩ := mixed 19 dr 3 5 (by decide)
  have f1 : evF ds fl 20 7 [.imm (.int dr), .imm (.int 3), .imm (.int 5)] = .ok (.imm (.int (r1 : Int))) := f1
  obtain ⟨d, hd, ed⟩ := ix_tup_ex (xs := [.str (Str.ofString "folder"), .str (Str.ofString "file"), .str (Str.ofString "folder"), .str (Str.ofString "link"), .str (Str.ofString "folder")]) (i := (r1 : Int)) (by omega) (by simp; omega)
  obtain ⟨mk, rfl⟩ : ∃ mk : Str, d = .str mk := by
    simp only [List.mem_cons, List.not_mem_nil, or_false] at hd
    rcases hd with rfl | rfl | rfl | rfl | rfl <;> exact ⟨_, rfl⟩
  obtain ⟨t, f2⟩ := text_by 18 mk dr st 9 (by decide)
  have f2 : evF ds fl 20 9 [.imm (.str mk), .imm (.int dr), .imm (.int st), .imm (.int 9)] = _ := f2
  obtain ⟨r2, hr2, f3⟩ := mixed 19 dr 4 9 (by decide)
  have f3 : evF ds fl 20 7 [.imm (.int dr), .imm (.int 4), .imm (.int 9)] = .ok (.imm (.int (r2 : Int))) := f3
  obtain ⟨x, _, f4⟩ := name_by 19 st r2
  have f4 : evF ds fl 20 8 _ = _ := f4
  obtain ⟨w, hw, f5⟩ := way_by 18 es dr x fun e he => (hD.ne e he).2
  have f5 : evF ds fl 20 11 _ = _ := f5
  have fin : ∀ bs : List En, Drawn 15 bs → bs.length ≤ 63 → ∀ ρ : Env, ρ = [some (.scr ns), some (.imm (.int st)), some (.imm (.int dr)), some (.imm (Tr es)), some (.imm (Tr bs)), some (.imm (.str mk)), some (.imm (Th mk t)), none, none, none, none, none, none, none] →
    outR (evSs (evF ds fl 20) fl (d14.body.drop 10) ρ) = .ok (.imm (.bool true)) := by
    rintro bs hE hbe ρ rfl
    have nd := gr_nd (w := w) (m := mk) (t := t) hD.nd hE.nd fun b hb => (hE.ne b hb).1
    have hb15 : ∀ b ∈ bs, b.w.length ≤ 100 := fun b hb => by have := (hE.ne b hb).2; omega
    have g1 : evF ds fl 20 3 _ = _ := grafted 17 es bs w mk t (by omega) (by omega) (by omega) hb15 nd
    have g2 : evF ds fl 20 13 _ = _ := put_in 19 es bs w mk t (by omega) (by omega) (by omega) hb15 nd
    have gl := gr_len (es := es) (w := w) (m := mk) (t := t) (bs := bs)
    have g3 : evF ds fl 20 12 _ = _ := same 19 (byWay (gr es w mk t bs)) (byWay (gr es w mk t bs)) (by rw [(byWay_perm _).length_eq]; omega)
    have hsum := add_L (a := (cutL es none (some 8)).map En.d) (b := (cutL es (some (-4)) none).map En.d) (by
      have := cut_len es none (some 8)
      have := cut_len es (some (-4)) none
      simp; omega)
    have i0 : idxT (.imm (.list [Tr es, Tr bs])) (.int 0) = some (.imm (Tr es)) := id rfl
    have i1 : idxT (.imm (.list [Tr es, Tr bs])) (.int 1) = some (.imm (Tr bs)) := id rfl
    simp only [d14, List.drop]
    simp only [eVs0, eVs1, eVs2, eVs3, eVs4, eVs5, eVs6, eVs7, O.of_ok, O.of_ex, isVar, initE, List.length_map, List.map_cons, List.map_nil, List.length_cons, List.length_nil, List.replicate_succ, List.replicate_zero, List.cons_append, List.nil_append, List.getElem?_cons_zero, List.getElem?_cons_succ, List.set_cons_zero, List.set_cons_succ, Bool.or_true, Bool.true_or, Bool.or_false, Bool.false_or, Bool.and_true, Bool.true_and, Bool.not_true, Bool.not_false, Bool.not_not, if_true, if_false, decide_true, decide_false, Bool.false_eq_true, Bool.true_eq_false, reduceIte, reduceCtorEq, Nat.reduceSub, Nat.reduceAdd, Int.reduceLT, Int.reduceEq, Int.reduceNeg, Int.reduceLE, Int.reducePow, Nat.reduceAdd, eq_self, and_self, and_true, true_and, not_true, not_false_eq_true, uVs0, uVs1, xVs0, f3, f4, f5, i0, i1, g1, g2, g3, hsum, ← List.map_append]
    refine forB_each (f := En.d) (fun o => outR (o.seq _) = Rs.ok (T.imm (PyData.bool true))) (fun ρ => ∃ u0 u1 u2 u3 : Option T, ρ = [some (.scr ns), some (.imm (.int st)), some (.imm (.int dr)), some (.imm (Tr es)), some (.imm (Tr bs)), some (.imm (.str mk)), some (.imm (Th mk t)), some (.imm (Wy w)), some (.imm (.list [Tr es, Tr bs])), some (.imm (Tr (byWay (gr es w mk t bs)))), u0, u1, u2, u3]) ⟨none, none, none, none, rfl⟩ ?_ ?_
    · rintro r ρ hrm ⟨u0, u1, u2, u3, rfl⟩
      have hr : r ∈ es := by rcases List.mem_append.mp hrm with h | h <;> exact cut_mem h
      have ht := thing_ 18 es (by omega) hD.nd r.w
      have hth : thing es r.w = Th r.m r.t := by
        unfold thing
        rw [if_neg (hD.ne r hr).1, ← look_byW hD.nd, byW_eq hD.nd]
        have := enM_look hD.nd hr
        unfold enM at this
        rw [this]; rfl
      rw [hth] at ht
      have ht : evF ds fl 20 5 _ = _ := ht
      have hp1 : evF ds fl 20 1 _ = _ := part_ 18 es (by omega) r.w
      have hp2 : evF ds fl 20 2 _ = _ := without_ 18 es (by omega) r.w
      have l1 : (part es r.w).length ≤ es.length := by unfold part; rw [List.length_map]; exact List.length_filter_le ..
      have l2 : (without es r.w).length ≤ es.length := List.length_filter_le ..
      have back := gr_back hS (fun e he => (hD.ne e he).1) hr
      have nd' : ((gr (without es r.w) r.w r.m r.t (part es r.w)).map En.w).Nodup := by
        have := hD.nd
        rw [← back] at this
        exact ((byWay_perm _).map En.w).nodup_iff.mp this
      have hg := grafted 17 (without es r.w) (part es r.w) r.w r.m r.t (by omega) (by omega) (by have := (hD.ne r hr).2; omega) (fun b hb => by
        obtain ⟨e, he, rfl⟩ := List.mem_map.mp hb
        have := (hD.ne e (List.mem_filter.mp he).1).2
        simp; omega) nd'
      rw [back] at hg
      have hg : evF ds fl 20 3 _ = _ := hg
      have hs : evF ds fl 20 12 _ = _ := same 19 es es (by omega)
      have cn : cmpR .NotEq (.imm (Th r.m r.t)) (.imm (Th r.m r.t)) = .ok (.imm (.bool false)) := by
        rw [c_ne_dat (d := Th r.m r.t) (e := Th r.m r.t) rfl rfl (by rw [dep_th]; decide), eqv_th]
        simp
      refine ⟨_, by simp only [eVs0, eVs1, eVs2, eVs3, eVs4, eVs5, eVs6, eVs7, O.of_ok, O.of_ex, isVar, initE, List.length_map, List.map_cons, List.map_nil, List.length_cons, List.length_nil, List.replicate_succ, List.replicate_zero, List.cons_append, List.nil_append, List.getElem?_cons_zero, List.getElem?_cons_succ, List.set_cons_zero, List.set_cons_succ, Bool.or_true, Bool.true_or, Bool.or_false, Bool.false_or, Bool.and_true, Bool.true_and, Bool.not_true, Bool.not_false, Bool.not_not, if_true, if_false, decide_true, decide_false, Bool.false_eq_true, Bool.true_eq_false, reduceIte, reduceCtorEq, Nat.reduceSub, Nat.reduceAdd, Int.reduceLT, Int.reduceEq, Int.reduceNeg, Int.reduceLE, Int.reducePow, Nat.reduceAdd, eq_self, and_self, and_true, true_and, not_true, not_false_eq_true, uVs0, uVs1, xVs0, ht, i0, hp1, hp2, hg, hs, cn] <;> rfl, _, _, _, _, rfl⟩
    · rintro ρ' ⟨u0, u1, u2, u3, rfl⟩
      have q1 := c_eq_dat (a := .imm (Tr es)) (b := .imm (Tr es)) (d := Tr es) (e := Tr es) rfl rfl (by have := dep_tr (es := es); omega)
      have q2 := c_eq_dat (a := .imm (Tr bs)) (b := .imm (Tr bs)) (d := Tr bs) (e := Tr bs) rfl rfl (by have := dep_tr (es := bs); omega)
      rw [eqv_tr] at q1 q2
      simp only [eVs0, eVs1, eVs2, eVs3, eVs4, eVs5, eVs6, eVs7, O.of_ok, O.of_ex, isVar, initE, List.length_map, List.map_cons, List.map_nil, List.length_cons, List.length_nil, List.replicate_succ, List.replicate_zero, List.cons_append, List.nil_append, List.getElem?_cons_zero, List.getElem?_cons_succ, List.set_cons_zero, List.set_cons_succ, Bool.or_true, Bool.true_or, Bool.or_false, Bool.false_or, Bool.and_true, Bool.true_and, Bool.not_true, Bool.not_false, Bool.not_not, if_true, if_false, decide_true, decide_false, Bool.false_eq_true, Bool.true_eq_false, reduceIte, reduceCtorEq, Nat.reduceSub, Nat.reduceAdd, Int.reduceLT, Int.reduceEq, Int.reduceNeg, Int.reduceLE, Int.reducePow, Nat.reduceAdd, eq_self, and_self, and_true, true_and, not_true, not_false_eq_true, uVs0, uVs1, xVs0, i0, i1, q1, q2]
  by_cases hm : mk = Str.ofString "folder"
  · subst hm
    simp only [eVs0, eVs1, eVs2, eVs3, eVs4, eVs5, eVs6, eVs7, O.of_ok, O.of_ex, isVar, initE, List.length_map, List.map_cons, List.map_nil, List.length_cons, List.length_nil, List.replicate_succ, List.replicate_zero, List.cons_append, List.nil_append, List.getElem?_cons_zero, List.getElem?_cons_succ, List.set_cons_zero, List.set_cons_succ, Bool.or_true, Bool.true_or, Bool.or_false, Bool.false_or, Bool.and_true, Bool.true_and, Bool.not_true, Bool.not_false, Bool.not_not, if_true, if_false, decide_true, decide_false, Bool.false_eq_true, Bool.true_eq_false, reduceIte, reduceCtorEq, Nat.reduceSub, Nat.reduceAdd, Int.reduceLT, Int.reduceEq, Int.reduceNeg, Int.reduceLE, Int.reducePow, Nat.reduceAdd, eq_self, and_self, and_true, true_and, not_true, not_false_eq_true, uVs0, uVs1, hs1, hs2, e1, e2, f1, ed, f2]
    have h := fin bs hE hbe _ rfl
    simp only [d14, List.drop] at h
    simp only [eVs0, eVs1, eVs2, eVs3, eVs4, eVs5, eVs6, eVs7, O.of_ok, O.of_ex, isVar, initE, List.length_map, List.map_cons, List.map_nil, List.length_cons, List.length_nil, List.replicate_succ, List.replicate_zero, List.cons_append, List.nil_append, List.getElem?_cons_zero, List.getElem?_cons_succ, List.set_cons_zero, List.set_cons_succ, Bool.or_true, Bool.true_or, Bool.or_false, Bool.false_or, Bool.and_true, Bool.true_and, Bool.not_true, Bool.not_false, Bool.not_not, if_true, if_false, decide_true, decide_false, Bool.false_eq_true, Bool.true_eq_false, reduceIte, reduceCtorEq, Nat.reduceSub, Nat.reduceAdd, Int.reduceLT, Int.reduceEq, Int.reduceNeg, Int.reduceLE, Int.reducePow, Nat.reduceAdd, eq_self, and_self, and_true, true_and, not_true, not_false_eq_true, uVs0, uVs1] at h
    exact h
  · simp only [eVs0, eVs1, eVs2, eVs3, eVs4, eVs5, eVs6, eVs7, O.of_ok, O.of_ex, isVar, initE, List.length_map, List.map_cons, List.map_nil, List.length_cons, List.length_nil, List.replicate_succ, List.replicate_zero, List.cons_append, List.nil_append, List.getElem?_cons_zero, List.getElem?_cons_succ, List.set_cons_zero, List.set_cons_succ, Bool.or_true, Bool.true_or, Bool.or_false, Bool.false_or, Bool.and_true, Bool.true_and, Bool.not_true, Bool.not_false, Bool.not_not, if_true, if_false, decide_true, decide_false, Bool.false_eq_true, Bool.true_eq_false, reduceIte, reduceCtorEq, Nat.reduceSub, Nat.reduceAdd, Int.reduceLT, Int.reduceEq, Int.reduceNeg, Int.reduceLE, Int.reducePow, Nat.reduceAdd, eq_self, and_self, and_true, true_and, not_true, not_false_eq_true, uVs0, uVs1, hs1, hs2, e1, e2, f1, ed, f2, hm]
    have h := fin [] Drawn.nil (by simp) _ rfl
    simp only [d14, List.drop] at h
    simp only [eVs0, eVs1, eVs2, eVs3, eVs4, eVs5, eVs6, eVs7, O.of_ok, O.of_ex, isVar, initE, List.length_map, List.map_cons, List.map_nil, List.length_cons, List.length_nil, List.replicate_succ, List.replicate_zero, List.cons_append, List.nil_append, List.getElem?_cons_zero, List.getElem?_cons_succ, List.set_cons_zero, List.set_cons_succ, Bool.or_true, Bool.true_or, Bool.or_false, Bool.false_or, Bool.and_true, Bool.true_and, Bool.not_true, Bool.not_false, Bool.not_not, if_true, if_false, decide_true, decide_false, Bool.false_eq_true, Bool.true_eq_false, reduceIte, reduceCtorEq, Nat.reduceSub, Nat.reduceAdd, Int.reduceLT, Int.reduceEq, Int.reduceNeg, Int.reduceLE, Int.reducePow, Nat.reduceAdd, eq_self, and_self, and_true, true_and, not_true, not_false_eq_true, uVs0, uVs1, hm] at h
    exact h
end Gl.k10

set_option Elab.async false
set_option linter.all false
set_option maxRecDepth 100000
set_option maxHeartbeats 4000000
namespace Gl.k10
open PySem L2
def topS (i : Nat) : Stmt := PySem.Challenge.rw_glasslayers_k10_put_in_and_back.prog.main.body.getD i (.Pass ⟨0, 0, 0, 0⟩)
theorem sc0 : FnScope d0.N (d0.N.take d0.n) (defScope (topS 1)) := ⟨rfl, rfl, rfl, by decide +kernel, rfl, by decide +kernel, by decide +kernel⟩
theorem ck0 : mSs (dmx ds tx) d0.N (defScope (topS 1)) d0.body (defBody (topS 1)) = true := by decide +kernel
theorem sc1 : FnScope d1.N (d1.N.take d1.n) (defScope (topS 3)) := ⟨rfl, rfl, rfl, by decide +kernel, rfl, by decide +kernel, by decide +kernel⟩
theorem ck1 : mSs (dmx ds tx) d1.N (defScope (topS 3)) d1.body (defBody (topS 3)) = true := by decide +kernel
theorem sc2 : FnScope d2.N (d2.N.take d2.n) (defScope (topS 4)) := ⟨rfl, rfl, rfl, by decide +kernel, rfl, by decide +kernel, by decide +kernel⟩
theorem ck2 : mSs (dmx ds tx) d2.N (defScope (topS 4)) d2.body (defBody (topS 4)) = true := by decide +kernel
theorem sc3 : FnScope d3.N (d3.N.take d3.n) (defScope (topS 5)) := ⟨rfl, rfl, rfl, by decide +kernel, rfl, by decide +kernel, by decide +kernel⟩
theorem ck3 : mSs (dmx ds tx) d3.N (defScope (topS 5)) d3.body (defBody (topS 5)) = true := by decide +kernel
theorem sc4 : FnScope d4.N (d4.N.take d4.n) (defScope (topS 8)) := ⟨rfl, rfl, rfl, by decide +kernel, rfl, by decide +kernel, by decide +kernel⟩
theorem ck4 : mSs (dmx ds tx) d4.N (defScope (topS 8)) d4.body (defBody (topS 8)) = true := by decide +kernel
theorem sc5 : FnScope d5.N (d5.N.take d5.n) (defScope (topS 10)) := ⟨rfl, rfl, rfl, by decide +kernel, rfl, by decide +kernel, by decide +kernel⟩
theorem ck5 : mSs (dmx ds tx) d5.N (defScope (topS 10)) d5.body (defBody (topS 10)) = true := by decide +kernel
theorem sc6 : FnScope d6.N (d6.N.take d6.n) (defScope (topS 12)) := ⟨rfl, rfl, rfl, by decide +kernel, rfl, by decide +kernel, by decide +kernel⟩
theorem ck6 : mSs (dmx ds tx) d6.N (defScope (topS 12)) d6.body (defBody (topS 12)) = true := by decide +kernel
theorem sc7 : FnScope d7.N (d7.N.take d7.n) (defScope (topS 13)) := ⟨rfl, rfl, rfl, by decide +kernel, rfl, by decide +kernel, by decide +kernel⟩
theorem ck7 : mSs (dmx ds tx) d7.N (defScope (topS 13)) d7.body (defBody (topS 13)) = true := by decide +kernel
theorem sc8 : FnScope d8.N (d8.N.take d8.n) (defScope (topS 14)) := ⟨rfl, rfl, rfl, by decide +kernel, rfl, by decide +kernel, by decide +kernel⟩
theorem ck8 : mSs (dmx ds tx) d8.N (defScope (topS 14)) d8.body (defBody (topS 14)) = true := by decide +kernel
theorem sc9 : FnScope d9.N (d9.N.take d9.n) (defScope (topS 15)) := ⟨rfl, rfl, rfl, by decide +kernel, rfl, by decide +kernel, by decide +kernel⟩
theorem ck9 : mSs (dmx ds tx) d9.N (defScope (topS 15)) d9.body (defBody (topS 15)) = true := by decide +kernel
theorem sc10 : FnScope d10.N (d10.N.take d10.n) (defScope (topS 16)) := ⟨rfl, rfl, rfl, by decide +kernel, rfl, by decide +kernel, by decide +kernel⟩
theorem ck10 : mSs (dmx ds tx) d10.N (defScope (topS 16)) d10.body (defBody (topS 16)) = true := by decide +kernel
theorem sc11 : FnScope d11.N (d11.N.take d11.n) (defScope (topS 17)) := ⟨rfl, rfl, rfl, by decide +kernel, rfl, by decide +kernel, by decide +kernel⟩
theorem ck11 : mSs (dmx ds tx) d11.N (defScope (topS 17)) d11.body (defBody (topS 17)) = true := by decide +kernel
theorem sc12 : FnScope d12.N (d12.N.take d12.n) (defScope (topS 18)) := ⟨rfl, rfl, rfl, by decide +kernel, rfl, by decide +kernel, by decide +kernel⟩
theorem ck12 : mSs (dmx ds tx) d12.N (defScope (topS 18)) d12.body (defBody (topS 18)) = true := by decide +kernel
theorem sc13 : FnScope d13.N (d13.N.take d13.n) (defScope (topS 19)) := ⟨rfl, rfl, rfl, by decide +kernel, rfl, by decide +kernel, by decide +kernel⟩
theorem ck13 : mSs (dmx ds tx) d13.N (defScope (topS 19)) d13.body (defBody (topS 19)) = true := by decide +kernel
theorem sc14 : FnScope d14.N (d14.N.take d14.n) (defScope (topS 20)) := ⟨rfl, rfl, rfl, by decide +kernel, rfl, by decide +kernel, by decide +kernel⟩
theorem ck14 : mSs (dmx ds tx) d14.N (defScope (topS 20)) d14.body (defBody (topS 20)) = true := by decide +kernel
theorem facts {K : PySem.W.Frag} {h : Heap} {mg : Str → Option Value} (X : K.In h) (G : h.Ns mainGlobals mg)
    {f0 : Addr} {od0 an0 : Option Addr} {sl0 : Array (Option Value)} {oc0 kV0 dc0 pm0 cd0 ct0 : Value}
    {f1 : Addr} {od1 an1 : Option Addr} {sl1 : Array (Option Value)} {oc1 kV1 dc1 pm1 cd1 ct1 : Value}
    {f2 : Addr} {od2 an2 : Option Addr} {sl2 : Array (Option Value)} {oc2 kV2 dc2 pm2 cd2 ct2 : Value}
    {f3 : Addr} {od3 an3 : Option Addr} {sl3 : Array (Option Value)} {oc3 kV3 dc3 pm3 cd3 ct3 : Value}
    {f4 : Addr} {od4 an4 : Option Addr} {sl4 : Array (Option Value)} {oc4 kV4 dc4 pm4 cd4 ct4 : Value}
    {f5 : Addr} {od5 an5 : Option Addr} {sl5 : Array (Option Value)} {oc5 kV5 dc5 pm5 cd5 ct5 : Value}
    {f6 : Addr} {od6 an6 : Option Addr} {sl6 : Array (Option Value)} {oc6 kV6 dc6 pm6 cd6 ct6 : Value}
    {f7 : Addr} {od7 an7 : Option Addr} {sl7 : Array (Option Value)} {oc7 kV7 dc7 pm7 cd7 ct7 : Value}
    {f8 : Addr} {od8 an8 : Option Addr} {sl8 : Array (Option Value)} {oc8 kV8 dc8 pm8 cd8 ct8 : Value}
    {f9 : Addr} {od9 an9 : Option Addr} {sl9 : Array (Option Value)} {oc9 kV9 dc9 pm9 cd9 ct9 : Value}
    {f10 : Addr} {od10 an10 : Option Addr} {sl10 : Array (Option Value)} {oc10 kV10 dc10 pm10 cd10 ct10 : Value}
    {f11 : Addr} {od11 an11 : Option Addr} {sl11 : Array (Option Value)} {oc11 kV11 dc11 pm11 cd11 ct11 : Value}
    {f12 : Addr} {od12 an12 : Option Addr} {sl12 : Array (Option Value)} {oc12 kV12 dc12 pm12 cd12 ct12 : Value}
    {f13 : Addr} {od13 an13 : Option Addr} {sl13 : Array (Option Value)} {oc13 kV13 dc13 pm13 cd13 ct13 : Value}
    {f14 : Addr} {od14 an14 : Option Addr} {sl14 : Array (Option Value)} {oc14 kV14 dc14 pm14 cd14 ct14 : Value}
    (a0 : PySem.W.nsIn K mainGlobals "lies_under" = some (some (.ref f0))) (l0 : K.lookup f0 = some ⟨oc0, od0, .func (PySem.W.fnOf "lies_under" "lies_under" (defArgs (topS 1)) (defBody (topS 1)) (defScope (topS 1)) .none kV0 dc0 pm0 an0 cd0 ct0), sl0⟩) (c0 : PySem.W.codeIn K cd0 "lies_under" = true) (k0 : PySem.W.keepIn K (.ref f0) = true)
    (a1 : PySem.W.nsIn K mainGlobals "part" = some (some (.ref f1))) (l1 : K.lookup f1 = some ⟨oc1, od1, .func (PySem.W.fnOf "part" "part" (defArgs (topS 3)) (defBody (topS 3)) (defScope (topS 3)) .none kV1 dc1 pm1 an1 cd1 ct1), sl1⟩) (c1 : PySem.W.codeIn K cd1 "part" = true) (k1 : PySem.W.keepIn K (.ref f1) = true)
    (a2 : PySem.W.nsIn K mainGlobals "without" = some (some (.ref f2))) (l2 : K.lookup f2 = some ⟨oc2, od2, .func (PySem.W.fnOf "without" "without" (defArgs (topS 4)) (defBody (topS 4)) (defScope (topS 4)) .none kV2 dc2 pm2 an2 cd2 ct2), sl2⟩) (c2 : PySem.W.codeIn K cd2 "without" = true) (k2 : PySem.W.keepIn K (.ref f2) = true)
    (a3 : PySem.W.nsIn K mainGlobals "grafted" = some (some (.ref f3))) (l3 : K.lookup f3 = some ⟨oc3, od3, .func (PySem.W.fnOf "grafted" "grafted" (defArgs (topS 5)) (defBody (topS 5)) (defScope (topS 5)) .none kV3 dc3 pm3 an3 cd3 ct3), sl3⟩) (c3 : PySem.W.codeIn K cd3 "grafted" = true) (k3 : PySem.W.keepIn K (.ref f3) = true)
    (a4 : PySem.W.nsIn K mainGlobals "by_way" = some (some (.ref f4))) (l4 : K.lookup f4 = some ⟨oc4, od4, .func (PySem.W.fnOf "by_way" "by_way" (defArgs (topS 8)) (defBody (topS 8)) (defScope (topS 8)) .none kV4 dc4 pm4 an4 cd4 ct4), sl4⟩) (c4 : PySem.W.codeIn K cd4 "by_way" = true) (k4 : PySem.W.keepIn K (.ref f4) = true)
    (a5 : PySem.W.nsIn K mainGlobals "thing_at" = some (some (.ref f5))) (l5 : K.lookup f5 = some ⟨oc5, od5, .func (PySem.W.fnOf "thing_at" "thing_at" (defArgs (topS 10)) (defBody (topS 10)) (defScope (topS 10)) .none kV5 dc5 pm5 an5 cd5 ct5), sl5⟩) (c5 : PySem.W.codeIn K cd5 "thing_at" = true) (k5 : PySem.W.keepIn K (.ref f5) = true)
    (a6 : PySem.W.nsIn K mainGlobals "_law_cell_at" = some (some (.ref f6))) (l6 : K.lookup f6 = some ⟨oc6, od6, .func (PySem.W.fnOf "_law_cell_at" "_law_cell_at" (defArgs (topS 12)) (defBody (topS 12)) (defScope (topS 12)) .none kV6 dc6 pm6 an6 cd6 ct6), sl6⟩) (c6 : PySem.W.codeIn K cd6 "_law_cell_at" = true) (k6 : PySem.W.keepIn K (.ref f6) = true)
    (a7 : PySem.W.nsIn K mainGlobals "_law_mixed" = some (some (.ref f7))) (l7 : K.lookup f7 = some ⟨oc7, od7, .func (PySem.W.fnOf "_law_mixed" "_law_mixed" (defArgs (topS 13)) (defBody (topS 13)) (defScope (topS 13)) .none kV7 dc7 pm7 an7 cd7 ct7), sl7⟩) (c7 : PySem.W.codeIn K cd7 "_law_mixed" = true) (k7 : PySem.W.keepIn K (.ref f7) = true)
    (a8 : PySem.W.nsIn K mainGlobals "_law_name_by" = some (some (.ref f8))) (l8 : K.lookup f8 = some ⟨oc8, od8, .func (PySem.W.fnOf "_law_name_by" "_law_name_by" (defArgs (topS 14)) (defBody (topS 14)) (defScope (topS 14)) .none kV8 dc8 pm8 an8 cd8 ct8), sl8⟩) (c8 : PySem.W.codeIn K cd8 "_law_name_by" = true) (k8 : PySem.W.keepIn K (.ref f8) = true)
    (a9 : PySem.W.nsIn K mainGlobals "_law_text_by" = some (some (.ref f9))) (l9 : K.lookup f9 = some ⟨oc9, od9, .func (PySem.W.fnOf "_law_text_by" "_law_text_by" (defArgs (topS 15)) (defBody (topS 15)) (defScope (topS 15)) .none kV9 dc9 pm9 an9 cd9 ct9), sl9⟩) (c9 : PySem.W.codeIn K cd9 "_law_text_by" = true) (k9 : PySem.W.keepIn K (.ref f9) = true)
    (a10 : PySem.W.nsIn K mainGlobals "_law_tree_by" = some (some (.ref f10))) (l10 : K.lookup f10 = some ⟨oc10, od10, .func (PySem.W.fnOf "_law_tree_by" "_law_tree_by" (defArgs (topS 16)) (defBody (topS 16)) (defScope (topS 16)) .none kV10 dc10 pm10 an10 cd10 ct10), sl10⟩) (c10 : PySem.W.codeIn K cd10 "_law_tree_by" = true) (k10 : PySem.W.keepIn K (.ref f10) = true)
    (a11 : PySem.W.nsIn K mainGlobals "_law_way_by" = some (some (.ref f11))) (l11 : K.lookup f11 = some ⟨oc11, od11, .func (PySem.W.fnOf "_law_way_by" "_law_way_by" (defArgs (topS 17)) (defBody (topS 17)) (defScope (topS 17)) .none kV11 dc11 pm11 an11 cd11 ct11), sl11⟩) (c11 : PySem.W.codeIn K cd11 "_law_way_by" = true) (k11 : PySem.W.keepIn K (.ref f11) = true)
    (a12 : PySem.W.nsIn K mainGlobals "_law_same" = some (some (.ref f12))) (l12 : K.lookup f12 = some ⟨oc12, od12, .func (PySem.W.fnOf "_law_same" "_law_same" (defArgs (topS 18)) (defBody (topS 18)) (defScope (topS 18)) .none kV12 dc12 pm12 an12 cd12 ct12), sl12⟩) (c12 : PySem.W.codeIn K cd12 "_law_same" = true) (k12 : PySem.W.keepIn K (.ref f12) = true)
    (a13 : PySem.W.nsIn K mainGlobals "_law_put_in" = some (some (.ref f13))) (l13 : K.lookup f13 = some ⟨oc13, od13, .func (PySem.W.fnOf "_law_put_in" "_law_put_in" (defArgs (topS 19)) (defBody (topS 19)) (defScope (topS 19)) .none kV13 dc13 pm13 an13 cd13 ct13), sl13⟩) (c13 : PySem.W.codeIn K cd13 "_law_put_in" = true) (k13 : PySem.W.keepIn K (.ref f13) = true)
    (a14 : PySem.W.nsIn K mainGlobals "law" = some (some (.ref f14))) (l14 : K.lookup f14 = some ⟨oc14, od14, .func (PySem.W.fnOf "law" "law" (defArgs (topS 20)) (defBody (topS 20)) (defScope (topS 20)) .none kV14 dc14 pm14 an14 cd14 ct14), sl14⟩) (c14 : PySem.W.codeIn K cd14 "law" = true) (k14 : PySem.W.keepIn K (.ref f14) = true) :
    ∀ (f : Nat) (d : Df), ds[f]? = some d → FactF K mg (dmx ds tx) d := by
  intro f d e
  match f, e with
  | 0, e => cases e; exact ⟨topS 1, _, _, fun_mk (st := topS 1) l0 c0 k0, sc0, (fun_mk (st := topS 1) l0 c0 k0).binds (ps := d0.N.take d0.n) (fun _ _ _ _ _ _ us hl => match us, hl with | [_, _], _ => rfl), PySem.W.mg_of X G a0, ck0, by decide⟩
  | 1, e => cases e; exact ⟨topS 3, _, _, fun_mk (st := topS 3) l1 c1 k1, sc1, (fun_mk (st := topS 3) l1 c1 k1).binds (ps := d1.N.take d1.n) (fun _ _ _ _ _ _ us hl => match us, hl with | [_, _], _ => rfl), PySem.W.mg_of X G a1, ck1, by decide⟩
  | 2, e => cases e; exact ⟨topS 4, _, _, fun_mk (st := topS 4) l2 c2 k2, sc2, (fun_mk (st := topS 4) l2 c2 k2).binds (ps := d2.N.take d2.n) (fun _ _ _ _ _ _ us hl => match us, hl with | [_, _], _ => rfl), PySem.W.mg_of X G a2, ck2, by decide⟩
  | 3, e => cases e; exact ⟨topS 5, _, _, fun_mk (st := topS 5) l3 c3 k3, sc3, (fun_mk (st := topS 5) l3 c3 k3).binds (ps := d3.N.take d3.n) (fun _ _ _ _ _ _ us hl => match us, hl with | [_, _, _, _], _ => rfl), PySem.W.mg_of X G a3, ck3, by decide⟩
  | 4, e => cases e; exact ⟨topS 8, _, _, fun_mk (st := topS 8) l4 c4 k4, sc4, (fun_mk (st := topS 8) l4 c4 k4).binds (ps := d4.N.take d4.n) (fun _ _ _ _ _ _ us hl => match us, hl with | [_], _ => rfl), PySem.W.mg_of X G a4, ck4, by decide⟩
  | 5, e => cases e; exact ⟨topS 10, _, _, fun_mk (st := topS 10) l5 c5 k5, sc5, (fun_mk (st := topS 10) l5 c5 k5).binds (ps := d5.N.take d5.n) (fun _ _ _ _ _ _ us hl => match us, hl with | [_, _], _ => rfl), PySem.W.mg_of X G a5, ck5, by decide⟩
  | 6, e => cases e; exact ⟨topS 12, _, _, fun_mk (st := topS 12) l6 c6 k6, sc6, (fun_mk (st := topS 12) l6 c6 k6).binds (ps := d6.N.take d6.n) (fun _ _ _ _ _ _ us hl => match us, hl with | [_, _], _ => rfl), PySem.W.mg_of X G a6, ck6, by decide⟩
  | 7, e => cases e; exact ⟨topS 13, _, _, fun_mk (st := topS 13) l7 c7 k7, sc7, (fun_mk (st := topS 13) l7 c7 k7).binds (ps := d7.N.take d7.n) (fun _ _ _ _ _ _ us hl => match us, hl with | [_, _, _], _ => rfl), PySem.W.mg_of X G a7, ck7, by decide⟩
  | 8, e => cases e; exact ⟨topS 14, _, _, fun_mk (st := topS 14) l8 c8 k8, sc8, (fun_mk (st := topS 14) l8 c8 k8).binds (ps := d8.N.take d8.n) (fun _ _ _ _ _ _ us hl => match us, hl with | [_, _], _ => rfl), PySem.W.mg_of X G a8, ck8, by decide⟩
  | 9, e => cases e; exact ⟨topS 15, _, _, fun_mk (st := topS 15) l9 c9 k9, sc9, (fun_mk (st := topS 15) l9 c9 k9).binds (ps := d9.N.take d9.n) (fun _ _ _ _ _ _ us hl => match us, hl with | [_, _, _, _], _ => rfl), PySem.W.mg_of X G a9, ck9, by decide⟩
  | 10, e => cases e; exact ⟨topS 16, _, _, fun_mk (st := topS 16) l10 c10 k10, sc10, (fun_mk (st := topS 16) l10 c10 k10).binds (ps := d10.N.take d10.n) (fun _ _ _ _ _ _ us hl => match us, hl with | [_, _], _ => rfl), PySem.W.mg_of X G a10, ck10, by decide⟩
  | 11, e => cases e; exact ⟨topS 17, _, _, fun_mk (st := topS 17) l11 c11 k11, sc11, (fun_mk (st := topS 17) l11 c11 k11).binds (ps := d11.N.take d11.n) (fun _ _ _ _ _ _ us hl => match us, hl with | [_, _, _], _ => rfl), PySem.W.mg_of X G a11, ck11, by decide⟩
  | 12, e => cases e; exact ⟨topS 18, _, _, fun_mk (st := topS 18) l12 c12 k12, sc12, (fun_mk (st := topS 18) l12 c12 k12).binds (ps := d12.N.take d12.n) (fun _ _ _ _ _ _ us hl => match us, hl with | [_, _], _ => rfl), PySem.W.mg_of X G a12, ck12, by decide⟩
  | 13, e => cases e; exact ⟨topS 19, _, _, fun_mk (st := topS 19) l13 c13 k13, sc13, (fun_mk (st := topS 19) l13 c13 k13).binds (ps := d13.N.take d13.n) (fun _ _ _ _ _ _ us hl => match us, hl with | [_, _, _, _], _ => rfl), PySem.W.mg_of X G a13, ck13, by decide⟩
  | 14, e => cases e; exact ⟨topS 20, _, _, fun_mk (st := topS 20) l14 c14 k14, sc14, (fun_mk (st := topS 20) l14 c14 k14).binds (ps := d14.N.take d14.n) (fun _ _ _ _ _ _ us hl => match us, hl with | [_], _ => rfl), PySem.W.mg_of X G a14, ck14, by decide⟩
  | n + 15, e => cases e
theorem txf {K : PySem.W.Frag} {h : Heap} {mg : Str → Option Value} (X : K.In h) (G : h.Ns mainGlobals mg) (z0 : PySem.W.nsIn K mainGlobals "len" = some none) (z1 : PySem.W.nsIn K mainGlobals "list" = some none) (z2 : PySem.W.nsIn K mainGlobals "tuple" = some none) (z3 : PySem.W.nsIn K mainGlobals "str" = some none) (z4 : PySem.W.nsIn K mainGlobals "max" = some none) (z5 : PySem.W.nsIn K mainGlobals "min" = some none) (z6 : PySem.W.nsIn K mainGlobals "sorted" = some none) (z7 : PySem.W.nsIn K mainGlobals "isinstance" = some none) (z8 : PySem.W.nsIn K mainGlobals "int" = some none) (z9 : PySem.W.nsIn K mainGlobals "bool" = some none) (z10 : PySem.W.nsIn K mainGlobals "range" = some none) (z11 : PySem.W.nsIn K mainGlobals "set" = some none) (z12 : PySem.W.nsIn K mainGlobals "dict" = some none) {t0 : Tok} (gl0 : PySem.W.nsIn K mainGlobals "FOLDER" = some (some (.str "folder" t0))) : TxF K mg tx := by
  refine ⟨fun x hx => ?_, fun x hx => ?_, fun p hp => ?_, fun p hp => ?_, fun x d hx => ?_⟩
  · simp only [blNames, List.mem_cons, List.not_mem_nil, or_false] at hx
    rcases hx with rfl | rfl | rfl | rfl | rfl | rfl | rfl | rfl | rfl | rfl | rfl | rfl | rfl
    · exact PySem.W.mg_none_of X G z0
    · exact PySem.W.mg_none_of X G z1
    · exact PySem.W.mg_none_of X G z2
    · exact PySem.W.mg_none_of X G z3
    · exact PySem.W.mg_none_of X G z4
    · exact PySem.W.mg_none_of X G z5
    · exact PySem.W.mg_none_of X G z6
    · exact PySem.W.mg_none_of X G z7
    · exact PySem.W.mg_none_of X G z8
    · exact PySem.W.mg_none_of X G z9
    · exact PySem.W.mg_none_of X G z10
    · exact PySem.W.mg_none_of X G z11
    · exact PySem.W.mg_none_of X G z12
  · cases hx
  · cases hp
  · cases hp
  · simp only [tx, List.mem_cons, List.not_mem_nil, or_false, Prod.mk.injEq] at hx
    rcases hx with ⟨rfl, rfl⟩
    · exact ⟨.str _, _, PySem.W.mg_of X G gl0, ⟨_, rfl⟩, fun _ => .str _⟩
theorem all_mk {l : PySem.W.OpenLaw} {w : World} {K : PySem.W.Frag} {h : Heap} {mg : Str → Option Value} {fa : Addr} (X : K.In h) (G : h.Ns mainGlobals mg) (hfa : mg "law" = some (.ref fa)) (lt : ∀ ns : List Int, ns.length ≤ 63 → evF ds fl (lv + 1) 14 [.scr ns] = .ok (.imm (.bool true)))
    {f0 : Addr} {od0 an0 : Option Addr} {sl0 : Array (Option Value)} {oc0 kV0 dc0 pm0 cd0 ct0 : Value}
    {f1 : Addr} {od1 an1 : Option Addr} {sl1 : Array (Option Value)} {oc1 kV1 dc1 pm1 cd1 ct1 : Value}
    {f2 : Addr} {od2 an2 : Option Addr} {sl2 : Array (Option Value)} {oc2 kV2 dc2 pm2 cd2 ct2 : Value}
    {f3 : Addr} {od3 an3 : Option Addr} {sl3 : Array (Option Value)} {oc3 kV3 dc3 pm3 cd3 ct3 : Value}
    {f4 : Addr} {od4 an4 : Option Addr} {sl4 : Array (Option Value)} {oc4 kV4 dc4 pm4 cd4 ct4 : Value}
    {f5 : Addr} {od5 an5 : Option Addr} {sl5 : Array (Option Value)} {oc5 kV5 dc5 pm5 cd5 ct5 : Value}
    {f6 : Addr} {od6 an6 : Option Addr} {sl6 : Array (Option Value)} {oc6 kV6 dc6 pm6 cd6 ct6 : Value}
    {f7 : Addr} {od7 an7 : Option Addr} {sl7 : Array (Option Value)} {oc7 kV7 dc7 pm7 cd7 ct7 : Value}
    {f8 : Addr} {od8 an8 : Option Addr} {sl8 : Array (Option Value)} {oc8 kV8 dc8 pm8 cd8 ct8 : Value}
    {f9 : Addr} {od9 an9 : Option Addr} {sl9 : Array (Option Value)} {oc9 kV9 dc9 pm9 cd9 ct9 : Value}
    {f10 : Addr} {od10 an10 : Option Addr} {sl10 : Array (Option Value)} {oc10 kV10 dc10 pm10 cd10 ct10 : Value}
    {f11 : Addr} {od11 an11 : Option Addr} {sl11 : Array (Option Value)} {oc11 kV11 dc11 pm11 cd11 ct11 : Value}
    {f12 : Addr} {od12 an12 : Option Addr} {sl12 : Array (Option Value)} {oc12 kV12 dc12 pm12 cd12 ct12 : Value}
    {f13 : Addr} {od13 an13 : Option Addr} {sl13 : Array (Option Value)} {oc13 kV13 dc13 pm13 cd13 ct13 : Value}
    {f14 : Addr} {od14 an14 : Option Addr} {sl14 : Array (Option Value)} {oc14 kV14 dc14 pm14 cd14 ct14 : Value}
    (a0 : PySem.W.nsIn K mainGlobals "lies_under" = some (some (.ref f0))) (l0 : K.lookup f0 = some ⟨oc0, od0, .func (PySem.W.fnOf "lies_under" "lies_under" (defArgs (topS 1)) (defBody (topS 1)) (defScope (topS 1)) .none kV0 dc0 pm0 an0 cd0 ct0), sl0⟩) (c0 : PySem.W.codeIn K cd0 "lies_under" = true) (k0 : PySem.W.keepIn K (.ref f0) = true)
    (a1 : PySem.W.nsIn K mainGlobals "part" = some (some (.ref f1))) (l1 : K.lookup f1 = some ⟨oc1, od1, .func (PySem.W.fnOf "part" "part" (defArgs (topS 3)) (defBody (topS 3)) (defScope (topS 3)) .none kV1 dc1 pm1 an1 cd1 ct1), sl1⟩) (c1 : PySem.W.codeIn K cd1 "part" = true) (k1 : PySem.W.keepIn K (.ref f1) = true)
    (a2 : PySem.W.nsIn K mainGlobals "without" = some (some (.ref f2))) (l2 : K.lookup f2 = some ⟨oc2, od2, .func (PySem.W.fnOf "without" "without" (defArgs (topS 4)) (defBody (topS 4)) (defScope (topS 4)) .none kV2 dc2 pm2 an2 cd2 ct2), sl2⟩) (c2 : PySem.W.codeIn K cd2 "without" = true) (k2 : PySem.W.keepIn K (.ref f2) = true)
    (a3 : PySem.W.nsIn K mainGlobals "grafted" = some (some (.ref f3))) (l3 : K.lookup f3 = some ⟨oc3, od3, .func (PySem.W.fnOf "grafted" "grafted" (defArgs (topS 5)) (defBody (topS 5)) (defScope (topS 5)) .none kV3 dc3 pm3 an3 cd3 ct3), sl3⟩) (c3 : PySem.W.codeIn K cd3 "grafted" = true) (k3 : PySem.W.keepIn K (.ref f3) = true)
    (a4 : PySem.W.nsIn K mainGlobals "by_way" = some (some (.ref f4))) (l4 : K.lookup f4 = some ⟨oc4, od4, .func (PySem.W.fnOf "by_way" "by_way" (defArgs (topS 8)) (defBody (topS 8)) (defScope (topS 8)) .none kV4 dc4 pm4 an4 cd4 ct4), sl4⟩) (c4 : PySem.W.codeIn K cd4 "by_way" = true) (k4 : PySem.W.keepIn K (.ref f4) = true)
    (a5 : PySem.W.nsIn K mainGlobals "thing_at" = some (some (.ref f5))) (l5 : K.lookup f5 = some ⟨oc5, od5, .func (PySem.W.fnOf "thing_at" "thing_at" (defArgs (topS 10)) (defBody (topS 10)) (defScope (topS 10)) .none kV5 dc5 pm5 an5 cd5 ct5), sl5⟩) (c5 : PySem.W.codeIn K cd5 "thing_at" = true) (k5 : PySem.W.keepIn K (.ref f5) = true)
    (a6 : PySem.W.nsIn K mainGlobals "_law_cell_at" = some (some (.ref f6))) (l6 : K.lookup f6 = some ⟨oc6, od6, .func (PySem.W.fnOf "_law_cell_at" "_law_cell_at" (defArgs (topS 12)) (defBody (topS 12)) (defScope (topS 12)) .none kV6 dc6 pm6 an6 cd6 ct6), sl6⟩) (c6 : PySem.W.codeIn K cd6 "_law_cell_at" = true) (k6 : PySem.W.keepIn K (.ref f6) = true)
    (a7 : PySem.W.nsIn K mainGlobals "_law_mixed" = some (some (.ref f7))) (l7 : K.lookup f7 = some ⟨oc7, od7, .func (PySem.W.fnOf "_law_mixed" "_law_mixed" (defArgs (topS 13)) (defBody (topS 13)) (defScope (topS 13)) .none kV7 dc7 pm7 an7 cd7 ct7), sl7⟩) (c7 : PySem.W.codeIn K cd7 "_law_mixed" = true) (k7 : PySem.W.keepIn K (.ref f7) = true)
    (a8 : PySem.W.nsIn K mainGlobals "_law_name_by" = some (some (.ref f8))) (l8 : K.lookup f8 = some ⟨oc8, od8, .func (PySem.W.fnOf "_law_name_by" "_law_name_by" (defArgs (topS 14)) (defBody (topS 14)) (defScope (topS 14)) .none kV8 dc8 pm8 an8 cd8 ct8), sl8⟩) (c8 : PySem.W.codeIn K cd8 "_law_name_by" = true) (k8 : PySem.W.keepIn K (.ref f8) = true)
    (a9 : PySem.W.nsIn K mainGlobals "_law_text_by" = some (some (.ref f9))) (l9 : K.lookup f9 = some ⟨oc9, od9, .func (PySem.W.fnOf "_law_text_by" "_law_text_by" (defArgs (topS 15)) (defBody (topS 15)) (defScope (topS 15)) .none kV9 dc9 pm9 an9 cd9 ct9), sl9⟩) (c9 : PySem.W.codeIn K cd9 "_law_text_by" = true) (k9 : PySem.W.keepIn K (.ref f9) = true)
    (a10 : PySem.W.nsIn K mainGlobals "_law_tree_by" = some (some (.ref f10))) (l10 : K.lookup f10 = some ⟨oc10, od10, .func (PySem.W.fnOf "_law_tree_by" "_law_tree_by" (defArgs (topS 16)) (defBody (topS 16)) (defScope (topS 16)) .none kV10 dc10 pm10 an10 cd10 ct10), sl10⟩) (c10 : PySem.W.codeIn K cd10 "_law_tree_by" = true) (k10 : PySem.W.keepIn K (.ref f10) = true)
    (a11 : PySem.W.nsIn K mainGlobals "_law_way_by" = some (some (.ref f11))) (l11 : K.lookup f11 = some ⟨oc11, od11, .func (PySem.W.fnOf "_law_way_by" "_law_way_by" (defArgs (topS 17)) (defBody (topS 17)) (defScope (topS 17)) .none kV11 dc11 pm11 an11 cd11 ct11), sl11⟩) (c11 : PySem.W.codeIn K cd11 "_law_way_by" = true) (k11 : PySem.W.keepIn K (.ref f11) = true)
    (a12 : PySem.W.nsIn K mainGlobals "_law_same" = some (some (.ref f12))) (l12 : K.lookup f12 = some ⟨oc12, od12, .func (PySem.W.fnOf "_law_same" "_law_same" (defArgs (topS 18)) (defBody (topS 18)) (defScope (topS 18)) .none kV12 dc12 pm12 an12 cd12 ct12), sl12⟩) (c12 : PySem.W.codeIn K cd12 "_law_same" = true) (k12 : PySem.W.keepIn K (.ref f12) = true)
    (a13 : PySem.W.nsIn K mainGlobals "_law_put_in" = some (some (.ref f13))) (l13 : K.lookup f13 = some ⟨oc13, od13, .func (PySem.W.fnOf "_law_put_in" "_law_put_in" (defArgs (topS 19)) (defBody (topS 19)) (defScope (topS 19)) .none kV13 dc13 pm13 an13 cd13 ct13), sl13⟩) (c13 : PySem.W.codeIn K cd13 "_law_put_in" = true) (k13 : PySem.W.keepIn K (.ref f13) = true)
    (a14 : PySem.W.nsIn K mainGlobals "law" = some (some (.ref f14))) (l14 : K.lookup f14 = some ⟨oc14, od14, .func (PySem.W.fnOf "law" "law" (defArgs (topS 20)) (defBody (topS 20)) (defScope (topS 20)) .none kV14 dc14 pm14 an14 cd14 ct14), sl14⟩) (c14 : PySem.W.codeIn K cd14 "law" = true) (k14 : PySem.W.keepIn K (.ref f14) = true)
    (z0 : PySem.W.nsIn K mainGlobals "len" = some none) (z1 : PySem.W.nsIn K mainGlobals "list" = some none) (z2 : PySem.W.nsIn K mainGlobals "tuple" = some none) (z3 : PySem.W.nsIn K mainGlobals "str" = some none) (z4 : PySem.W.nsIn K mainGlobals "max" = some none) (z5 : PySem.W.nsIn K mainGlobals "min" = some none) (z6 : PySem.W.nsIn K mainGlobals "sorted" = some none) (z7 : PySem.W.nsIn K mainGlobals "isinstance" = some none) (z8 : PySem.W.nsIn K mainGlobals "int" = some none) (z9 : PySem.W.nsIn K mainGlobals "bool" = some none) (z10 : PySem.W.nsIn K mainGlobals "range" = some none) (z11 : PySem.W.nsIn K mainGlobals "set" = some none) (z12 : PySem.W.nsIn K mainGlobals "dict" = some none) {t0 : Tok} (gl0 : PySem.W.nsIn K mainGlobals "FOLDER" = some (some (.str "folder" t0))) :
    ∃ fd : FuncData, (∀ (s : Shared) (v : Value), BindsTo s fd ⟨[v], []⟩ [("_law_script", v)]) ∧ ∀ base : Heap, K.In base → base.Ns mainGlobals mg → FnOk l.prog w K mg base (L2.CX l.prog w) (lv + 1) fa fd ["_law_script"] (spL K) :=
  ⟨_, fun s v => .of_eq rfl, fun base _ _ => law_fn (d := d14) (st := topS 20) (facts X G a0 l0 c0 k0 a1 l1 c1 k1 a2 l2 c2 k2 a3 l3 c3 k3 a4 l4 c4 k4 a5 l5 c5 k5 a6 l6 c6 k6 a7 l7 c7 k7 a8 l8 c8 k8 a9 l9 c9 k9 a10 l10 c10 k10 a11 l11 c11 k11 a12 l12 c12 k12 a13 l13 c13 k13 a14 l14 c14 k14) (txf X G z0 z1 z2 z3 z4 z5 z6 z7 z8 z9 z10 z11 z12 gl0) rfl rfl rfl hfa (PySem.W.mg_of X G a14) (fun_mk (st := topS 20) l14 c14 k14) sc14 ck14 (by decide) lt base⟩
end Gl.k10

set_option Elab.async false
set_option linter.all false
set_option maxRecDepth 100000
set_option maxHeartbeats 4000000
open PySem PySem.W PyProof.Rows
set_option maxHeartbeats 0 in
theorem PySem.Challenge.cw_glasslayers_k10_put_in_and_back_holds : PySem.Challenge.rw_glasslayers_k10_put_in_and_back.Holds := by
  w_on; o_law; k_head; (case hw => w_witness2)
  k_fill
  refine L2.walk_of (l := PySem.Challenge.rw_glasslayers_k10_put_in_and_back) (n := 63) (k := Gl.k10.lv + 1) (x := "_law_script") (CX := fun w => L2.CX PySem.Challenge.rw_glasslayers_k10_put_in_and_back.prog w) (sp := fun w => Gl.spL _) rfl (by decide) rfl ⟨rfl, by decide, by decide⟩ (fun w h Y => PySem.W.kIn_of Y) ?F (fun w H a ns hl _ hS => ⟨a, ns, rfl, hl, hS, fun _ => rfl⟩) (fun _ _ _ _ _ h => Gl.cx_end h)
  case F =>
    intro w mg fa h KX G hmg
    refine' Gl.k10.all_mk KX G hmg Gl.k10.law_true ?a0 ?l0 ?c0 ?k0 ?a1 ?l1 ?c1 ?k1 ?a2 ?l2 ?c2 ?k2 ?a3 ?l3 ?c3 ?k3 ?a4 ?l4 ?c4 ?k4 ?a5 ?l5 ?c5 ?k5 ?a6 ?l6 ?c6 ?k6 ?a7 ?l7 ?c7 ?k7 ?a8 ?l8 ?c8 ?k8 ?a9 ?l9 ?c9 ?k9 ?a10 ?l10 ?c10 ?k10 ?a11 ?l11 ?c11 ?k11 ?a12 ?l12 ?c12 ?k12 ?a13 ?l13 ?c13 ?k13 ?a14 ?l14 ?c14 ?k14 ?z0 ?z1 ?z2 ?z3 ?z4 ?z5 ?z6 ?z7 ?z8 ?z9 ?z10 ?z11 ?z12 ?gl0
    (case a0 => k_is); (case l0 => k_is); (case c0 => k_is); (case k0 => k_is); (case a1 => k_is); (case l1 => k_is); (case c1 => k_is); (case k1 => k_is); (case a2 => k_is); (case l2 => k_is); (case c2 => k_is); (case k2 => k_is); (case a3 => k_is); (case l3 => k_is); (case c3 => k_is); (case k3 => k_is); (case a4 => k_is); (case l4 => k_is); (case c4 => k_is); (case k4 => k_is); (case a5 => k_is); (case l5 => k_is); (case c5 => k_is); (case k5 => k_is); (case a6 => k_is); (case l6 => k_is); (case c6 => k_is); (case k6 => k_is); (case a7 => k_is); (case l7 => k_is); (case c7 => k_is); (case k7 => k_is); (case a8 => k_is); (case l8 => k_is); (case c8 => k_is); (case k8 => k_is); (case a9 => k_is); (case l9 => k_is); (case c9 => k_is); (case k9 => k_is); (case a10 => k_is); (case l10 => k_is); (case c10 => k_is); (case k10 => k_is); (case a11 => k_is); (case l11 => k_is); (case c11 => k_is); (case k11 => k_is); (case a12 => k_is); (case l12 => k_is); (case c12 => k_is); (case k12 => k_is); (case a13 => k_is); (case l13 => k_is); (case c13 => k_is); (case k13 => k_is); (case a14 => k_is); (case l14 => k_is); (case c14 => k_is); (case k14 => k_is); (case z0 => k_is); (case z1 => k_is); (case z2 => k_is); (case z3 => k_is); (case z4 => k_is); (case z5 => k_is); (case z6 => k_is); (case z7 => k_is); (case z8 => k_is); (case z9 => k_is); (case z10 => k_is); (case z11 => k_is); (case z12 => k_is); (case gl0 => k_is)

