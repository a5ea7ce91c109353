import PyProof.Rows.All
import Wide.All
import OpenK.AllK
import Wide.FinOn
import HandS.ForMost
import HandS.Walk
import HandS.Wide
import HandS.WideBits
import HandS.TupAny
import HandS.TupLe
import HandS.Exc
import HandS.ExcOwn
import HandS.CallSlots
import HandS.IsInst
import HandS.Deep
import HandS.SortInts
import HandS.EndBits
import HandS.Zip
import HandS.RevRange
import HandS.Codes
import HandS.Small
import HandS.Rev
import HandS.Conv
import HandS.Style
import KE.GoesEnum
import KE.GoesMore
import KE.KEqNest
import PyProof.NeKinds
import HandS.FStrTup
import HandS.Call
import HandS.More
import HandS.SetFor
import HandS.NoneIn
import KE.DatumOrd
import HandS.ExcCtx
import HandS.HotCalls
import HandS.ExcInitHot
import HandS.ExcInit
import HandS.Words
import HandS.Strs
import HandS.TupSets
import HandS.SetKeys
import HandS.RevTup
import KE.KRevIter
import HandS.Iter
import HandS.Dict
import KE.KDictZip
import KE.KItemsList
import HandS.ListItems
import KE.KDictSum
import KE.KExcIs
import HandS.ExcField
import HandS.TryElse
import HandS.WordsExc
import HandS.SuiteRaise
import KE.KAsSuite
import HandS.FStr
import HandS.Defaults
import HandS.ExcIs
import KE.OsRunLaw
import PySem.Challenge.RW_wardsmith_k04_what_are_cuts
set_option Elab.async false
set_option linter.all false
set_option maxRecDepth 100000
-- HEAD BEGIN
section
open PySem PySem.W PyProof.Rows
local macro_rules | `(tactic| k_head) => `(tactic| k_headL)
set_option maxHeartbeats 0 in
open_top zfront for PySem.Challenge.rw_wardsmith_k04_what_are_cuts
end
-- HEAD END
set_option Elab.async false
set_option linter.all false
set_option maxRecDepth 100000
/-! Z, part A: plain data, a small syntax and what it means (no machine in sight). -/
namespace Z
open PySem PySem.Spec PyProof.Rows

/-- plain values: tuples are trees, lists and dicts are places of the plain heap -/
inductive D where
  | non | utx | bl (b : Bool) | int (i : Int) | str (x : Str) | tup (ds : List D) | ref (n : Nat)
abbrev DKey := Sum Int Str
inductive O where
  | lst (ds : List D)
  | fro (ds : List D)
  | dct (kvs : List (DKey × D))
  | dfr (kvs : List (DKey × D))
  | ins (c : Str) (fs : List (Str × D))
  /-- a refusal that is kept -/
  | exc (c : Str) (fs : List (Str × D))
/-- one that may not be written -/
noncomputable def O.isf : O → Bool
  | .fro _ => true
  | .dfr _ => true
  | _ => false
abbrev Hh := List O
abbrev Env := List (Option D)
/-- an exception: its class, its fields -/
abbrev Xn := Str × List (Str × D)
abbrev KD := D → Hh → Prop
abbrev KX := Xn → Hh → Prop
abbrev KH := Hh → Prop

noncomputable def bnd (r : Option (D × Hh)) (Q : KD) : Prop := match r with
  | some (d, h) => Q d h
  | none => False
/-! ### values by value -/
noncomputable def keyOf : D → Option DKey
  | .int i => some (.inl i)
  | .str x => some (.inr x)
  | _ => none
noncomputable def ofKey : DKey → D
  | .inl i => .int i
  | .inr x => .str x
noncomputable def intOf : D → Option Int
  | .int i => some i
  | _ => none
noncomputable def strOf : D → Option Str
  | .str x => some x
  | _ => none
noncomputable def intsOf (ds : List D) : Option (List Int) := ds.mapM intOf
noncomputable def strsOf (ds : List D) : Option (List Str) := ds.mapM strOf
/-- the items of what can be walked or measured: a tuple, a list -/
noncomputable def seqOf (h : Hh) : D → Option (List D)
  | .tup ds => some ds
  | .ref n => match h[n]? with
    | some (.lst ds) => some ds
    | some (.fro ds) => some ds
    | _ => none
  | _ => none
noncomputable def lstOf (h : Hh) : D → Option (List D)
  | .ref n => match h[n]? with
    | some (.lst ds) => some ds
    | some (.fro ds) => some ds
    | _ => none
  | _ => none
/-- as deep data, at most n deep -/
noncomputable def deep : Nat → Hh → D → Option PyData
  | 0, _, _ => none
  | n + 1, h, d => match d with
    | .non => some .none
    | .bl b => some (.bool b)
    | .int i => some (.int i)
    | .str x => some (.str x)
    | .tup ds => (ds.mapM (deep n h)).map .tuple
    | .utx => none
    | .ref r => match h[r]? with
      | some (.lst ds) => (ds.mapM (deep n h)).map .list
      | some (.fro ds) => (ds.mapM (deep n h)).map .list
      | _ => none
noncomputable def deepN : Nat := 8
noncomputable def eqD (h : Hh) (a b : D) : Option Bool := match deep deepN h a, deep deepN h b with
  | some x, some y => if SeqAt.shaped x && SeqAt.shaped y then some (PyData.eqv x y) else none
  | _, _ => none
/-- the same data -/
noncomputable def eqS (h : Hh) (a b : D) : Bool := match deep deepN h a, deep deepN h b with
  | some x, some y => SeqAt.shaped x && SeqAt.shaped y && PyData.eqv x y && decide (PyData.depth x ≤ 60)
  | _, _ => false
/-- data that can be told apart -/
noncomputable def okP2 (h : Hh) (a b : D) : Bool := match deep deepN h a, deep deepN h b with
  | some x, some y => SeqAt.shaped x && SeqAt.shaped y && decide (PyData.depth x ≤ 60)
  | _, _ => false
/-- two dicts of the same keys and such data -/
noncomputable def dicF (h : Hh) (ks ls : List (DKey × D)) : Option Bool := if (decide (ks.length = ls.length) && ks.all fun kv => match (ls.find? fun l => decide (l.1 = kv.1)).map (·.2) with
    | some d => okP2 h kv.2 d
    | none => false) = true then some (ks.all fun kv => match (ls.find? fun l => decide (l.1 = kv.1)).map (·.2) with
    | some d => eqS h kv.2 d
    | none => false) else none
/-- two dicts of the same keys and data -/
noncomputable def dicO (h : Hh) (ks ls : List (DKey × D)) : Option Bool := if (decide (ks.length = ls.length) && ks.all fun kv => match (ls.find? fun l => decide (l.1 = kv.1)).map (·.2) with
    | some d => eqS h kv.2 d
    | none => false) = true then some true else dicF h ks ls
/-- the same data, dicts among them -/
noncomputable def eqT : Nat → Hh → D → D → Bool
  | 0, h, a, b => eqS h a b
  | n + 1, h, a, b => eqS h a b || match a, b with
    | .tup xs, .tup ys => decide (xs.length = ys.length) && (xs.zip ys).all fun p => eqT n h p.1 p.2
    | .ref i, .ref j => match h[i]?, h[j]? with
      | some (.lst xs), some (.lst ys) => decide (xs.length = ys.length) && (xs.zip ys).all fun p => eqT n h p.1 p.2
      | some (.dct ks), some (.dct ls) => dicO h ks ls == some true
      | _, _ => false
    | _, _ => false
noncomputable def seqT (h : Hh) (xs ys : List D) : Option Bool := if (decide (xs.length = ys.length) && (xs.zip ys).all fun p => eqT 2 h p.1 p.2) = true then some true else none
/-- beside an empty list -/
noncomputable def nilD (h : Hh) (a b : D) : Option Bool := match a, b with
  | .ref n, .ref m => match h[n]?, h[m]? with
    | some (.lst ds), some (.lst []) => some ds.isEmpty
    | some (.dct ks), some (.dct ls) => dicO h ks ls
    | some (.lst xs), some (.lst ys) => seqT h xs ys
    | _, _ => none
  | .tup xs, .tup ys => seqT h xs ys
  | _, _ => none
noncomputable def orN (a b : Option Bool) : Option Bool := match a with
  | some r => some r
  | none => b
noncomputable def eqE (h : Hh) (a b : D) : Option Bool := orN (eqD h a b) (nilD h a b)
noncomputable def flatD : D → Bool
  | .non => true
  | .bl _ => true
  | .int _ => true
  | .str _ => true
  | _ => false
noncomputable def eqF : D → D → Bool
  | .non, .non => true
  | .bl a, .bl b => a == b
  | .bl a, .int b => (if a then 1 else 0) == b
  | .int a, .bl b => a == (if b then 1 else 0)
  | .int a, .int b => a == b
  | .str a, .str b => a == b
  | _, _ => false
noncomputable def valD (kvs : List (DKey × D)) (k : DKey) : Option D := (kvs.find? fun kv => decide (kv.1 = k)).map (·.2)
noncomputable def putD (kvs : List (DKey × D)) (k : DKey) (v : D) : List (DKey × D) :=
  if (kvs.any fun kv => decide (kv.1 = k)) = true then kvs.map (fun kv => if kv.1 = k then (kv.1, v) else kv) else kvs ++ [(k, v)]
noncomputable def dctOf (h : Hh) : D → Option (List (DKey × D))
  | .ref n => match h[n]? with
    | some (.dct kvs) => some kvs
    | some (.dfr kvs) => some kvs
    | _ => none
  | _ => none
noncomputable def inD (h : Hh) (x y : D) : Option Bool := match y with
  | .str z => match x with
    | .str c => match c.cps.toList with
      | [k] => some (decide (k ∈ z.cps.toList))
      | _ => some (!(Builtin.Str.occurrences z c 0 z.length 1).isEmpty)
    | _ => none
  | .tup ds => if flatD x && ds.all flatD then some (ds.any fun y => eqF y x) else none
  | .ref n => match h[n]? with
    | some (.lst ds) => if flatD x && ds.all flatD then some (ds.any fun y => eqF y x) else none
    | some (.fro ds) => if flatD x && ds.all flatD then some (ds.any fun y => eqF y x) else none
    | some (.dct kvs) => (keyOf x).map fun k => (valD kvs k).isSome
    | some (.dfr kvs) => (keyOf x).map fun k => (valD kvs k).isSome
    | _ => none
  | _ => none
/-- in a list, by what is told of all of it -/
noncomputable def inP (h : Hh) (x y : D) : Option Bool := match deep deepN h x, deep deepN h y with
  | some d, some (.list es) => if SeqAt.shaped d && SeqAt.shaped (.list es) then some (es.any fun z => PyData.eqv z d) else none
  | _, _ => none
noncomputable def small (i : Int) : Bool := decide (-(2 ^ 64) < i) && decide (i < 2 ^ 64)
noncomputable def mulOk (i j : Int) : Bool := small i || small j || decide (i.natAbs.log2 + j.natAbs.log2 < 1000000)
noncomputable def divOk (j : Int) : Bool := decide (0 < j) && decide (j.natAbs.log2 < 9000)
noncomputable def powOk (i j : Int) : Bool := decide (0 ≤ j) && decide (j ≤ 1000000) && decide (i.natAbs < 2 ^ 64)
noncomputable def line (n : Nat) : Bool := decide (n ≤ sizeLine)
noncomputable def newO (h : Hh) (o : O) : D × Hh := (.ref h.length, h ++ [o])
/-- xs[lo::st] of a list -/
noncomputable def pickL {α : Type} (xs : List α) (lo st : Int) : List α := (PySem.sliceRange (PySem.sliceBounds (some lo) none (some st) xs.length).1 (PySem.sliceBounds (some lo) none (some st) xs.length).2.1 (PySem.sliceBounds (some lo) none (some st) xs.length).2.2).filterMap (xs[·]?)
noncomputable def slsD (x l c : D) (h : Hh) : Option (D × Hh) := match x, l, c with
  | .ref n, .int i, .int j => if decide (0 < j) then (lstOf h (.ref n)).map fun ds => newO h (.lst (pickL ds i j)) else none
  | _, _, _ => none
/-- a text so many times -/
noncomputable def repS (z : Str) (n : Nat) : Str := ⟨(List.replicate n z.cps).foldl (· ++ ·) #[]⟩
noncomputable def binD (op : Operator) (a b : D) (h : Hh) : Option (D × Hh) := match op, a, b with
  | .Add, .int i, .int j => some (.int (i + j), h)
  | .Add, .str x, .str y => if line (x.length + y.length) then some (.str (x ++ y), h) else none
  | .Add, .tup xs, .tup ys => if line (xs.length + ys.length) then some (.tup (xs ++ ys), h) else none
  | .Add, .ref m, .ref n => match h[m]?, h[n]? with
    | some (.lst xs), some (.lst ys) => if line (xs.length + ys.length) then some (newO h (.lst (xs ++ ys))) else none
    | _, _ => none
  | .Sub, .int i, .int j => some (.int (i - j), h)
  | .Mult, .int i, .int j => if mulOk i j then some (.int (i * j), h) else none
  | .Mult, .str z, .int k => if decide (0 ≤ k) && decide (k ≤ 1000) && decide (1 ≤ z.length) && decide (z.length ≤ 1000) then some (.str (repS z k.toNat), h) else none
  | .Mult, .ref m, .int k => match h[m]? with
    | some (.lst xs) => if decide (-(2 ^ 63) ≤ k) && decide (k < 2 ^ 63) && line (xs.length * k.toNat) then some (newO h (.lst (List.replicate k.toNat xs).flatten)) else none
    | _ => none
  | .Mod, .int i, .int j => if 0 < j then some (.int (i % j), h) else none
  | .FloorDiv, .int i, .int j => if divOk j then some (.int (i / j), h) else none
  | .Pow, .int i, .int j => if powOk i j then some (.int (i ^ j.toNat), h) else none
  | _, _, _ => none
noncomputable def cmpD (op : CmpOp) (a b : D) (h : Hh) : Option Bool := match op with
  | .Eq => eqE h a b
  | .NotEq => (eqE h a b).map (!·)
  | .Lt => match a, b with
    | .int i, .int j => some (decide (i < j))
    | .tup xs, .tup ys => match intsOf xs, intsOf ys with
      | some ns, some ms => some (HT.lexLt ns ms)
      | _, _ => none
    | _, _ => none
  | .LtE => match a, b with
    | .int i, .int j => some (decide (i ≤ j))
    | _, _ => none
  | .Gt => match a, b with
    | .int i, .int j => some (decide (j < i))
    | .tup xs, .tup ys => match intsOf xs, intsOf ys with
      | some ns, some ms => some (HT.lexLt ms ns)
      | _, _ => none
    | _, _ => none
  | .GtE => match a, b with
    | .int i, .int j => some (decide (j ≤ i))
    | _, _ => none
  | .Is => match b with
    | .non => some (match a with | .non => true | _ => false)
    | .bl k => match a with
      | .bl j => some (decide (j = k))
      | _ => none
    | _ => none
  | .IsNot => match b with
    | .non => some (match a with | .non => false | _ => true)
    | .bl k => match a with
      | .bl j => some (!decide (j = k))
      | _ => none
    | _ => none
  | .In => orN (inD h a b) (inP h a b)
  | .NotIn => (orN (inD h a b) (inP h a b)).map (!·)
/-- one sign of a text -/
noncomputable def signAt (z : Str) (i : Int) : Option D := (L2.atI z.cps.toList i).map fun c => .str ⟨#[c]⟩
noncomputable def ixD (a b : D) (h : Hh) : Option (D × Hh) := match b with
  | .int i => match a with
    | .tup ds => (L2.atI ds i).map (·, h)
    | .str z => if line z.length then (signAt z i).map (·, h) else none
    | .ref n => match h[n]? with
      | some (.lst ds) => (L2.atI ds i).map (·, h)
      | some (.fro ds) => (L2.atI ds i).map (·, h)
      | some (.dct kvs) => (valD kvs (.inl i)).map (·, h)
      | some (.dfr kvs) => (valD kvs (.inl i)).map (·, h)
      | _ => none
    | _ => none
  | .str x => match a with
    | .ref n => match h[n]? with
      | some (.dct kvs) => (valD kvs (.inr x)).map (·, h)
      | some (.dfr kvs) => (valD kvs (.inr x)).map (·, h)
      | _ => none
    | _ => none
  | _ => none
noncomputable def cut {α : Type} (xs : List α) (lo hi : Option Int) : List α := (xs.drop (HT.sIx xs.length 0 lo)).take (HT.sIx xs.length xs.length hi - HT.sIx xs.length 0 lo)
noncomputable def slD (a : D) (lo hi : Option Int) (h : Hh) : Option (D × Hh) := match a with
  | .tup ds => some (.tup (cut ds lo hi), h)
  | .str z => if line z.length then some (.str ⟨(cut z.cps.toList lo hi).toArray⟩, h) else none
  | .ref n => match h[n]? with
    | some (.lst ds) => some (newO h (.lst (cut ds lo hi)))
    | some (.fro ds) => some (newO h (.lst (cut ds lo hi)))
    | _ => none
  | _ => none

/-! ### builtins -/
inductive B | len | abs | min | max | sum | int | str | list | tuple | sorted | dict | minb
noncomputable def blOf : D → Option Bool
  | .bl b => some b
  | _ => none
noncomputable def blsOf (ds : List D) : Option (List Bool) := ds.mapM blOf
/-- min of truth values -/
noncomputable def minB : List Bool → Option Bool
  | [] => none
  | b :: bs => some (b && bs.all id)
/-- (k, v), to be put into a dict -/
noncomputable def pairOf : D → Option (DKey × D)
  | .tup [k, v] => (keyOf k).map fun k => (k, v)
  | _ => none
noncomputable def pairsOf (ds : List D) : Option (List (DKey × D)) := ds.mapM pairOf
noncomputable def mergeD (a b : List (DKey × D)) : List (DKey × D) := b.foldl (fun a kv => putD a kv.1 kv.2) a
/-- dict(x) -/
noncomputable def dictO : Option O → Option O
  | some (.dct kvs) => some (.dct kvs)
  | some (.lst ds) => (pairsOf ds).map fun kvs => .dct (mergeD [] kvs)
  | _ => none
noncomputable def maxL : List Int → Option Int
  | [] => none
  | x :: xs => some (xs.foldl max x)
noncomputable def minL : List Int → Option Int
  | [] => none
  | x :: xs => some (xs.foldl min x)
noncomputable def isort (ns : List Int) : List Int := ns.mergeSort (fun a b => decide (a ≤ b))
noncomputable def lenD (h : Hh) (a : D) : Option Nat := match a with
  | .tup ds => some ds.length
  | .str z => if line z.length then some z.length else none
  | .ref n => match h[n]? with
    | some (.lst ds) => some ds.length
    | some (.fro ds) => some ds.length
    | some (.dct kvs) => some kvs.length
    | _ => none
  | _ => none
noncomputable def bltD (b : B) (ds : List D) (h : Hh) : Option (D × Hh) := match b, ds with
  | .len, [a] => (lenD h a).map fun (n : Nat) => (D.int (n : Int), h)
  | .abs, [.int i] => some (.int i.natAbs, h)
  | .min, [.int i, .int j] => some (.int (min i j), h)
  | .max, [.int i, .int j] => some (.int (max i j), h)
  | .min, [.ref n] => ((lstOf h (.ref n)).bind intsOf).bind fun ns => (minL ns).map fun m => (.int m, h)
  | .max, [.ref n] => ((lstOf h (.ref n)).bind intsOf).bind fun ns => (maxL ns).map fun m => (.int m, h)
  | .sum, [.ref n] => ((lstOf h (.ref n)).bind intsOf).map fun ns => (.int ns.sum, h)
  | .int, [.int i] => some (.int i, h)
  | .int, [.bl k] => some (.int (if k then 1 else 0), h)
  | .int, [.str x] => if x.length ≤ 640 then (intText? x).map fun n => (.int n, h) else none
  | .str, [.tup ds] => match intsOf ds with
    | some ns => if (decide (ns.length ≤ 1000) && ns.all fun n => decide (0 ≤ n) && decide (n < 1000000)) = true then some (.utx, h) else none
    | none => none
  | .str, [.int i] => if i.natAbs.log2 < 1920 then some (.str (toString i : String), h) else none
  | .list, [a] => (seqOf h a).map fun ds => newO h (.lst ds)
  | .tuple, [a] => (seqOf h a).map fun ds => (.tup ds, h)
  | .sorted, [.ref n] => ((lstOf h (.ref n)).bind intsOf).map fun ns => newO h (.lst ((isort ns).map .int))
  | .dict, [.ref n] => (dictO h[n]?).map fun o => newO h o
  | .minb, [.ref n] => ((lstOf h (.ref n)).bind blsOf).bind fun bs => (minB bs).map fun b => (.bl b, h)
  | _, _ => none
/-- sorted, each once -/
noncomputable def insS (x : Int) : List Int → List Int
  | [] => [x]
  | y :: ys => if x < y then x :: y :: ys else if x = y then y :: ys else y :: insS x ys
noncomputable def ssort (ns : List Int) : List Int := ns.foldr insS []
/-- texts sorted -/
noncomputable def leS (a b : Str) : Bool := decide (a.cps.toList ≤ b.cps.toList)
noncomputable def tsrt (zs : List Str) : List Str := zs.mergeSort leS
/-- .. the keys of a dict, fewer than 64 -/
noncomputable def srtK (ds : List D) : Option (List D) := match intsOf ds with
  | some ns => some ((isort ns).map .int)
  | none => (strsOf ds).map fun zs => (tsrt zs).map .str
/-- isinstance of a built-in class -/
noncomputable def tyD (h : Hh) : D → Option String
  | .non => some "NoneType"
  | .bl _ => some "bool"
  | .int _ => some "int"
  | .str _ => some "str"
  | .utx => some "str"
  | .tup _ => some "tuple"
  | .ref n => match h[n]? with
    | some (.lst _) => some "list"
    | some (.fro _) => some "list"
    | some (.dct _) => some "dict"
    | _ => none
inductive Ty | int | bool | str | list | tuple | dict
  deriving DecidableEq
noncomputable def Ty.name : Ty → String
  | .int => "int"
  | .bool => "bool"
  | .str => "str"
  | .list => "list"
  | .tuple => "tuple"
  | .dict => "dict"
noncomputable def isiD (t : String) (c : Ty) : Bool := t == c.name || (t == "bool" && c == .int)

/-- of the classes of refusals -/
noncomputable def excSub (x c : Str) : Bool := decide (x = c) || decide (c = "SmithError") || decide (c = "ValueError")
/-- of the classes of things -/
noncomputable def insSub (x c : Str) : Bool := decide (x = c) || (decide (c = "Deed") && ([("Blank" : Str), "File", "Pin", "Bolt", "Open"]).contains x)
/-- isinstance of a thing of an own class -/
noncomputable def iskD (t : Str) (x : D) (h : Hh) : Option Bool := match x with
  | .ref n => match h[n]? with
    | some (.ins c _) => some (insSub c t)
    | _ => none
  | _ => none
/-- o.f -/
noncomputable def fldD (f : Str) (x : D) (h : Hh) : Option (D × Hh) := match x with
  | .ref n => match h[n]? with
    | some (.exc _ fs) => (fs.lookup f).map (·, h)
    | some (.ins _ fs) => (fs.lookup f).map (·, h)
    | _ => none
  | _ => none
/-- o.f = v -/
noncomputable def putFD (f : Str) (v : D) : List (Str × D) → List (Str × D)
  | [] => [(f, v)]
  | (k, x) :: r => if k = f then (k, v) :: r else (k, x) :: putFD f v r
noncomputable def setfD (f : Str) (v x : D) (h : Hh) : Option Hh := match x with
  | .ref n => match h[n]? with
    | some (.ins c fs) => if fs.length < 1000 then some (h.set n (.ins c (putFD f v fs))) else none
    | _ => none
  | _ => none
/-- whose method o.m is -/
noncomputable def clsOf (m : Str) (x : D) (h : Hh) : Option Str := match x with
  | .ref n => match h[n]? with
    | some (.ins c fs) => if (fs.lookup m).isNone then some c else none
    | _ => none
  | _ => none
/-- f'{x}' -/
noncomputable def fmtD : D → Option Str
  | .str y => if line y.length then some y else none
  | .int i => if i.natAbs.log2 < 1920 then some (toString i : String) else none
  | _ => none
/-- isinstance of a refusal that is kept, one of classes -/
noncomputable def isxD (cs : List Str) (x : D) (h : Hh) : Option Bool := match x with
  | .ref n => match h[n]? with
    | some (.exc c _) => some (cs.any (excSub c))
    | _ => none
  | _ => none
/-! ### what is written in a way of its own, of one thing -/
/-- unlike keys -/
noncomputable def hasK (zs : List DKey) (z : DKey) : Bool := zs.any fun y => decide (y = z)
noncomputable def insK (zs : List DKey) (z : DKey) : List DKey := if hasK zs z = true then zs else zs ++ [z]
noncomputable def uniqK (zs : List DKey) : List DKey := zs.foldl insK []
noncomputable def insT (zs : List Str) (z : Str) : List Str := if z ∈ zs then zs else z :: zs
noncomputable def uniqT (zs : List Str) : List Str := zs.foldl insT []
inductive U | sset | rev | vsum | vlst | klst | ksrt | ilst | tset | lset | lrev | ssrt
/-! tuples of whole numbers, sorted, each once -/
noncomputable def tins (x : List Int) : List (List Int) → List (List Int)
  | [] => [x]
  | y :: l => if x = y then y :: l else if HT.lexLt x y = true then x :: y :: l else y :: tins x l
noncomputable def tsort (ts : List (List Int)) : List (List Int) := ts.foldr tins []
noncomputable def tupI : D → Option (List Int)
  | .tup ds => intsOf ds
  | _ => none
noncomputable def tupsOk (ts : List (List Int)) : Bool := ts.all fun t => decide (t.length = (ts.headD []).length) && decide (1 ≤ t.length) && t.all fun x => decide (0 ≤ x)
/-- the dict that stands there, unlocked -/
noncomputable def dctU (h : Hh) : D → Option (List (DKey × D))
  | .ref n => match h[n]? with
    | some (.dct kvs) => some kvs
    | _ => none
  | _ => none
noncomputable def unD (u : U) (d : D) (h : Hh) : Option (D × Hh) := match u with
  | .sset => ((seqOf h d).bind intsOf).bind fun ns => if ns.length < 64 then some (newO h (.lst ((ssort ns).map .int))) else none
  | .rev => match d with
    | .tup ds => some (.tup ds.reverse, h)
    | _ => (lstOf h d).map fun ds => newO h (.lst ds.reverse)
  | .lrev => (lstOf h d).map fun ds => newO h (.lst ds.reverse)
  | .ssrt => ((lstOf h d).bind strsOf).bind fun zs => if zs.length < 64 then some (newO h (.lst ((tsrt (uniqT zs)).map .str))) else none
  | .vsum => ((dctOf h d).bind fun kvs => intsOf (kvs.map (·.2))).map fun ns => (.int ns.sum, h)
  | .vlst => (dctOf h d).map fun kvs => newO h (.lst (kvs.map (·.2)))
  | .klst => (dctOf h d).map fun kvs => newO h (.lst (kvs.map fun kv => ofKey kv.1))
  | .tset => ((lstOf h d).bind fun ds => ds.mapM tupI).bind fun ts => if (decide (ts.length < 64) && tupsOk ts) = true then some (newO h (.lst ((tsort ts).map fun t => .tup (t.map .int)))) else none
  | .lset => ((lstOf h d).bind fun ds => ds.mapM keyOf).bind fun ks => if ks.length ≤ 1000 then some (.int ((uniqK ks).length : Nat), h) else none
  | .ilst => (dctU h d).map fun kvs => newO h (.lst (kvs.map fun kv => .tup [ofKey kv.1, kv.2]))
  | .ksrt => match dctOf h d with
    | some kvs => if kvs.length < 64 then (srtK (kvs.map fun kv => ofKey kv.1)).map fun ds => newO h (.lst ds) else none
    | none => (lstOf h d).bind fun xs => if xs.length < 64 then (srtK xs).map fun ds => newO h (.lst ds) else none
/-- dict(zip(x, y)) -/
noncomputable def dzipD (x y : D) (h : Hh) : Option (D × Hh) := (lstOf h x).bind fun xs => (xs.mapM keyOf).bind fun ks => (lstOf h y).map fun ys => newO h (.dct (mergeD [] (ks.zip ys)))
/-- list(zip(x, y)) -/
noncomputable def lzipK (x y : D) (h : Hh) : Option (D × Hh) := (lstOf h x).bind fun xs => (xs.mapM keyOf).bind fun ks => (lstOf h y).map fun ys => newO h (.lst ((ks.zip ys).map fun p => .tup [ofKey p.1, p.2]))
/-- either of the two -/
noncomputable def pzD (l : Bool) (x y : D) (h : Hh) : Option (D × Hh) := if l = true then lzipK x y h else dzipD x y h
/-- {x: y, x2: y2}, the dict laid ahead -/
noncomputable def d2D (n : Nat) (x y x2 y2 : D) (h : Hh) : Option (D × Hh) := match h[n]?, keyOf x, keyOf x2 with
  | some (.dct []), some k, some k2 => some (.ref n, h.set n (.dct (mergeD [] [(k, y), (k2, y2)])))
  | _, _, _ => none
/-- {x: y}, the dict laid ahead -/
noncomputable def d1D (n : Nat) (x y : D) (h : Hh) : Option (D × Hh) := match h[n]?, keyOf x with
  | some (.dct []), some k => some (.ref n, h.set n (.dct [(k, y)]))
  | _, _ => none
/-! ### methods of built-in things -/
inductive M | dclear | append | extend | split | join | upper | pop | insert | clear | get | update | index | count
/-- d.update(e), by what stands there -/
noncomputable def updO (n m : Nat) : Option O → Option O → Option O
  | some (.dct kvs), some (.dct ls) => if n = m then none else if line (kvs.length + ls.length) then some (.dct (mergeD kvs ls)) else none
  | _, _ => none
noncomputable def isLst (h : Hh) (n : Nat) : Bool := match h[n]? with
  | some (.lst _) => true
  | some (.fro _) => true
  | _ => false
noncomputable def isDct (h : Hh) (n : Nat) : Bool := match h[n]? with
  | some (.dct _) => true
  | _ => false
/-- d.get(k), d.get(k, v) -/
noncomputable def dgetD (o : Option O) (k e : D) : Option D := match o with
  | some (.dct kvs) => match k with
    | .non => some e
    | _ => (keyOf k).map fun k => (valD kvs k).getD e
  | _ => none
noncomputable def metK (m : M) (o : D) (h : Hh) : Bool := match m, o with
  | .get, .ref n => isDct h n
  | .update, .ref n => isDct h n
  | .dclear, .ref n => isDct h n
  | .append, .ref n => isLst h n
  | .extend, .ref n => isLst h n
  | .pop, .ref n => isLst h n
  | .insert, .ref n => isLst h n
  | .clear, .ref n => isLst h n
  | .index, .ref n => isLst h n
  | .count, .ref n => isLst h n
  | .join, .str _ => true
  | .split, .str _ => true
  | .upper, .str _ => true
  | _, _ => false
noncomputable def metD (m : M) (o : D) (ds : List D) (h : Hh) : Option (D × Hh) := match m, o, ds with
  | .append, .ref n, [d] => match h[n]? with
    | some (.lst xs) => if decide (xs.length < sizeLine) then some (.non, h.set n (.lst (xs ++ [d]))) else none
    | _ => none
  | .extend, .ref n, [.ref m] => match h[n]?, h[m]? with
    | some (.lst xs), some (.lst ys) => if line (xs.length + ys.length) then some (.non, h.set n (.lst (xs ++ ys))) else none
    | _, _ => none
  | .pop, .ref n, [] => match h[n]? with
    | some (.lst xs) => (xs[xs.length - 1]?).map fun d => (d, h.set n (.lst xs.dropLast))
    | _ => none
  | .pop, .ref n, [.int i] => match h[n]? with
    | some (.lst xs) => if decide (0 ≤ i) && decide (i < 2 ^ 63) then (xs[i.toNat]?).map fun d => (d, h.set n (.lst (xs.eraseIdx i.toNat))) else none
    | _ => none
  | .insert, .ref n, [.int i, d] => match h[n]? with
    | some (.lst xs) => if decide (xs.length < sizeLine) && (decide (0 ≤ i) && decide (i < 2 ^ 63)) then some (.non, h.set n (.lst (xs.take i.toNat ++ [d] ++ xs.drop i.toNat))) else none
    | _ => none
  | .clear, .ref n, [] => match h[n]? with
    | some (.lst _) => some (.non, h.set n (.lst []))
    | _ => none
  | .dclear, .ref n, [] => match h[n]? with
    | some (.dct _) => some (.non, h.set n (.dct []))
    | _ => none
  | .count, .ref n, [x] => match h[n]? with
    | some (.lst xs) => if flatD x && xs.all flatD then some (.int (xs.countP fun y => eqF y x : Nat), h) else none
    | _ => none
  | .index, .ref n, [x] => match h[n]? with
    | some (.lst xs) => if flatD x && xs.all flatD then (xs.findIdx? fun y => eqF y x).map fun (i : Nat) => (.int (i : Nat), h) else none
    | _ => none
  | .update, .ref n, [.ref m] => (updO n m h[n]? h[m]?).map fun o => (.non, h.set n o)
  | .get, .ref n, [k] => (dgetD h[n]? k .non).map fun d => (d, h)
  | .get, .ref n, [k, e] => (dgetD h[n]? k e).map fun d => (d, h)
  | .join, .str z, [.ref n] => ((lstOf h (.ref n)).bind strsOf).bind fun xs =>
      if Nat.ble ((xs.map fun x => x.length).sum + xs.length * z.length) 16777216 then some (.str (Txt.join z xs), h) else none
  | .upper, .str z, [] => if decide (z.length ≤ 5592405) then some (.str (Txt.upper z), h) else none
  | .split, .str z, [.str y] => if !(y.length == 0) && line (z.length + 2) then some (newO h (.lst ((Txt.split z y).map .str))) else none
  | _, _, _ => none
end Z

set_option Elab.async false
set_option linter.all false
set_option maxRecDepth 100000
/-! Z, part B: the small syntax and its weakest preconditions. -/
namespace Z
open PySem PySem.Spec PyProof.Rows

inductive Tg
  | nm (i : Nat)
  | tp (is : List Nat)

/-- how a dict is walked -/
inductive Dk
  | keys | keysM | vals | items
/-- a part of an f-string: a text, {x}, {x.f} -/
inductive Fp
  | lit (x : Str) | v (i : Nat) | fld (i : Nat) (f : Str)
/-- expressions, argument lists (nil, cons), what a for walks -/
inductive E
  | v (i : Nat) | gc (k : Nat) | ci (n : Int) | cb (b : Bool) | cn | cs (x : Str)
  | bin (op : Operator) (a b : E)
  | cmp (op : CmpOp) (a b : E)
  | chn (op op' : CmpOp) (a b c : E)
  | and (a b : E) | or (a b : E) | not (a : E) | neg (a : E)
  | ix (a b : E) | sl (a lo hi : E)
  | lst (es : E) | tup (es : E)
  | nil | cons (e es : E)
  | call (f : Nat) (es : E) | cald (f : Nat) (es : E)
  | blt (f : B) (es : E)
  | isi (a : E) (t : Ty)
  | isx (a : E) (cs : List Str) | isk (a : E) (t : Str) | fld (a : E) (f : Str)
  | un (u : U) (a : E) | dnew | d1 (a b : E) | d2 (a b c d : E) | dzip (l : Bool) (a b : E) | sls (a lo st : E)
  | met (o : E) (m : M) (es : E)
  | nev | mk (c : Str) (es : E) | cm (o : E) (m : Str) (es : E) | fs (ps : List Fp)
  | cpr (elt : E) (tg : Tg) (it : E) (cond : E) (own : List Nat)
  | lkd (p c : E) | idct (k : Dk) (e : E)
  | irange (a : E) | irange2 (a b : E) | irange3 (a b c : E) | ienum (e : E) | izip (a b : E) | irev (e : E) | irevr (a : E)

noncomputable def isNil : E → Bool
  | .nil => true
  | _ => false
/-- what is walked -/
inductive Wk
  | pure (ds : List D)
  | ofL (n : Nat) (ds : List D)
  | enumL (n : Nat) (ds : List D)
  | zipL (m n : Nat) (xs ys : List D)
  | revL (n : Nat) (ds : List D)
  | dctL (n : Nat) (kvs : List (DKey × D)) (k : Dk)
  | zipM (m : Nat) (xs ys : List D)
noncomputable def ditems (kvs : List (DKey × D)) : Dk → List D
  | .keys => kvs.map fun kv => ofKey kv.1
  | .keysM => kvs.map fun kv => ofKey kv.1
  | .vals => kvs.map fun kv => kv.2
  | .items => kvs.map fun kv => .tup [ofKey kv.1, kv.2]
noncomputable def isList (h : Hh) (n : Nat) (ds : List D) : Prop := h[n]? = some (.lst ds) ∨ h[n]? = some (.fro ds)
noncomputable def Wk.items : Wk → List D
  | .pure ds => ds
  | .ofL _ ds => ds
  | .enumL _ ds => (List.range ds.length).zipWith (fun i d => .tup [.int (i : Nat), d]) ds
  | .zipL _ _ xs ys => List.zipWith (fun a b => .tup [a, b]) xs ys
  | .revL _ ds => ds.reverse
  | .dctL _ kvs k => ditems kvs k
  | .zipM _ xs ys => List.zipWith (fun a b => .tup [a, b]) xs ys
noncomputable def Wk.guard : Wk → Hh → Prop
  | .pure _, _ => True
  | .ofL n ds, h => isList h n ds
  | .enumL n ds, h => isList h n ds
  | .zipL m n xs ys, h => isList h m xs ∧ isList h n ys
  | .revL n ds, h => isList h n ds
  | .dctL n kvs _, h => h[n]? = some (.dfr kvs)
  | .zipM m xs _, h => isList h m xs
abbrev KW := Wk → Hh → Prop

/-- what a def is to its callers -/
abbrev Fn := Nat → List D → Hh → KD → KX → Prop
structure G where
  fn : Fn
  con : Nat → Option D
  /-- what stands for a last argument left out -/
  dfl : Nat → Option Int
  /-- a class's method -/
  mth : Str → Str → Option Nat

noncomputable def wkOf (h : Hh) : D → Option Wk
  | .tup ds => some (.pure ds)
  | .str z => some (.pure (z.cps.toList.map fun c => .str ⟨#[c]⟩))
  | .ref n => match h[n]? with
    | some (.lst ds) => some (.ofL n ds)
    | some (.fro ds) => some (.ofL n ds)
    | _ => none
  | _ => none
noncomputable def asB (Q : Bool → Hh → Prop) : KD := fun d h => match d with
  | .bl b => Q b h
  | _ => False
noncomputable def small62 (i : Int) : Bool := decide (-(2 ^ 62) ≤ i) && decide (i < 2 ^ 62)
noncomputable def iRange (a : D) : Option Wk := match a with
  | .int j => if small62 j then some (.pure ((List.range j.toNat).map fun i => .int (i : Nat))) else none
  | _ => none
noncomputable def iRange2 (a b : D) : Option Wk := match a, b with
  | .int i, .int j => if small62 i && small62 j then some (.pure ((List.range (j - i).toNat).map fun k => .int (i + (k : Nat)))) else none
  | _, _ => none
noncomputable def iRange3 (a b c : D) : Option Wk := match a, b, c with
  | .int i, .int j, .int k => if decide (k ≠ 0) && decide (k.natAbs < 1073741824) && PySem.Builtin.Range.small i j k then some (.pure ((List.range (PySem.Builtin.Range.rangeSize i j k).toNat).map fun m => .int (i + (m : Nat) * k))) else none
  | _, _, _ => none
noncomputable def iRevR (a : D) : Option Wk := match a with
  | .int j => if small62 j then some (.pure ((List.range j.toNat).reverse.map fun i => .int (i : Nat))) else none
  | _ => none
noncomputable def iEnum (h : Hh) (d : D) : Option Wk := match d with
  | .tup ds => some (.pure ((List.range ds.length).zipWith (fun i d => .tup [.int (i : Nat), d]) ds))
  | .ref n => match h[n]? with
    | some (.lst ds) => some (.enumL n ds)
    | some (.fro ds) => some (.enumL n ds)
    | _ => none
  | _ => none
noncomputable def iZip (h : Hh) (a b : D) : Option Wk := match a, b with
  | .tup xs, .tup ys => some (.pure (List.zipWith (fun a b => .tup [a, b]) xs ys))
  | .ref m, .ref n => match lstOf h (.ref m), lstOf h (.ref n) with
    | some xs, some ys => some (.zipL m n xs ys)
    | _, _ => none
  | .ref m, .tup ys => (lstOf h (.ref m)).map fun xs => .zipM m xs ys
  | _, _ => none
noncomputable def iRev (h : Hh) (d : D) : Option Wk := match d with
  | .ref n => match h[n]? with
    | some (.lst ds) => some (.revL n ds)
    | some (.fro ds) => some (.revL n ds)
    | _ => none
  | .tup ds => some (.pure ds.reverse)
  | _ => none
/-- a dict is walked: from then on it stands as it is -/
noncomputable def iDct (k : Dk) (h : Hh) (d : D) : Option (Wk × Hh) := match d with
  | .ref n => match h[n]? with
    | some (.dct kvs) => some (.dctL n kvs k, h.set n (.dfr kvs))
    | some (.dfr kvs) => some (.dctL n kvs k, h)
    | _ => none
  | _ => none
noncomputable def bndWH (r : Option (Wk × Hh)) (Q : KW) : Prop := match r with
  | some (w, h) => Q w h
  | none => False
noncomputable def bndW (r : Option Wk) (Q : KW) (h : Hh) : Prop := match r with
  | some w => Q w h
  | none => False
noncomputable def bndB (r : Option Bool) (Q : KD) (h : Hh) : Prop := match r with
  | some b => Q (.bl b) h
  | none => False
/-- a part of a slice -/
noncomputable def asPart (Q : Option Int → Hh → Prop) : KD := fun d h => match d with
  | .int i => Q (some i) h
  | _ => False

/-! ### targets, loops -/
noncomputable def setAll : List Nat → List D → Env → Option Env
  | [], [], env => some env
  | i :: is, d :: ds, env => setAll is ds (env.set i (some d))
  | _, _, _ => none
noncomputable def Tg.put (tg : Tg) (d : D) (env : Env) : Option Env := match tg with
  | .nm i => some (env.set i (some d))
  | .tp is => match d with
    | .tup ds => setAll is ds env
    | _ => none
noncomputable def bndE (r : Option Env) (Q : Env → Prop) : Prop := match r with
  | some env => Q env
  | none => False
/-- over the items: step does one turn -/
noncomputable def walk (g : Hh → Prop) (step : D → Env → Hh → (Env → Hh → Prop) → Prop) (k : Env → Hh → Prop) : List D → Env → Hh → Prop
  | [], env, h => g h ∧ k env h
  | d :: ds, env, h => g h ∧ step d env h (walk g step k ds)
/-- a comprehension: acc is what the new list at n holds -/
noncomputable def walkC (g : Hh → Prop) (n : Nat) (step : D → Hh → (Option D → Hh → Prop) → Prop) (k : Hh → Prop) : List D → List D → Hh → Prop
  | [], _, h => g h ∧ k h
  | d :: ds, acc, h => g h ∧ step d h fun o h1 => match o with
    | none => h1[n]? = some (.lst acc) ∧ walkC g n step k ds acc h1
    | some x => h1[n]? = some (.lst acc) ∧ acc.length < sizeLine ∧ walkC g n step k ds (acc ++ [x]) (h1.set n (.lst (acc ++ [x])))
noncomputable def wipeD (env : Env) : List Nat → Env
  | [] => env
  | i :: is => (wipeD env is).set i none

structure Sem where
  val : Env → Hh → KD → KX → Prop
  tst : Env → Hh → (Bool → Hh → Prop) → KX → Prop
  arg : Env → Hh → (List D → Hh → Prop) → KX → Prop
  itr : Env → Hh → KW → KX → Prop
  prt : Env → Hh → (Option Int → Hh → Prop) → KX → Prop
/-- from a value alone -/
noncomputable def ofVal (val : Env → Hh → KD → KX → Prop) : Sem where
  val := val
  tst env h Q X := val env h (asB Q) X
  arg _ _ _ _ := False
  itr env h Q X := val env h (fun d h1 => bndW (wkOf h1 d) Q h1) X
  prt env h Q X := val env h (asPart Q) X
noncomputable def vget (env : Env) (i : Nat) : Option D := (env[i]?).join

/-- what stands at the end of a path -/
noncomputable def pv (env : Env) (h : Hh) : E → Option D
  | .v i => vget env i
  | .ci n => some (.int n)
  | .cs x => some (.str x)
  | .neg a => (pv env h a).bind fun x => match x with
    | .int i => some (.int (-i))
    | _ => none
  | .ix a b => (pv env h a).bind fun x => (pv env h b).bind fun y => (ixD x y h).map (·.1)
  | .fld a f => (pv env h a).bind fun x => (fldD f x h).map (·.1)
  | _ => none
/-- the parts of an f-string -/
noncomputable def fpD (env : Env) (h : Hh) : Fp → Option D
  | .lit x => some (.str x)
  | .v i => vget env i
  | .fld i f => (vget env i).bind fun x => (fldD f x h).map (·.1)
noncomputable def catS (acc y : Str) : Option Str := if line (acc ++ y).length then some (acc ++ y) else none
noncomputable def fsD (env : Env) (h : Hh) : List Fp → Str → Option Str
  | [], acc => some acc
  | p :: ps, acc => (fpD env h p).bind fun x => (fmtD x).bind fun y => (catS acc y).bind fun z => fsD env h ps z
noncomputable def mthQ (r : Option Nat) (k : Nat → Prop) : Prop := match r with
  | some i => k i
  | none => False
noncomputable def isNon : D → Bool
  | .non => true
  | _ => false
/-- the dict there, if it is not walked yet -/
noncomputable def dctAt (o : Option O) : Option (List (DKey × D)) := match o with
  | some (.dct kvs) => some kvs
  | _ => none
noncomputable def lkAt (h : Hh) (r : Option D) : Option (Nat × List (DKey × D)) := match r with
  | some (.ref n) => (dctAt h[n]?).map fun kvs => (n, kvs)
  | _ => none
noncomputable def lkQ (r : Option (Nat × List (DKey × D))) (no : Prop) (yes : Nat × List (DKey × D) → Prop) : Prop := match r with
  | some q => yes q
  | none => no
noncomputable def dflQ (r : Option Int) (k : Int → Prop) : Prop := match r with
  | some i => k i
  | none => False
/-- .. is let go -/
noncomputable def unlQ (n : Nat) (kvs : List (DKey × D)) (h : Hh) (K : Hh → Prop) : Prop := h[n]? = some (.dfr kvs) ∧ K (h.set n (.dct kvs))
variable (g : G)
noncomputable def sem : E → Sem
  | .v i => ofVal fun env h Q _ => bnd ((vget env i).map (·, h)) Q
  | .gc k => ofVal fun _ h Q _ => bnd ((g.con k).map (·, h)) Q
  | .ci n => ofVal fun _ h Q _ => Q (.int n) h
  | .cb b => ofVal fun _ h Q _ => Q (.bl b) h
  | .cn => ofVal fun _ h Q _ => Q .non h
  | .cs x => ofVal fun _ h Q _ => Q (.str x) h
  | .bin op a b => ofVal fun env h Q X => (sem a).val env h (fun x h1 => (sem b).val env h1 (fun y h2 => bnd (binD op x y h2) Q) X) X
  | .cmp op a b => ofVal fun env h Q X => (sem a).val env h (fun x h1 => (sem b).val env h1 (fun y h2 => bndB (cmpD op x y h2) Q h2) X) X
  | .chn op op' a b c => ofVal fun env h Q X => (sem a).val env h (fun x h1 => (sem b).val env h1 (fun y h2 => bndB (cmpD op x y h2) (asB fun k h3 =>
      if k = true then (sem c).val env h3 (fun z h4 => bndB (cmpD op' y z h4) Q h4) X else Q (.bl false) h3) h2) X) X
  | .and a b => { ofVal (fun env h Q X => (sem a).val env h (asB fun k h1 => if k = true then (sem b).val env h1 Q X else Q (.bl false) h1) X) with
      tst := fun env h Q X => (sem a).tst env h (fun k h1 => if k = true then (sem b).tst env h1 Q X else Q false h1) X }
  | .or a b => { ofVal (fun env h Q X => (sem a).val env h (asB fun k h1 => if k = true then Q (.bl true) h1 else (sem b).val env h1 Q X) X) with
      tst := fun env h Q X => (sem a).tst env h (fun k h1 => if k = true then Q true h1 else (sem b).tst env h1 Q X) X }
  | .not a => { ofVal (fun env h Q X => (sem a).val env h (asB fun k h1 => Q (.bl (!k)) h1) X) with
      tst := fun env h Q X => (sem a).tst env h (fun k h1 => Q (!k) h1) X }
  | .neg a => ofVal fun env h Q X => (sem a).val env h (fun x h1 => match x with | .int i => Q (.int (-i)) h1 | _ => False) X
  | .ix a b => ofVal fun env h Q X => (sem a).val env h (fun x h1 => (sem b).val env h1 (fun y h2 => bnd (ixD x y h2) Q) X) X
  | .sl a lo hi => ofVal fun env h Q X => (sem a).val env h (fun x h1 => (sem lo).prt env h1 (fun l h2 => (sem hi).prt env h2 (fun u h3 => bnd (slD x l u h3) Q) X) X) X
  | .lst es => ofVal fun env h Q X => (sem es).arg env h (fun ds h1 => line ds.length = true ∧ Q (.ref h1.length) (h1 ++ [.lst ds])) X
  | .tup es => ofVal fun env h Q X => (sem es).arg env h (fun ds h1 => line ds.length = true ∧ Q (.tup ds) h1) X
  | .nil => { ofVal (fun _ _ _ _ => False) with arg := fun _ h Q _ => Q [] h, prt := fun _ h Q _ => Q none h }
  | .cons e es => { ofVal (fun _ _ _ _ => False) with arg := fun env h Q X => (sem e).val env h (fun d h1 => (sem es).arg env h1 (fun ds h2 => Q (d :: ds) h2) X) X }
  | .call f es => ofVal fun env h Q X => (sem es).arg env h (fun ds h1 => g.fn f ds h1 Q X) X
  | .cald f es => ofVal fun env h Q X => (sem es).arg env h (fun ds h1 => dflQ (g.dfl f) fun i => g.fn f (ds ++ [.int i]) h1 Q X) X
  | .blt f es => ofVal fun env h Q X => (sem es).arg env h (fun ds h1 => bnd (bltD f ds h1) Q) X
  | .isi a t => ofVal fun env h Q X => (sem a).val env h (fun x h1 => bndB ((tyD h1 x).map fun s => isiD s t) Q h1) X
  | .isx a cs => ofVal fun env h Q X => (sem a).val env h (fun x h1 => bndB (isxD cs x h1) Q h1) X
  | .isk a t => ofVal fun env h Q X => (sem a).val env h (fun x h1 => bndB (iskD t x h1) Q h1) X
  | .fld a f => ofVal fun env h Q X => (sem a).val env h (fun x h1 => bnd (fldD f x h1) Q) X
  | .un u a => ofVal fun env h Q X => (sem a).val env h (fun x h1 => bnd (unD u x h1) Q) X
  | .dnew => ofVal fun _ h Q _ => Q (.ref h.length) (h ++ [.dct []])
  | .sls a lo st => ofVal fun env h Q X => (sem a).val env h (fun x h1 => (sem lo).val env h1 (fun l h2 => (sem st).val env h2 (fun c h3 => bnd (slsD x l c h3) Q) X) X) X
  | .d1 a b => ofVal fun env h Q X => (sem a).val env (h ++ [.dct []]) (fun x h1 => (sem b).val env h1 (fun y h2 => bnd (d1D h.length x y h2) Q) X) X
  | .d2 a b c d => ofVal fun env h Q X => (sem a).val env (h ++ [.dct []]) (fun x h1 => (sem b).val env h1 (fun y h2 => (sem c).val env h2 (fun x2 h3 => (sem d).val env h3 (fun y2 h4 => bnd (d2D h.length x y x2 y2 h4) Q) X) X) X) X
  | .dzip l a b => ofVal fun env h Q X => (sem a).val env h (fun x h1 => (sem b).val env h1 (fun y h2 => bnd (pzD l x y h2) Q) X) X
  | .met o m es => ofVal fun env h Q X => (sem o).val env h (fun x h1 => metK m x h1 = true ∧ (sem es).arg env h1 (fun ds h2 => bnd (metD m x ds h2) Q) X) X
  | .nev => ofVal fun _ _ _ _ => False
  | .fs ps => ofVal fun env h Q _ => bnd ((fsD env h ps Str.empty).map fun z => (.str z, h)) Q
  | .mk c es => ofVal fun env h Q X => (sem es).arg env h (fun ds h1 => mthQ (g.mth c "__init__") fun f => g.fn f (.ref h1.length :: ds) (h1 ++ [.ins c []]) (fun d h2 => isNon d = true ∧ Q (.ref h1.length) h2) X) X
  | .cm o m es => ofVal fun env h Q X => (sem o).val env h (fun x h1 => mthQ ((clsOf m x h1).bind fun c => g.mth c m) fun f => (sem es).arg env h1 (fun ds h2 => g.fn f (x :: ds) h2 Q X) X) X
  | .cpr elt tg it cond own => ofVal fun env h Q X => (sem it).itr env h (fun w h1 =>
      walkC w.guard h1.length (fun d h2 K => bndE (tg.put d (wipeD env own)) fun env2 => if isNil cond = true then (sem elt).val env2 h2 (fun x h3 => K (some x) h3) (fun _ _ => False)
        else (sem cond).tst env2 h2 (fun b h3 => if b = true then (sem elt).val env2 h3 (fun x h4 => K (some x) h4) (fun _ _ => False) else K none h3) (fun _ _ => False))
        (fun h2 => Q (.ref h1.length) h2) w.items [] (h1 ++ [.lst []])) X
  | .lkd p c => ofVal fun env h Q X => lkQ (lkAt h (pv env h p)) ((sem c).val env h Q X) fun q => (sem c).val env (h.set q.1 (.dfr q.2)) (fun d h1 => unlQ q.1 q.2 h1 (Q d)) X
  | .idct k e => { ofVal (fun _ _ _ _ => False) with itr := fun env h Q X => (sem e).val env h (fun d h1 => bndWH (iDct k h1 d) Q) X }
  | .irange a => { ofVal (fun _ _ _ _ => False) with itr := fun env h Q X => (sem a).val env h (fun d h1 => bndW (iRange d) Q h1) X }
  | .irange3 a b c => { ofVal (fun _ _ _ _ => False) with itr := fun env h Q X => (sem a).val env h (fun x h1 => (sem b).val env h1 (fun y h2 => (sem c).val env h2 (fun z h3 => bndW (iRange3 x y z) Q h3) X) X) X }
  | .irange2 a b => { ofVal (fun _ _ _ _ => False) with itr := fun env h Q X => (sem a).val env h (fun x h1 => (sem b).val env h1 (fun y h2 => bndW (iRange2 x y) Q h2) X) X }
  | .ienum e => { ofVal (fun _ _ _ _ => False) with itr := fun env h Q X => (sem e).val env h (fun d h1 => bndW (iEnum h1 d) Q h1) X }
  | .izip a b => { ofVal (fun _ _ _ _ => False) with itr := fun env h Q X => (sem a).val env h (fun x h1 => (sem b).val env h1 (fun y h2 => bndW (iZip h2 x y) Q h2) X) X }
  | .irev e => { ofVal (fun _ _ _ _ => False) with itr := fun env h Q X => (sem e).val env h (fun d h1 => bndW (iRev h1 d) Q h1) X }
  | .irevr a => { ofVal (fun _ _ _ _ => False) with itr := fun env h Q X => (sem a).val env h (fun d h1 => bndW (iRevR d) Q h1) X }

/-! ### statements -/
/-- what stands in an except's suite -/
inductive Su
  | ret (e : E) | set (i : Nat) (e : E) | nev
/-- a constant's value -/
noncomputable def constD : E → Option D
  | .ci n => some (.int n)
  | .cb b => some (.bl b)
  | .cn => some .non
  | .cs x => some (.str x)
  | _ => none
/-- what stands in the suite of an except with a name -/
inductive Hk
  | keep (k : Nat) | retf (fs : List Str) | setf (k : Nat) (f : Str)
  /-- never come to -/
  | never
/-- an argument of a refusal made while another one is handled: a name's value, a field of the other one -/
inductive Ra
  | v (j : Nat) | fl (f : Str)
inductive S
  | nop | brk | done | nev
  | lkd (p : E) (s : S)
  | rai (c : Str)
  | raix (c : Str) (fs : List Str) (es : E)
  | tryn (body : S) (c : Str) (i : Nat) (hk : Hk)
  /-- try: name k = f(..) / except c as i: raise c2(..) -/
  | trc (k f : Nat) (es : E) (c : Str) (i : Nat) (c2 : Str) (fs : List Str) (as : List Ra)
  | tryx (body : S) (c : Str) (su : Su) (els : S)
  | tryy (body : S) (c : Str) (su : Su) (c2 : Str) (su2 : Su)
  | asg (tg : Tg) (e : E)
  | asgl (is : List Nat) (e : E)
  | setix (o i e : E)
  | setf (o : E) (f : Str) (e : E)
  | exp (e : E)
  | ret (e : E)
  | ite (c : E) (a b : S)
  | for (tg : Tg) (it : E) (body : S)
  | whl (c : E) (body : S)
  | seq (a b : S)
structure Ends where
  nx : Env → Hh → Prop
  rt : KD
  bk : Env → Hh → Prop
  ex : Xn → Env → Hh → Prop
noncomputable def setD (o i v : D) (h : Hh) : Option Hh := match o with
  | .ref n => match h[n]? with
    | some (.lst xs) => match i with
      | .int k => (L2.ixN xs.length k).map fun j => h.set n (.lst (xs.set j v))
      | _ => none
    | some (.dct kvs) => (keyOf i).bind fun k => if kvs.length < sizeLine then some (h.set n (.dct (putD kvs k v))) else none
    | _ => none
  | _ => none
noncomputable def bndH (r : Option Hh) (Q : Hh → Prop) : Prop := match r with
  | some h => Q h
  | none => False
noncomputable def whileN (t : Env → Hh → (Bool → Hh → Prop) → Prop) (b : (Env → Hh → Prop) → Env → Hh → Prop) (nx : Env → Hh → Prop) : Nat → Env → Hh → Prop
  | 0, _, _ => False
  | n + 1, env, h => t env h fun c h1 => if c = true then b (whileN t b nx n) env h1 else nx env h1
/-- behind an exception that is caught -/
noncomputable def suS (su : Su) (D : Ends) (env : Env) (h : Hh) : Prop := match su with
  | .ret e => bnd ((constD e).map (·, h)) D.rt
  | .set i e => bnd ((constD e).map (·, h)) fun d h => D.nx (env.set i (some d)) h
  | .nev => False
noncomputable def hkS (hk : Hk) (i : Nat) (x : Xn) (D : Ends) (env : Env) (h : Hh) : Prop := match hk with
  | .keep k => D.nx (((env.set i (some (.ref h.length))).set k (some (.ref h.length))).set i none) (h ++ [.exc x.1 x.2])
  | .retf fs => bnd ((fs.mapM fun f => x.2.lookup f).map fun ds => (.tup ds, h)) D.rt
  | .setf k f => bnd ((x.2.lookup f).map (·, h)) fun d h => D.nx ((env.set k (some d)).set i none) h
  | .never => False
noncomputable def raD (x : Xn) (env : Env) : Ra → Option D
  | .v j => vget env j
  | .fl f => x.2.lookup f
noncomputable def raQ (x : Xn) (env : Env) (fs : List Str) (as : List Ra) (Q : List D → Prop) : Prop := match as.mapM (raD x env) with
  | some ds => ds.length = fs.length ∧ Q ds
  | none => False
/-- the ends, the dict let go -/
noncomputable def enU (n : Nat) (kvs : List (DKey × D)) (D : Ends) : Ends where
  nx := fun env h => unlQ n kvs h (D.nx env)
  rt := fun d h => unlQ n kvs h (D.rt d)
  bk := fun env h => unlQ n kvs h (D.bk env)
  ex := D.ex
noncomputable def wpS : S → Ends → Env → Hh → Prop
  | .lkd p s, D, env, h => lkQ (lkAt h (pv env h p)) (wpS s D env h) fun q => wpS s (enU q.1 q.2 D) env (h.set q.1 (.dfr q.2))
  | .raix c fs es, D, env, h => (sem g es).arg env h (fun ds h1 => ds.length = fs.length ∧ D.ex (c, (fs.zip ds).reverse) env h1) (fun x h1 => D.ex x env h1)
  | .tryn body c i hk, D, env, h => wpS body { D with ex := fun x env1 h1 => if excSub x.1 c = true then hkS hk i x D env1 h1 else D.ex x env1 h1 } env h
  | .trc k f es c i c2 fs as, D, env, h => (sem g es).arg env h (fun ds h1 => g.fn f ds h1 (fun d h2 => D.nx (env.set k (some d)) h2)
      (fun x h2 => if excSub x.1 c = true then raQ x env fs as fun ds => D.ex (c2, (fs.zip ds).reverse) (List.replicate env.length none) h2 else D.ex x env h2)) (fun _ _ => False)
  | .rai c, D, env, h => D.ex (c, []) env h
  | .tryx body c su els, D, env, h => wpS body { D with nx := wpS els D, ex := fun x env1 h1 => if excSub x.1 c = true then suS su D env1 h1 else D.ex x env1 h1 } env h
  | .tryy body c su c2 su2, D, env, h => wpS body { D with ex := fun x env1 h1 => if excSub x.1 c = true then suS su D env1 h1 else if excSub x.1 c2 = true then suS su2 D env1 h1 else D.ex x env1 h1 } env h
  | .nev, _, _, _ => False
  | .nop, D, env, h => D.nx env h
  | .done, D, env, h => D.nx env h
  | .brk, D, env, h => D.bk env h
  | .asg tg e, D, env, h => (sem g e).val env h (fun d h1 => bndE (tg.put d env) fun env1 => D.nx env1 h1) (fun x h1 => D.ex x env h1)
  | .asgl is e, D, env, h => (sem g e).val env h (fun d h1 => bndE ((seqOf h1 d).bind fun ds => setAll is ds env) fun env1 => D.nx env1 h1) (fun x h1 => D.ex x env h1)
  | .setix o i e, D, env, h => (sem g e).val env h (fun v h1 => (sem g o).val env h1 (fun x h2 => (sem g i).val env h2 (fun y h3 => bndH (setD x y v h3) fun h4 => D.nx env h4)
      (fun x h1 => D.ex x env h1)) (fun x h1 => D.ex x env h1)) (fun x h1 => D.ex x env h1)
  | .setf o f e, D, env, h => (sem g e).val env h (fun v h1 => (sem g o).val env h1 (fun x h2 => bndH (setfD f v x h2) fun h3 => D.nx env h3) (fun x h1 => D.ex x env h1)) (fun x h1 => D.ex x env h1)
  | .exp e, D, env, h => (sem g e).val env h (fun _ h1 => D.nx env h1) (fun x h1 => D.ex x env h1)
  | .ret e, D, env, h => (sem g e).val env h D.rt (fun x h1 => D.ex x env h1)
  | .ite c a b, D, env, h => (sem g c).tst env h (fun k h1 => if k = true then wpS a D env h1 else wpS b D env h1) (fun x h1 => D.ex x env h1)
  | .for tg it body, D, env, h => (sem g it).itr env h (fun w h1 => walk w.guard (fun d env h K => bndE (tg.put d env) fun env1 => wpS body { nx := K, rt := D.rt, bk := D.nx, ex := D.ex } env1 h) D.nx w.items env h1) (fun x h1 => D.ex x env h1)
  | .whl c body, D, env, h => ∃ n, whileN (fun env h Q => (sem g c).tst env h Q (fun x h1 => D.ex x env h1)) (fun K env h => wpS body { nx := K, rt := D.rt, bk := D.nx, ex := D.ex } env h) D.nx n env h
  | .seq a b, D, env, h => wpS a { D with nx := wpS b D } env h
end Z

namespace Z
open PySem PySem.Spec PyProof.Rows
/-- a def: its parameters' and its names' number, the body -/
structure Fd where
  np : Nat
  nn : Nat
  body : S
  dfl : Option Int
structure Pg where
  fns : List Fd
  con : List D
  /-- the methods: they stand behind the ng defs of the text -/
  ng : Nat
  mth : List (Str × Str)
noncomputable def Pg.mthAt (p : Pg) (c m : Str) : Option Nat := (p.mth.findIdx? fun q => decide (q = (c, m))).map (p.ng + ·)
noncomputable def Pg.g (p : Pg) (fn : Fn) : G := ⟨fn, fun k => p.con[k]?, fun f => (p.fns[f]?).bind (·.dfl), p.mthAt⟩
noncomputable def startD (n : Nat) (ds : List D) : Env := ds.map some ++ List.replicate (n - ds.length) none
/-! ### what a call leaves: things that nobody holds are forgotten -/
mutual
/-- all places named lie below n -/
noncomputable def bel (n : Nat) : D → Bool
  | .tup ds => bels n ds
  | .ref m => decide (m < n)
  | _ => true
noncomputable def bels (n : Nat) : List D → Bool
  | [] => true
  | d :: ds => bel n d && bels n ds
end
noncomputable def belk {κ : Type} (n : Nat) : List (κ × D) → Bool
  | [] => true
  | kv :: kvs => bel n kv.2 && belk n kvs
noncomputable def O.bel (n : Nat) : O → Bool
  | .lst ds => bels n ds
  | .fro ds => bels n ds
  | .dct kvs => belk n kvs
  | .dfr kvs => belk n kvs
  | .ins _ fs => belk n fs
  | .exc _ fs => belk n fs
open Classical in
/-- what is told of a value and a heap, by a heap as it was -/
noncomputable def gcv (h : Hh) (d : D) (h' : Hh) : D × Hh :=
  if h <+: h' then
    if bel h.length d = true then (d, h)
    else match d with
      | .ref k => match h'[k]? with
        | some o => if O.bel h.length o = true ∧ o.isf = false then (.ref h.length, h ++ [o]) else (d, h')
        | none => (d, h')
      | _ => (d, h')
  else (d, h')
noncomputable def gcQ (h : Hh) (Q : KD) : KD := fun d h' => Q (gcv h d h').1 (gcv h d h').2
open Classical in
noncomputable def gcX (h : Hh) (X : KX) : KX := fun x h' => if h <+: h' ∧ belk h.length x.2 = true then X x h else X x h'
/-- n calls deep -/
noncomputable def Pg.run (p : Pg) : Nat → Fn
  | 0 => fun _ _ _ _ _ => False
  | n + 1 => fun f ds h Q X => match p.fns[f]? with
    | some fd => ds.length = fd.np ∧ wpS (p.g (p.run n)) fd.body { nx := fun _ h1 => gcQ h Q .non h1, rt := gcQ h Q, bk := fun _ _ => False, ex := fun x _ h1 => gcX h X x h1 } (startD fd.nn ds) h
    | none => False
end Z

set_option Elab.async false
set_option linter.all false
set_option maxRecDepth 100000
/-! Z, part C: plain data and the machine's heap side by side; values' operations. -/
namespace Z
open PySem PySem.Spec PyProof.Rows L2

/-- a tuple of the written part -/
noncomputable def KT (K : PySem.W.Frag) (p : Addr) (xs : List V) : Prop :=
  ∃ (ob : Obj) (its : Array Value) (m : Nat), K.lookup p = some ob ∧ ob.cls = .type "tuple" ∧ ob.data = .seq its m ∧ its.size ≤ sizeLine ∧ Vals xs its.toList
noncomputable def TR (K : PySem.W.Frag) (H : Hp) (p : Addr) (xs : List V) : Prop := H p = some (.tup xs) ∨ KT K p xs
theorem TR.sq {K : PySem.W.Frag} {H : Hp} {p : Addr} {xs : List V} (t : TR K H p xs) : SqT K H p xs := by
  rcases t with t | t
  · exact SqT.of t
  · exact .inr t

/-- a stage: where the plain places lie, the plain heap, the layer's heap -/
structure Pt where
  ρ : Nat → Addr
  h : Hh
  H : Hp
/-- what stays, whatever is locked meanwhile -/
structure Pt.Lw (a b : Pt) : Prop where
  n : a.h.length ≤ b.h.length
  r : ∀ k, k < a.h.length → b.ρ k = a.ρ k
  t : ∀ p xs, a.H p = some (.tup xs) → b.H p = some (.tup xs)
  x : ∀ p fs, a.H p = some (.xd fs) → b.H p = some (.xd fs)
/-- .. and what is locked stays so -/
structure Pt.Le (a b : Pt) : Prop extends Pt.Lw a b where
  f : ∀ p ob u, a.H p = some (.frz ob u) → b.H p = some (.frz ob u)
theorem Pt.Le.rfl {a : Pt} : a.Le a := ⟨⟨Nat.le_refl _, fun _ _ => Eq.refl _, fun _ _ e => e, fun _ _ e => e⟩, fun _ _ _ e => e⟩
theorem Pt.Lw.trans {a b c : Pt} (x : a.Lw b) (y : b.Lw c) : a.Lw c :=
  ⟨Nat.le_trans x.n y.n, fun k hk => (y.r k (Nat.lt_of_lt_of_le hk x.n)).trans (x.r k hk), fun p xs e => y.t p xs (x.t p xs e), fun p fs e => y.x p fs (x.x p fs e)⟩
theorem Pt.Le.trans {a b c : Pt} (x : a.Le b) (y : b.Le c) : a.Le c :=
  ⟨x.toLw.trans y.toLw, fun p ob u e => y.f p ob u (x.f p ob u e)⟩

mutual
inductive VR (K : PySem.W.Frag) (a : Pt) : D → V → Prop
  | non : VR K a .non .non
  | bl (b : Bool) : VR K a (.bl b) (.bl b)
  | int (i : Int) : VR K a (.int i) (.int i)
  | str (x : Str) : VR K a (.str x) (.str x)
  /-- a text that isn't told -/
  | utx (x : Str) : x.length ≤ 100000 → VR K a .utx (.str x)
  | tup {p : Addr} {vs : List V} {ds : List D} : TR K a.H p vs → VRs K a ds vs → VR K a (.tup ds) (.ref p)
  | ref {n : Nat} : n < a.h.length → VR K a (.ref n) (.ref (a.ρ n))
inductive VRs (K : PySem.W.Frag) (a : Pt) : List D → List V → Prop
  | nil : VRs K a [] []
  | cons {d : D} {v : V} {ds : List D} {vs : List V} : VR K a d v → VRs K a ds vs → VRs K a (d :: ds) (v :: vs)
end
theorem TR.monoW {K : PySem.W.Frag} {a b : Pt} {p : Addr} {xs : List V} (t : TR K a.H p xs) (l : a.Lw b) : TR K b.H p xs := t.imp (l.t p xs) id
theorem TR.mono {K : PySem.W.Frag} {a b : Pt} {p : Addr} {xs : List V} (t : TR K a.H p xs) (l : a.Le b) : TR K b.H p xs := t.monoW l.toLw
mutual
theorem VR.monoW {K : PySem.W.Frag} {a b : Pt} (l : a.Lw b) : ∀ {d : D} {v : V}, VR K a d v → VR K b d v
  | _, _, .non => .non
  | _, _, .bl k => .bl k
  | _, _, .int i => .int i
  | _, _, .str x => .str x
  | _, _, .utx x h => .utx x h
  | _, _, .tup t r => .tup (t.monoW l) (VRs.monoW l r)
  | _, _, .ref h => by rw [← l.r _ h]; exact .ref (Nat.lt_of_lt_of_le h l.n)
theorem VRs.monoW {K : PySem.W.Frag} {a b : Pt} (l : a.Lw b) : ∀ {ds : List D} {vs : List V}, VRs K a ds vs → VRs K b ds vs
  | _, _, .nil => .nil
  | _, _, .cons x r => .cons (VR.monoW l x) (VRs.monoW l r)
end
theorem VR.mono {K : PySem.W.Frag} {a b : Pt} (l : a.Le b) {d : D} {v : V} (r : VR K a d v) : VR K b d v := r.monoW l.toLw
theorem VRs.mono {K : PySem.W.Frag} {a b : Pt} (l : a.Le b) {ds : List D} {vs : List V} (r : VRs K a ds vs) : VRs K b ds vs := r.monoW l.toLw
section
variable {K : PySem.W.Frag} {a b : Pt} {ds es : List D} {vs ws : List V} {d : D} {v : V}
theorem VRs.length (r : VRs K a ds vs) : ds.length = vs.length := by
  induction r using VRs.rec (motive_1 := fun _ _ _ => True) with
  | nil => rfl
  | cons _ _ _ ih => simp [ih]
  | _ => trivial
theorem VRs.get (r : VRs K a ds vs) : ∀ {i : Nat} {d : D}, ds[i]? = some d → ∃ v, vs[i]? = some v ∧ VR K a d v := by
  induction ds generalizing vs with
  | nil => intro i d e; simp at e
  | cons x xs ih =>
    cases r with
    | cons r1 r2 =>
      intro i d e
      cases i with
      | zero => simp at e; subst e; exact ⟨_, rfl, r1⟩
      | succ i => exact ih r2 (by simpa using e)
theorem VRs.append (r : VRs K a ds vs) (q : VRs K a es ws) : VRs K a (ds ++ es) (vs ++ ws) := by
  induction ds generalizing vs with
  | nil => cases r; exact q
  | cons x xs ih => cases r with | cons r1 r2 => exact .cons r1 (ih r2)
theorem VRs.drop (n : Nat) (r : VRs K a ds vs) : VRs K a (ds.drop n) (vs.drop n) := by
  induction n generalizing ds vs with
  | zero => exact r
  | succ n ih =>
    cases r with
    | nil => exact .nil
    | cons _ r2 => exact ih r2
theorem VRs.take (n : Nat) (r : VRs K a ds vs) : VRs K a (ds.take n) (vs.take n) := by
  induction n generalizing ds vs with
  | zero => exact .nil
  | succ n ih =>
    cases r with
    | nil => exact .nil
    | cons r1 r2 => exact .cons r1 (ih r2)
theorem VRs.set (n : Nat) (r : VRs K a ds vs) (q : VR K a d v) : VRs K a (ds.set n d) (vs.set n v) := by
  induction n generalizing ds vs with
  | zero =>
    cases r with
    | nil => exact .nil
    | cons _ r2 => exact .cons q r2
  | succ n ih =>
    cases r with
    | nil => exact .nil
    | cons r1 r2 => exact .cons r1 (ih r2)
theorem VRs.ints : ∀ {ns : List Int} {vs : List V}, VRs K a (ns.map D.int) vs → vs = ns.map V.int
  | [], _, .nil => rfl
  | n :: ns, _, .cons r t => by cases r; rw [VRs.ints t]; rfl
theorem VRs.of_ints : ∀ (ns : List Int), VRs K a (ns.map D.int) (ns.map V.int)
  | [] => .nil
  | n :: ns => .cons (.int n) (VRs.of_ints ns)
theorem VRs.strs : ∀ {ns : List Str} {vs : List V}, VRs K a (ns.map D.str) vs → vs = ns.map V.str
  | [], _, .nil => rfl
  | n :: ns, _, .cons r t => by cases r; rw [VRs.strs t]; rfl
theorem VRs.of_strs : ∀ (ns : List Str), VRs K a (ns.map D.str) (ns.map V.str)
  | [] => .nil
  | n :: ns => .cons (.str n) (VRs.of_strs ns)
theorem intsOf_map : ∀ (ns : List Int), intsOf (ns.map D.int) = some ns
  | [] => rfl
  | n :: ns => by
    have ih := intsOf_map ns
    unfold intsOf at ih ⊢
    simp only [List.map_cons, List.mapM_cons, ih]
    rfl
theorem intsOf_eq : ∀ {ds : List D} {ns : List Int}, intsOf ds = some ns → ds = ns.map D.int
  | [], ns, e => by cases ns <;> simp_all [intsOf]
  | d :: ds, ns, e => by
    unfold intsOf at e
    rw [List.mapM_cons] at e
    cases hd : intOf d with
    | none => rw [hd] at e; cases e
    | some i =>
      rw [hd] at e
      cases hr : ds.mapM intOf with
      | none => rw [hr] at e; cases e
      | some r =>
        rw [hr] at e
        cases e
        cases d <;> simp [intOf] at hd
        subst hd
        rw [List.map_cons, ← intsOf_eq (ds := ds) (ns := r) hr]
theorem strsOf_eq : ∀ {ds : List D} {ns : List Str}, strsOf ds = some ns → ds = ns.map D.str
  | [], ns, e => by cases ns <;> simp_all [strsOf]
  | d :: ds, ns, e => by
    unfold strsOf at e
    rw [List.mapM_cons] at e
    cases hd : strOf d with
    | none => rw [hd] at e; cases e
    | some i =>
      rw [hd] at e
      cases hr : ds.mapM strOf with
      | none => rw [hr] at e; cases e
      | some r =>
        rw [hr] at e
        cases e
        cases d <;> simp [strOf] at hd
        subst hd
        rw [List.map_cons, ← strsOf_eq (ds := ds) (ns := r) hr]
end

abbrev KVR (K : PySem.W.Frag) (a : Pt) {κ : Type} : List (κ × D) → List (κ × V) → Prop := Paired fun (p : κ × D) (q : κ × V) => p.1 = q.1 ∧ VR K a p.2 q.2
/-- a list of the written part -/
noncomputable def KL (K : PySem.W.Frag) (p : Addr) (xs : List V) : Prop :=
  ∃ (ob : Obj) (its : Array Value) (m : Nat), K.lookup p = some ob ∧ ob.cls = .type "list" ∧ ob.dict = none ∧ ob.data = .seq its m ∧ its.size ≤ sizeLine ∧ Vals xs its.toList
noncomputable def O.fr : O → Bool
  | .fro _ => true
  | _ => false
/-- .. or a dict that is walked -/
noncomputable def O.lk : O → Bool
  | .fro _ => true
  | .dfr _ => true
  | _ => false
/-- a refusal that is kept: an instance of the class at C, its dict at d -/
noncomputable def kx (C : Addr) (d : Option Addr) (p : Addr) : HO := .ext fun h => ∃ (ob : PySem.Obj) (vs : Array Value), h.get? p = some ob ∧ Zc (.ref C) d ob ∧ ob.data = .fields vs
theorem kx_ne {C : Addr} {d : Option Addr} {p : Addr} : (∀ xs, kx C d p ≠ .tup xs) ∧ (∀ ob xs, kx C d p ≠ .frz ob (.lst xs)) ∧ (∀ fs, kx C d p ≠ .xd fs) ∧ ∀ q, kx C d p ≠ .own q := by
  refine ⟨fun xs z => ?_, fun ob xs z => ?_, fun fs z => ?_, fun q z => ?_⟩
  · have z : HO.ext _ = HO.tup xs := z; cases z
  · have z : HO.ext _ = HO.frz ob (.lst xs) := z; cases z
  · have z : HO.ext _ = HO.xd fs := z; cases z
  · have z : HO.ext _ = HO.own q := z; cases z
/-- a class of refusals, by what is read of its instances -/
structure XcAt (K : PySem.W.Frag) (C : Addr) : Prop where
  cl : (PySem.W.clsIn K C).isSome = true
  ga : PySem.W.findIn K (.ref C) "__getattribute__" = some (some (.builtin "BaseException.__getattribute__"))
  gt : PySem.W.findIn K (.ref C) "__getattr__" = some none
  sb : PySem.W.subIn K (.ref C) (.type "BaseException") = some true
  hd : PySem.W.hasDictIn K C = true
  ca : PySem.W.findIn K (.ref C) "__class__" = some (some (.builtin "object.__class__"))
  mr : PySem.W.mroIn K C (.type "object") = some true
  self : PySem.W.subIn K (.ref C) (.ref C) = some true
  ve : PySem.W.subIn K (.ref C) (.type "ValueError") = some true
/-- what stands at a plain place -/
noncomputable def OR (K : PySem.W.Frag) (cl : Str → Option Addr) (a : Pt) (p : Addr) : O → Prop
  | .lst ds => ∃ vs, a.H p = some (.lst vs) ∧ VRs K a ds vs
  | .fro ds => ∃ vs, ((∃ ob, a.H p = some (.frz ob (.lst vs))) ∨ KL K p vs) ∧ VRs K a ds vs
  | .dct kvs => ∃ vs, a.H p = some (.dK vs) ∧ KVR K a kvs vs
  | .dfr kvs => ∃ ob vs, a.H p = some (.frz ob (.dK vs)) ∧ KVR K a kvs vs
  | .ins c fs => ∃ C dx vs, cl c = some C ∧ L2.Cls K C ∧ a.H p = some (.ins C dx vs) ∧ KVR K a fs vs
  | .exc c fs => ∃ C d, cl c = some C ∧ XcAt K C ∧ a.H p = some (kx C d p) ∧ ((d = none ∧ fs = []) ∨ ∃ q vs, d = some q ∧ a.H q = some (.xd vs) ∧ KVR K a fs vs)
theorem KVR.monoW {K : PySem.W.Frag} {a b : Pt} {κ : Type} (l : a.Lw b) {xs : List (κ × D)} {ys : List (κ × V)} (r : KVR K a xs ys) : KVR K b xs ys :=
  Paired.mapP r fun _ _ q => ⟨q.1, q.2.monoW l⟩
theorem KVR.mono {K : PySem.W.Frag} {a b : Pt} {κ : Type} (l : a.Le b) {xs : List (κ × D)} {ys : List (κ × V)} (r : KVR K a xs ys) : KVR K b xs ys := r.monoW l.toLw
theorem OR.monoW {K : PySem.W.Frag} {cl : Str → Option Addr} {a b : Pt} {p : Addr} {o : O} (l : a.Lw b) (e : ∀ u, a.H p = some u → b.H p = some u) (r : OR K cl a p o) : OR K cl b p o := by
  cases o with
  | lst ds => obtain ⟨vs, h, q⟩ := r; exact ⟨vs, e _ h, q.monoW l⟩
  | fro ds =>
    obtain ⟨vs, h, q⟩ := r
    exact ⟨vs, h.imp (fun ⟨ob, z⟩ => ⟨ob, e _ z⟩) id, q.monoW l⟩
  | dct kvs => obtain ⟨vs, h, q⟩ := r; exact ⟨vs, e _ h, KVR.monoW l q⟩
  | dfr kvs => obtain ⟨ob, vs, h, q⟩ := r; exact ⟨ob, vs, e _ h, KVR.monoW l q⟩
  | ins c fs => obtain ⟨C, dx, vs, hc, cc, h, q⟩ := r; exact ⟨C, dx, vs, hc, cc, e _ h, KVR.monoW l q⟩
  | exc c fs => obtain ⟨C, d, hc, xc, h, q⟩ := r; exact ⟨C, d, hc, xc, e _ h, q.imp id fun ⟨y, vs, e1, e2, e3⟩ => ⟨y, vs, e1, l.x _ _ e2, KVR.monoW l e3⟩⟩
theorem OR.mono {K : PySem.W.Frag} {cl : Str → Option Addr} {a b : Pt} {p : Addr} {o : O} (l : a.Le b) (e : ∀ u, a.H p = some u → b.H p = some u) (r : OR K cl a p o) : OR K cl b p o := r.monoW l.toLw e
/-- .. that may be written -/
theorem OR.some {K : PySem.W.Frag} {cl : Str → Option Addr} {a : Pt} {p : Addr} {o : O} (r : OR K cl a p o) (nf : o.fr = false) : ∃ u, a.H p = some u ∧ (∀ xs, u ≠ .tup xs) ∧ (∀ ob xs, u ≠ .frz ob (.lst xs)) ∧ ∀ fs, u ≠ .xd fs := by
  cases o with
  | lst ds => obtain ⟨vs, h, q⟩ := r; exact ⟨_, h, (fun _ z => nomatch z), (fun _ _ z => nomatch z), fun _ z => nomatch z⟩
  | fro ds => cases nf
  | dct kvs => obtain ⟨vs, h, q⟩ := r; exact ⟨_, h, (fun _ z => nomatch z), (fun _ _ z => nomatch z), fun _ z => nomatch z⟩
  | dfr kvs =>
    obtain ⟨ob, vs, h, q⟩ := r
    refine ⟨_, h, (fun _ z => nomatch z), (fun _ _ z => ?_), fun _ z => nomatch z⟩
    injection z with _ z
    cases z
  | ins c fs => obtain ⟨C, dx, vs, hc, _, h, q⟩ := r; exact ⟨_, h, (fun _ z => nomatch z), (fun _ _ z => nomatch z), fun _ z => nomatch z⟩
  | exc c fs => obtain ⟨C, d, hc, _, h, q⟩ := r; exact ⟨_, h, kx_ne.1, kx_ne.2.1, kx_ne.2.2.1⟩
structure SR (K : PySem.W.Frag) (cl : Str → Option Addr) (a : Pt) : Prop where
  inj : ∀ m n o o', a.h[m]? = some o → a.h[n]? = some o' → o.fr = false → o'.fr = false → a.ρ m = a.ρ n → m = n
  obj : ∀ n o, a.h[n]? = some o → OR K cl a (a.ρ n) o
section
variable {K : PySem.W.Frag} {cl : Str → Option Addr} {a b : Pt} {p : Addr} {o o0 : O} {n : Nat}
/-- a thing that is no plain place is laid -/
noncomputable def Pt.side (a : Pt) (p : Addr) (u : HO) : Pt := { a with H := upd a.H p u }
theorem Pt.side_le {u : HO} (hp : a.H p = none) : a.Le (a.side p u) :=
  ⟨⟨Nat.le_refl _, fun _ _ => rfl, (fun q xs e => by show upd a.H p u q = _; rw [upd_ne (ne_of_none e hp)]; exact e), fun q fs e => by show upd a.H p u q = _; rw [upd_ne (ne_of_none e hp)]; exact e⟩, fun q ob v e => by show upd a.H p u q = _; rw [upd_ne (ne_of_none e hp)]; exact e⟩
theorem SR.side {u : HO} (s : SR K cl a) (hp : a.H p = none) : SR K cl (a.side p u) :=
  ⟨s.inj, fun n o e => (s.obj n o e).mono (Pt.side_le hp) fun w hw => by
    have hw : a.H (a.ρ n) = some w := hw
    show upd a.H p u (a.ρ n) = _
    rw [upd_ne (ne_of_none hw hp)]
    exact hw⟩
/-- a new plain place -/
noncomputable def Pt.lay (a : Pt) (p : Addr) (o : O) (u : HO) : Pt := ⟨fun n => if n = a.h.length then p else a.ρ n, a.h ++ [o], upd a.H p u⟩
theorem Pt.lay_at {u : HO} : (a.lay p o u).ρ a.h.length = p := if_pos rfl
theorem Pt.lay_le {u : HO} (hp : a.H p = none) : a.Le (a.lay p o u) :=
  ⟨⟨by show _ ≤ (a.h ++ [o]).length; simp, fun k hk => if_neg (by omega), (fun q xs e => by show upd a.H p u q = _; rw [upd_ne (ne_of_none e hp)]; exact e), fun q fs e => by show upd a.H p u q = _; rw [upd_ne (ne_of_none e hp)]; exact e⟩, fun q ob v e => by show upd a.H p u q = _; rw [upd_ne (ne_of_none e hp)]; exact e⟩
theorem SR.lay {u : HO} (s : SR K cl a) (hp : a.H p = none) (new : OR K cl (a.lay p o u) p o) : SR K cl (a.lay p o u) := by
  have old : ∀ n o', a.h[n]? = some o' → o'.fr = false → a.ρ n ≠ p := fun n o' hn nf e => by
    obtain ⟨w, hw, _⟩ := (s.obj n o' hn).some nf
    rw [e, hp] at hw; cases hw
  have get : ∀ n o', (a.lay p o u).h[n]? = some o' → (n = a.h.length ∧ o' = o ∧ (a.lay p o u).ρ n = p) ∨ (a.h[n]? = some o' ∧ (a.lay p o u).ρ n = a.ρ n) := fun n o' e => by
    have e : (a.h ++ [o])[n]? = some o' := e
    by_cases h1 : n = a.h.length
    · subst h1
      exact .inl ⟨rfl, by simpa using e.symm, Pt.lay_at⟩
    · have hn : n < a.h.length := by
        have := (List.getElem?_eq_some_iff.mp e).1
        rw [List.length_append] at this
        have h2 : n < a.h.length + 1 := by simpa using this
        omega
      rw [List.getElem?_append_left hn] at e
      exact .inr ⟨e, if_neg h1⟩
  refine ⟨fun m n o1 o2 hm hn n1 n2 e => ?_, fun n o' e => ?_⟩
  · rcases get m o1 hm with ⟨h1, _, r1⟩ | ⟨h1, r1⟩
    · rcases get n o2 hn with ⟨h2, _, _⟩ | ⟨h2, r2⟩
      · rw [h1, h2]
      · rw [r1, r2] at e
        exact absurd e.symm (old n o2 h2 n2)
    · rcases get n o2 hn with ⟨h2, _, r2⟩ | ⟨h2, r2⟩
      · rw [r1, r2] at e
        exact absurd e (old m o1 h1 n1)
      · rw [r1, r2] at e
        exact s.inj m n o1 o2 h1 h2 n1 n2 e
  · rcases get n o' e with ⟨h1, h2, r1⟩ | ⟨h1, r1⟩
    · rw [r1, h2]
      exact new
    · rw [r1]
      refine (s.obj n o' h1).mono (Pt.lay_le hp) fun w hw => ?_
      show upd a.H p u (a.ρ n) = _
      rw [upd_ne (ne_of_none hw hp)]
      exact hw
/-- a plain place is written -/
noncomputable def Pt.put (a : Pt) (n : Nat) (o : O) (u : HO) : Pt := ⟨a.ρ, a.h.set n o, upd a.H (a.ρ n) u⟩
theorem OR.nofrz {K : PySem.W.Frag} {cl : Str → Option Addr} {a : Pt} {p : Addr} {o : O} (r : OR K cl a p o) (nf : o.lk = false) {ob : Obj} {u : HO} : a.H p ≠ Option.some (HO.frz ob u) := fun e => by
  cases o with
  | lst ds => obtain ⟨vs, h, q⟩ := r; rw [e] at h; cases h
  | fro ds => cases nf
  | dct kvs => obtain ⟨vs, h, q⟩ := r; rw [e] at h; cases h
  | dfr kvs => cases nf
  | ins c fs => obtain ⟨C, dx, vs, hc, _, h, q⟩ := r; rw [e] at h; cases h
  | exc c fs => obtain ⟨C, d, hc, _, h, q⟩ := r; rw [e] at h; have h : HO.frz ob u = HO.ext _ := Option.some.inj h; cases h
theorem Pt.put_lw {u : HO} (s : SR K cl a) (hn : a.h[n]? = some o0) (nf : o0.fr = false := by rfl) : a.Lw (a.put n o u) := by
  obtain ⟨w, hw, nt, _, nx⟩ := (s.obj n o0 hn).some nf
  refine ⟨by show _ ≤ (a.h.set n o).length; simp, fun _ _ => rfl, fun q xs e => ?_, fun q fs e => ?_⟩
  · have : q ≠ a.ρ n := fun z => by
      rw [z, hw] at e
      exact nt xs (Option.some.inj e)
    show upd a.H (a.ρ n) u q = _
    rw [upd_ne this]; exact e
  · have : q ≠ a.ρ n := fun z => by
      rw [z, hw] at e
      exact nx fs (Option.some.inj e)
    show upd a.H (a.ρ n) u q = _
    rw [upd_ne this]; exact e
theorem Pt.put_le {u : HO} (s : SR K cl a) (hn : a.h[n]? = some o0) (nf : o0.lk = false := by rfl) : a.Le (a.put n o u) := by
  refine ⟨Pt.put_lw s hn (by cases o0 <;> first | rfl | cases nf), fun q ob v e => ?_⟩
  have : q ≠ a.ρ n := fun z => by
    rw [z] at e
    exact (s.obj n o0 hn).nofrz nf e
  show upd a.H (a.ρ n) u q = _
  rw [upd_ne this]; exact e
theorem SR.put {u : HO} (s : SR K cl a) (hn : a.h[n]? = some o0) (new : OR K cl (a.put n o u) (a.ρ n) o) (nf : o0.fr = false := by rfl) (nfo : o.fr = false := by rfl) : SR K cl (a.put n o u) := by
  have hlt : n < a.h.length := (List.getElem?_eq_some_iff.mp hn).1
  have get : ∀ k o', (a.put n o u).h[k]? = some o' → (k = n ∧ o' = o) ∨ (k ≠ n ∧ a.h[k]? = some o') := fun k o' e => by
    have e : (a.h.set n o)[k]? = some o' := e
    by_cases h : n = k
    · subst h
      rw [List.getElem?_set_self hlt] at e
      cases e
      exact .inl ⟨rfl, rfl⟩
    · rw [List.getElem?_set_ne h] at e
      exact .inr ⟨fun z => h z.symm, e⟩
  refine ⟨fun m k o1 o2 hm hk n1 n2 e => ?_, fun k o' e => ?_⟩
  · have e : a.ρ m = a.ρ k := e
    rcases get m o1 hm with ⟨h1, _⟩ | ⟨_, h1⟩
    · rcases get k o2 hk with ⟨h2, _⟩ | ⟨_, h2⟩
      · rw [h1, h2]
      · rw [h1] at e ⊢
        exact s.inj n k o0 o2 hn h2 nf n2 e
    · rcases get k o2 hk with ⟨h2, _⟩ | ⟨_, h2⟩
      · rw [h2] at e ⊢
        exact s.inj m n o1 o0 h1 hn n1 nf e
      · exact s.inj m k o1 o2 h1 h2 n1 n2 e
  · rcases get k o' e with ⟨h1, h2⟩ | ⟨h1, h2⟩
    · subst h1 h2
      exact new
    · obtain ⟨w, hw, _, nfz, _⟩ := (s.obj n o0 hn).some nf
      have r := s.obj k o' h2
      show OR K cl (a.put n o u) (a.ρ k) o'
      have l : a.Lw (a.put n o u) := Pt.put_lw s hn nf
      cases hf : o'.fr with
      | false =>
        refine r.monoW l fun w' hw' => ?_
        show upd a.H (a.ρ n) u (a.ρ k) = _
        rw [upd_ne fun z => h1 (s.inj k n o' o0 h2 hn hf nf z)]
        exact hw'
      | true =>
        cases o' with
        | fro ds =>
          obtain ⟨vs, h, q⟩ := r
          refine ⟨vs, h.imp (fun ⟨ob, z⟩ => ⟨ob, ?_⟩) id, q.monoW l⟩
          show upd a.H (a.ρ n) u (a.ρ k) = _
          rw [upd_ne fun z' => ?_]
          · exact z
          · rw [z', hw] at z
            exact nfz ob vs (Option.some.inj z)
        | _ => cases hf
end
/-- the frame's slots -/
noncomputable def ER (K : PySem.W.Frag) (a : Pt) (env : Env) (σ : L2.St) : Prop := env.length = σ.length ∧ ∀ (i : Nat) (d : D), env[i]? = some (some d) → ∃ v, σ[i]? = some (some v) ∧ VR K a d v
theorem ER.mono {K : PySem.W.Frag} {a b : Pt} {env : Env} {σ : L2.St} (r : ER K a env σ) (l : a.Le b) : ER K b env σ :=
  ⟨r.1, fun i d e => let ⟨v, h, q⟩ := r.2 i d e; ⟨v, h, q.mono l⟩⟩
theorem ER.monoW {K : PySem.W.Frag} {a b : Pt} {env : Env} {σ : L2.St} (r : ER K a env σ) (l : a.Lw b) : ER K b env σ :=
  ⟨r.1, fun i d e => let ⟨v, h, q⟩ := r.2 i d e; ⟨v, h, q.monoW l⟩⟩
theorem ER.set {K : PySem.W.Frag} {a : Pt} {env : Env} {σ : L2.St} {d : D} {v : V} (i : Nat) (r : ER K a env σ) (q : VR K a d v) : ER K a (env.set i (some d)) (σ.set i (some v)) := by
  refine ⟨by simpa using r.1, fun j d' e => ?_⟩
  have hl := r.1
  by_cases h : i = j
  · subst h
    have hi : i < env.length := by
      have := (List.getElem?_eq_some_iff.mp e).1
      simpa using this
    rw [List.getElem?_set_self hi] at e
    cases e
    exact ⟨v, by rw [List.getElem?_set_self (by omega)], q⟩
  · rw [List.getElem?_set_ne h] at e
    rw [List.getElem?_set_ne h]
    exact r.2 j d' e
/-- an exception -/
noncomputable def XR (K : PySem.W.Frag) (cl : Str → Option Addr) (a : Pt) (x : Xn) (c : Value) (d : Option Addr) : Prop :=
  ∃ C, cl x.1 = some C ∧ c = .ref C ∧ XcAt K C ∧ ((d = none ∧ x.2 = []) ∨ ∃ p fs, d = some p ∧ a.H p = some (.xd fs) ∧ KVR K a x.2 fs)
noncomputable def KQ (K : PySem.W.Frag) (cl : Str → Option Addr) (a : Pt) (Qd : KD) (Q : VK) : Prop := ∀ b d v, a.Le b → SR K cl b → VR K b d v → Qd d b.h → Q v b.H
noncomputable def KXQ (K : PySem.W.Frag) (cl : Str → Option Addr) (a : Pt) (Xd : KX) (W : Value → Option Addr → Hp → Prop) : Prop := ∀ b x c d, a.Le b → SR K cl b → XR K cl b x c d → Xd x b.h → W c d b.H
theorem KQ.mono {K : PySem.W.Frag} {cl : Str → Option Addr} {a b : Pt} {Qd : KD} {Q : VK} (k : KQ K cl a Qd Q) (l : a.Le b) : KQ K cl b Qd Q := fun c d v l2 => k c d v (l.trans l2)
theorem KXQ.mono {K : PySem.W.Frag} {cl : Str → Option Addr} {a b : Pt} {Xd : KX} {W : Value → Option Addr → Hp → Prop} (k : KXQ K cl a Xd W) (l : a.Le b) : KXQ K cl b Xd W := fun c x e d l2 => k c x e d (l.trans l2)
end Z

set_option Elab.async false
set_option linter.all false
set_option maxRecDepth 100000
set_option maxHeartbeats 4000000
/-! Z, part UX: str(a tuple of whole numbers): some text. -/
namespace Z
open PySem PySem.Spec PyProof.Rows L2
theorem piled_le : ∀ {ts : List Str}, (∀ y ∈ ts, y.length ≤ 6) → piled ts ≤ 8 * ts.length
  | [], _ => by simp [piled]
  | y :: ts, h => by
    have h1 := h y List.mem_cons_self
    have h2 := piled_le (ts := ts) fun z hz => h z (List.mem_cons_of_mem _ hz)
    have e : piled (y :: ts) = y.length + 2 + piled ts := by simp [piled]
    rw [e, List.length_cons]
    omega
theorem repr_ints {P : Program} {w : World} : ∀ {l : List Int} {its : List Value}, Vals (l.map V.int) its → (∀ n ∈ l, 0 ≤ n ∧ n < 1000000) → ReprAll P w its (l.map fun n => Str.ofString (toString n))
  | [], _, r, _ => by cases r; exact .nil
  | n :: l, _, r, h => by
    cases r with
    | cons r1 r2 =>
      obtain ⟨t, rfl⟩ := r1
      have hn := h n List.mem_cons_self
      refine .cons (ReprIs.int t ?_) (repr_ints r2 fun z hz => h z (List.mem_cons_of_mem _ hz))
      have : n.natAbs < 2 ^ 1920 := Nat.lt_of_lt_of_le (show n.natAbs < 2 ^ 20 by omega) (Nat.pow_le_pow_right (by omega) (by omega))
      by_cases z : n.natAbs = 0
      · rw [z]; decide
      · exact (Nat.log2_lt z).mpr this
theorem strOf_tup {P : Program} {w : World} {A : Around} {E : Value → Shared → Prop} {s : Shared} {a : Addr} {o : Obj} {items : Array Value} {n : Nat} {ts : List Str} {Q : Value → Shared → Prop} (hu : A.units + 1 < cLine) (ha : s.heap.get? a = some o) (hc : o.cls = .type "tuple") (hd : o.data = .seq items n) (hT : ReprAll P w items.toList ts) (hsz : (tupleText ts).length ≤ sizeLine)
    (h : ∀ (m : Str) (u tk : Tok), m.length ≤ (tupleText ts).length + 5 → Q (.str m u) { s with toks := tk }) : wpAny (model P w) A (Builtin.Str.strOf (.ref a)) Q E s :=
  wpAny_strOf_slot rfl hu ⟨o, ha, hc⟩ F.slot_tuple_str F.slot_tuple_repr (fmt_tuple_repr ha hc hd hT hsz fun m u tk hm => ⟨m, u, rfl, h m u tk hm⟩)
section
variable {X : Cx}
theorem call_str_tup (hu : X.A.units + 64 < cLine) : CallR X (.type "str") (fun xs H Q => ∃ (a : Addr) (l : List Int), xs = [.ref a] ∧ SqT X.K H a (l.map V.int) ∧ l.length ≤ 1000 ∧ (∀ n ∈ l, 0 ≤ n ∧ n < 1000000) ∧ ∀ m : Str, m.length ≤ 100000 → Q (.str m) H) := by
  intro pins s σ H xs us Q I r ⟨a, l, e, ht, hl, hn, q⟩
  subst e
  rw [Vals.ref1 r]
  obtain ⟨its, rv, ⟨o, ho, hcl, n, hd⟩, _⟩ := I.tuple ht
  have hts : ∀ y ∈ l.map (fun n => Str.ofString (toString n)), y.length ≤ 6 := fun y hy => by
    obtain ⟨n, hm, rfl⟩ := List.mem_map.mp hy
    exact toString_length_le (hn n hm).1 (by omega) (by have := (hn n hm).2; simpa using this)
  have hp := piled_le hts
  rw [List.length_map] at hp
  have htx := fmt_text (l.map fun n => Str.ofString (toString n))
  have hz : sizeLine = 16777216 := sizeLine_eq
  exact callType_new F.called_str (by decide) (F.typeCall_str_1 _) (F.newCall_str_1 _) (fun obj => F.args_object_init_2 obj _) F.entry_str_new
    (meets_str_new (S := fun A' R s' => A'.units + 3 < cLine ∧ s'.heap = s.heap ∧ ∀ (m : Str) u tk, m.length ≤ 100000 → R (.ok (.ret (.str m u))) { s' with toks := tk })
      fun P' w' A' R s' h => strOf_tup (P := P') (w := w') (A := A'.in1) (by show A'.units + 1 + 1 < cLine; omega) (by rw [h.2.1]; exact ho) hcl hd (repr_ints rv hn) (by omega) fun m u tk hm => h.2.2 m u tk (by omega))
    ⟨by show X.A.units + 1 + 3 < cLine; omega, rfl, fun m u tk hm => ⟨typeIs_str _ _ _, .str m, H, I.tok _, ⟨u, rfl⟩, q m hm⟩⟩
end
end Z

set_option Elab.async false
set_option linter.all false
set_option maxRecDepth 100000
set_option maxHeartbeats 2000000
/-! Z, part EQ: == and != of data in which dicts stand: the same ones. -/
namespace PySem.SeqAt
open AutoSeq1 (wpAny_loadPart')
open MeetsSeq MeetsSeq2 MeetsSeq3 SeqRoads2
section
variable {prog : Program} {w : World}
theorem zne_loop (l b : Addr) (items items2 : Array Value) (n n2 : Nat) (dd dd2 : Option Addr) (sl sl2 : Array (Option Value)) (hsz : items.size = items2.size) (k : Nat) :
    ∀ i : Nat, items.size - i = k → MeetsIn prog w (Builtin.«list.__eq__.loop» ⟨[.ref l, .ref b, rawInt i, rawInt 3], []⟩)
      (fun A R s => s.heap.get? l = some { cls := .type "list", dict := dd, data := .seq items n, slots := sl } ∧ s.heap.get? b = some { cls := .type "list", dict := dd2, data := .seq items2 n2, slots := sl2 } ∧
        (∀ j (h1 : j < items.size) (h2 : j < items2.size), EqIn prog w A.in1 s items[j] items2[j] true) ∧
        R (.ok (.ret (.bool false))) s) := by
  induction k with
  | zero =>
    intro i hk A R s h
    obtain ⟨hp, g, d, tk, os⟩ := s; obtain ⟨hl, hb, he, h⟩ := h
    wp_walk using wpAny_loadPart' hl, wpAny_loadPart' hb
    have hi1 : items[((i : Nat) : Int).toNat]? = none := by simp; omega
    have hi2 : items2[((i : Nat) : Int).toNat]? = none := by simp; omega
    rw [hi1, hi2]
    wp_walk using wpAny_loadPart' hl, wpAny_loadPart' hb
    show R (.ok (.ret (.bool (items.size != items2.size)))) _
    rw [hsz]
    simpa using h
  | succ k ih =>
    intro i hk A R s h
    obtain ⟨hp, g, d, tk, os⟩ := s; obtain ⟨hl, hb, he, h⟩ := h
    wp_walk using wpAny_loadPart' hl, wpAny_loadPart' hb
    have hlt : i < items.size := by omega
    have hlt2 : i < items2.size := by omega
    have hi1 : items[((i : Nat) : Int).toNat]? = some items[i] := by simp [hlt]
    have hi2 : items2[((i : Nat) : Int).toNat]? = some items2[i] := by simp [hlt2]
    have hc : ((i : Int) + 1) = ((i + 1 : Nat) : Int) := by push_cast; rfl
    rw [hi1, hi2]
    refine wpAny_bind (he i hlt hlt2 _ _ ?_)
    wp_walk
    rw [hc]
    exact ⟨plainId_quiet plain_eq_loop _, codeAny_builtin entry_eq_loop (by
      rw [Around.under_plainId plain_eq_loop _]
      exact ih (i + 1) (by omega) A R _ ⟨hl, hb, he, h⟩)⟩
theorem zlist_ne (l b : Addr) (items items2 : Array Value) (n n2 : Nat) (dd dd2 : Option Addr) (sl sl2 : Array (Option Value)) (hsz : items.size = items2.size) :
    MeetsIn prog w (Builtin.«list.__ne__» ⟨[.ref l, .ref b], []⟩)
      (fun A R s => s.heap.get? l = some { cls := .type "list", dict := dd, data := .seq items n, slots := sl } ∧ s.heap.get? b = some { cls := .type "list", dict := dd2, data := .seq items2 n2, slots := sl2 } ∧
        (∀ j (h1 : j < items.size) (h2 : j < items2.size), EqIn prog w A.in1 s items[j] items2[j] true) ∧
        R (.ok (.ret (.bool false))) s) := by
  intro A R s h
  obtain ⟨hp, g, d, tk, os⟩ := s; obtain ⟨hl, hb, he, h⟩ := h
  have f3 := AutoSeq1.sub_list_list
  have hne : ¬ (items.size != items2.size) = true := by simp [hsz]
  wp_walk using wpAny_loadPart' hl, wpAny_loadPart' hb
  exact ⟨plainId_quiet plain_eq_loop _, codeAny_builtin entry_eq_loop (by
    rw [Around.under_plainId plain_eq_loop _]
    exact zne_loop l b items items2 n n2 dd dd2 sl sl2 hsz _ 0 rfl A R _ ⟨hl, hb, he, h⟩)⟩
theorem ztuple_ne (l b : Addr) (items items2 : Array Value) (n n2 : Nat) (dd dd2 : Option Addr) (sl sl2 : Array (Option Value)) (hsz : items.size = items2.size) :
    MeetsIn prog w (Builtin.«tuple.__ne__» ⟨[.ref l, .ref b], []⟩)
      (fun A R s => s.heap.get? l = some { cls := .type "tuple", dict := dd, data := .seq items n, slots := sl } ∧ s.heap.get? b = some { cls := .type "tuple", dict := dd2, data := .seq items2 n2, slots := sl2 } ∧
        (∀ j (h1 : j < items.size) (h2 : j < items2.size), EqIn prog w A.in1 s items[j] items2[j] true) ∧
        R (.ok (.ret (.bool false))) s) :=
  .of_wp fun A R s h => by
    obtain ⟨hp, g, d, tk, os⟩ := s; obtain ⟨hl, hb, he, h⟩ := h
    have f2 := AutoSeq1.sub_tuple_tuple
    wp_walk using wpAny_loadPart' hl, wpAny_loadPart' hb, wpAny_forIn_list _ (fun rest b s' => b.1 = none ∧ s' = ⟨hp, g, d, tk, os⟩ ∧ ∃ i, rest = (items.toList.zip items2.toList).drop i) _
    case turn =>
      rintro ⟨y, x⟩ rest b s' ⟨hb', rfl, i, hz⟩
      have hlt : i < (items.toList.zip items2.toList).length := by
        rcases Nat.lt_or_ge i (items.toList.zip items2.toList).length with h' | h'
        · exact h'
        · rw [List.drop_of_length_le h'] at hz; cases hz
      have hm : i < min items.size items2.size := by
        have : (items.toList.zip items2.toList).length = min items.size items2.size := by simp
        omega
      have h1 : i < items.size := Nat.lt_of_lt_of_le hm (Nat.min_le_left _ _)
      have h2 : i < items2.size := Nat.lt_of_lt_of_le hm (Nat.min_le_right _ _)
      rw [List.drop_eq_getElem_cons hlt] at hz
      injection hz with hyx hrest
      have hy : y = items[i] := by have := congrArg Prod.fst hyx; simpa using this
      have hx : x = items2[i] := by have := congrArg Prod.snd hyx; simpa using this
      subst hy hx
      refine wpAny_bind (he i h1 h2 _ _ ?_)
      wp_walk
      exact ⟨rfl, rfl, i + 1, hrest⟩
    case fin =>
      rintro ⟨b1, b2⟩ s' ⟨hb', rfl, i, hz⟩
      simp only at hb'
      subst hb'
      wp_walk
      exact ⟨_, rfl, by simpa [Builtin.Tuple.tupleCompareSizes, bne, hsz] using h⟩
    case h =>
      exact ⟨rfl, rfl, 0, rfl⟩
theorem zne_lists {A : Around} {E : Value → Shared → Prop} {s : Shared} {l b : Addr} {items items2 : Array Value} {Q : Value → Shared → Prop} (hl : s.heap.IsList l items) (hb : s.heap.IsList b items2) (hsz : items.size = items2.size) (hu : A.units < cLine)
    (he : ∀ j (h1 : j < items.size) (h2 : j < items2.size), EqIn prog w A.in1 s items[j] items2[j] true) (h : Q (.bool false) s) : wpAny (model prog w) A (compareOp .NotEq (.ref l) (.ref b)) Q E s := by
  obtain ⟨⟨cls, dd, data, sl⟩, ho, hc, n, hd⟩ := id hl
  obtain ⟨⟨cls2, dd2, data2, sl2⟩, ho2, hc2, n2, hd2⟩ := id hb
  simp only at hc hd hc2 hd2
  subst hc hd hc2 hd2
  exact wpAny_richCompare_same_room (T := "list") (op := .NotEq) ⟨_, ho, rfl⟩ ⟨_, ho2, rfl⟩ F.slot_list_ne (call_meetsIn F.slot_list_ne ⟨_, ho, rfl⟩ F.entry_list_ne (F.args_list_ne_2 _ _) (zlist_ne l b items items2 n n2 dd dd2 sl sl2 hsz)
    ⟨ho, ho2, he, show Value.bool false ≠ Value.notImplemented ∧ Q (.bool false) s from ⟨(fun x => nomatch x), h⟩⟩) hu
theorem zne_tuples {A : Around} {E : Value → Shared → Prop} {s : Shared} {l b : Addr} {items items2 : Array Value} {Q : Value → Shared → Prop} (hl : s.heap.IsTuple l items) (hb : s.heap.IsTuple b items2) (hsz : items.size = items2.size) (hu : A.units < cLine)
    (he : ∀ j (h1 : j < items.size) (h2 : j < items2.size), EqIn prog w A.in1 s items[j] items2[j] true) (h : Q (.bool false) s) : wpAny (model prog w) A (compareOp .NotEq (.ref l) (.ref b)) Q E s := by
  obtain ⟨⟨cls, dd, data, sl⟩, ho, hc, n, hd⟩ := id hl
  obtain ⟨⟨cls2, dd2, data2, sl2⟩, ho2, hc2, n2, hd2⟩ := id hb
  simp only at hc hd hc2 hd2
  subst hc hd hc2 hd2
  exact wpAny_richCompare_same_room (T := "tuple") (op := .NotEq) ⟨_, ho, rfl⟩ ⟨_, ho2, rfl⟩ F.slot_tuple_ne (call_meetsIn F.slot_tuple_ne ⟨_, ho, rfl⟩ F.entry_tuple_ne (F.args_tuple_ne_2 _ _) (ztuple_ne l b items items2 n n2 dd dd2 sl sl2 hsz)
    ⟨ho, ho2, he, show Value.bool false ≠ Value.notImplemented ∧ Q (.bool false) s from ⟨(fun x => nomatch x), h⟩⟩) hu
end
end PySem.SeqAt

set_option Elab.async false
set_option linter.all false
set_option maxRecDepth 100000
/-! Z, part D: operations on values keep step. -/
namespace Z
open PySem PySem.Spec PyProof.Rows L2

section
variable {K : PySem.W.Frag} {cl : Str → Option Addr} {a : Pt} {Qd : KD} {Q : VK}
theorem KQ.same (kq : KQ K cl a Qd Q) (s : SR K cl a) {d : D} {v : V} (r : VR K a d v) (h : Qd d a.h) : Q v a.H := kq a d v Pt.Le.rfl s r h
theorem KQ.newList (kq : KQ K cl a Qd Q) (s : SR K cl a) {ds : List D} {vs : List V} (r : VRs K a ds vs) (h : Qd (.ref a.h.length) (a.h ++ [.lst ds])) :
    ∀ p, a.H p = none → Q (.ref p) (upd a.H p (.lst vs)) := fun p hp => by
  have l : a.Le (a.lay p (.lst ds) (.lst vs)) := Pt.lay_le hp
  have s' : SR K cl (a.lay p (.lst ds) (.lst vs)) := s.lay hp ⟨vs, upd_same, r.mono l⟩
  have q : VR K (a.lay p (.lst ds) (.lst vs)) (.ref a.h.length) (.ref p) := by
    have := VR.ref (K := K) (a := a.lay p (.lst ds) (.lst vs)) (n := a.h.length) (by show _ < (a.h ++ [_]).length; simp)
    rwa [Pt.lay_at] at this
  exact kq _ _ _ l s' q h
theorem KQ.newTup (kq : KQ K cl a Qd Q) (s : SR K cl a) {ds : List D} {vs : List V} (r : VRs K a ds vs) (h : Qd (.tup ds) a.h) :
    ∀ p, a.H p = none → Q (.ref p) (upd a.H p (.tup vs)) := fun p hp =>
  kq (a.side p (.tup vs)) _ _ (Pt.side_le hp) (s.side hp) (.tup (.inl upd_same) (r.mono (Pt.side_le hp))) h
theorem KQ.put (kq : KQ K cl a Qd Q) (s : SR K cl a) {n : Nat} {xs : List D} (hn : a.h[n]? = some (.lst xs)) {ds : List D} {vs : List V} (r : VRs K a ds vs) {d : D} {v : V} (rv : VR K a d v) (h : Qd d (a.h.set n (.lst ds))) :
    Q v (upd a.H (a.ρ n) (.lst vs)) := by
  have l : a.Le (a.put n (.lst ds) (.lst vs)) := Pt.put_le s hn
  exact kq (a.put n (.lst ds) (.lst vs)) _ _ l (s.put hn ⟨vs, upd_same, r.mono l⟩) (rv.mono l) h
/-- a list at a plain place, to be read -/
theorem SR.seq (s : SR K cl a) {n : Nat} {ds : List D} (h : isList a.h n ds) : ∃ vs, SqL K a.H (a.ρ n) vs ∧ VRs K a ds vs := by
  rcases h with h | h
  · obtain ⟨vs, e, r⟩ := s.obj n _ h
    exact ⟨vs, .inl (.inl e), r⟩
  · obtain ⟨vs, e, r⟩ := s.obj n _ h
    rcases e with ⟨ob, e⟩ | e
    · exact ⟨vs, .inl (.inr ⟨ob, e⟩), r⟩
    · exact ⟨vs, .inr e, r⟩
theorem lstOf_is {h : Hh} {n : Nat} {ds : List D} (e : lstOf h (.ref n) = some ds) : isList h n ds := by
  unfold lstOf at e
  simp only at e
  split at e
  · cases e; rename_i q; exact .inl q
  · cases e; rename_i q; exact .inr q
  · cases e
theorem seqOf_cases (s : SR K cl a) {d : D} {v : V} {ds : List D} (r : VR K a d v) (e : seqOf a.h d = some ds) : ∃ p vs, v = .ref p ∧ VRs K a ds vs ∧ (SqL K a.H p vs ∨ SqT K a.H p vs) := by
  cases r with
  | tup t q =>
    cases e
    exact ⟨_, _, rfl, q, .inr t.sq⟩
  | ref hn =>
    rename_i n
    obtain ⟨vs, h1, h2⟩ := s.seq (n := n) (ds := ds) (lstOf_is (by unfold seqOf at e; exact e))
    exact ⟨_, vs, rfl, h2, .inl h1⟩
  | _ => cases e

/-! ### deep data -/
theorem mapM_cons_some {α β : Type} {f : α → Option β} {x : α} {xs : List α} {ys : List β} (e : (x :: xs).mapM f = some ys) : ∃ y r, f x = some y ∧ xs.mapM f = some r ∧ ys = y :: r := by
  rw [List.mapM_cons] at e
  cases h : f x with
  | none => rw [h] at e; cases e
  | some y =>
    rw [h] at e
    cases h2 : xs.mapM f with
    | none => rw [h2] at e; cases e
    | some r => rw [h2] at e; cases e; exact ⟨y, r, rfl, rfl, rfl⟩
theorem dp_all {n : Nat} (ih : ∀ (d : D) (v : V) (x : PyData), deep n a.h d = some x → VR K a d v → Dp K a.H v x) : ∀ {ds : List D} {vs : List V} {xs : List PyData}, ds.mapM (deep n a.h) = some xs → VRs K a ds vs → DpAll K a.H vs xs
  | [], _, xs, e, .nil => by
    have : xs = [] := by simpa using e.symm
    subst this
    exact .nil
  | d :: ds, _, xs, e, .cons r t => by
    obtain ⟨y, r', h1, h2, rfl⟩ := mapM_cons_some e
    exact .cons (ih _ _ _ h1 r) (dp_all ih h2 t)
theorem dp_of (s : SR K cl a) : ∀ (n : Nat) (d : D) (v : V) (x : PyData), deep n a.h d = some x → VR K a d v → Dp K a.H v x
  | 0, _, _, _, e, _ => by cases e
  | n + 1, d, v, x, e, r => by
    cases r with
    | non => cases e; exact .non
    | utx _ _ => cases e
    | bl b => cases e; exact .bl b
    | int i => cases e; exact .int i
    | str z => cases e; exact .str z
    | tup t q =>
      rename_i p vs ds
      have e : (ds.mapM (deep n a.h)).map PyData.tuple = some x := e
      obtain ⟨xs, h1, rfl⟩ := Option.map_eq_some_iff.mp e
      exact .tup t.sq (dp_all (dp_of s n) h1 q)
    | ref hn =>
      rename_i m
      have e : (match a.h[m]? with
        | some (.lst ds) => (ds.mapM (deep n a.h)).map PyData.list
        | some (.fro ds) => (ds.mapM (deep n a.h)).map PyData.list
        | _ => none) = some x := e
      split at e
      · rename_i ds q
        obtain ⟨xs, h1, rfl⟩ := Option.map_eq_some_iff.mp e
        obtain ⟨vs, h2, h3⟩ := s.seq (.inl q)
        exact .lst h2 (dp_all (dp_of s n) h1 h3)
      · rename_i ds q
        obtain ⟨xs, h1, rfl⟩ := Option.map_eq_some_iff.mp e
        obtain ⟨vs, h2, h3⟩ := s.seq (.inr q)
        exact .lst h2 (dp_all (dp_of s n) h1 h3)
      · cases e
theorem eqD_dp (s : SR K cl a) {d e : D} {v u : V} {b : Bool} (h : eqD a.h d e = some b) (r : VR K a d v) (q : VR K a e u) :
    ∃ x y, Dp K a.H v x ∧ Dp K a.H u y ∧ SeqAt.shaped x = true ∧ SeqAt.shaped y = true ∧ b = PyData.eqv x y := by
  unfold eqD at h
  split at h
  · rename_i x y h1 h2
    split at h
    · rename_i hs
      cases h
      rw [Bool.and_eq_true] at hs
      exact ⟨x, y, dp_of s _ _ _ _ h1 r, dp_of s _ _ _ _ h2 q, hs.1, hs.2, rfl⟩
    · cases h
  · cases h

theorem inP_dp (s : SR K cl a) {d e : D} {v u : V} {b : Bool} (h : inP a.h d e = some b) (r : VR K a d v) (q : VR K a e u) :
    ∃ x ys, Dp K a.H v x ∧ Dp K a.H u (.list ys) ∧ SeqAt.shaped x = true ∧ SeqAt.shaped (.list ys) = true ∧ b = ys.any fun z => PyData.eqv z x := by
  unfold inP at h
  split at h
  · rename_i x ys h1 h2
    split at h
    · rename_i hs
      cases h
      rw [Bool.and_eq_true] at hs
      exact ⟨x, ys, dp_of s _ _ _ _ h1 r, dp_of s _ _ _ _ h2 q, hs.1, hs.2, rfl⟩
    · cases h
  · cases h
/-! ### flat values -/
theorem flat_of {d : D} {v : V} (r : VR K a d v) (f : flatD d = true) : L2.flatV v = true := by cases r <;> first | rfl | (cases f)
theorem flats_of : ∀ {ds : List D} {vs : List V}, VRs K a ds vs → ds.all flatD = true → vs.all L2.flatV = true
  | _, _, .nil, _ => rfl
  | _, _, .cons r t, f => by
    rw [List.all_cons, Bool.and_eq_true] at f
    rw [List.all_cons, flat_of r f.1, flats_of t f.2]; rfl
theorem eqF_of {d e : D} {v u : V} (r : VR K a d v) (q : VR K a e u) (f : flatD d = true) (g : flatD e = true) : L2.eqV v u = eqF d e := by
  cases r <;> cases q <;> first | rfl | exact absurd f (by decide) | exact absurd g (by decide) | (simp [flatD] at f) | (simp [flatD] at g)
theorem anyF_of {e : D} {u : V} (q : VR K a e u) (g : flatD e = true) : ∀ {ds : List D} {vs : List V}, VRs K a ds vs → ds.all flatD = true → L2.inV u vs = ds.any fun y => eqF y e
  | _, _, .nil, _ => rfl
  | _, _, .cons r t, f => by
    rw [List.all_cons, Bool.and_eq_true] at f
    have ih := anyF_of q g t f.2
    unfold L2.inV at ih ⊢
    rw [List.any_cons, List.any_cons, eqF_of r q f.1 g, ih]
theorem keyOf_of {d : D} {v : V} {k : DKey} (r : VR K a d v) (e : keyOf d = some k) : v = L2.kV k := by
  cases r <;> cases e <;> rfl
theorem val_of {κ : Type} [DecidableEq κ] {k : κ} : ∀ {kvs : List (κ × D)} {ws : List (κ × V)}, KVR K a kvs ws → match (kvs.find? fun kv => decide (kv.1 = k)).map (·.2) with
    | some d => ∃ v, L2.valV ws k = some v ∧ VR K a d v
    | none => L2.valV ws k = none
  | _, _, .nil => rfl
  | p :: ps, q :: qs, .cons r t => by
    have ih := val_of (k := k) t
    by_cases e : p.1 = k
    · simp only [List.find?_cons, e, decide_true, Option.map_some]
      exact ⟨q.2, valV_pos (r.1.symm.trans e), r.2⟩
    · simp only [List.find?_cons, e, decide_false]
      rw [valV_neg (p := q) (fun z => e (r.1.trans z))]
      exact ih
theorem valD_some {kvs : List (DKey × D)} {ws : List (DKey × V)} {k : DKey} {d : D} (r : KVR K a kvs ws) (e : valD kvs k = some d) : ∃ v, L2.valV ws k = some v ∧ VR K a d v := by
  have := val_of (k := k) r
  unfold valD at e
  rw [e] at this
  exact this
theorem valD_isSome {kvs : List (DKey × D)} {ws : List (DKey × V)} {k : DKey} (r : KVR K a kvs ws) : (L2.valV ws k).isSome = (valD kvs k).isSome := by
  have := val_of (k := k) r
  unfold valD
  split at this
  · rename_i d e
    obtain ⟨v, h, _⟩ := this
    rw [h, e]; rfl
  · rename_i e
    rw [this, e]; rfl
end

/-! ### rules over stages -/
noncomputable def rB (K : PySem.W.Frag) (cl : Str → Option Addr) (f : D → D → Hh → Option (D × Hh)) : R2 := fun x y H Q =>
  ∃ a da db Qd, a.H = H ∧ SR K cl a ∧ VR K a da x ∧ VR K a db y ∧ bnd (f da db a.h) Qd ∧ KQ K cl a Qd Q
noncomputable def rC (K : PySem.W.Frag) (cl : Str → Option Addr) (op : CmpOp) : R2 := fun x y H Q =>
  ∃ a da db Qd, a.H = H ∧ SR K cl a ∧ VR K a da x ∧ VR K a db y ∧ bndB (cmpD op da db a.h) Qd a.h ∧ KQ K cl a Qd Q
section
variable {X : Cx} {cl : Str → Option Addr}
theorem mul_ok {i j : Int} (h : mulOk i j = true) : (L2.CMul i j) ∨ i.natAbs.log2 + j.natAbs.log2 < 1000000 := by
  unfold mulOk small at h
  simp only [Bool.or_eq_true, Bool.and_eq_true, decide_eq_true_eq] at h
  rcases h with (h | h) | h
  · exact .inl (.inl h)
  · exact .inl (.inr h)
  · exact .inr h
theorem bndE1 {f : Option (D × Hh)} {Qd : KD} (h : bnd f Qd) : ∃ d g, f = some (d, g) ∧ Qd d g := by
  cases f with
  | none => exact h.elim
  | some p => exact ⟨p.1, p.2, rfl, h⟩
theorem bnd_ite {c : Bool} {r : D × Hh} {Qd : KD} (h : bnd (if c = true then some r else none) Qd) : c = true ∧ Qd r.1 r.2 := by
  cases c with
  | true => exact ⟨rfl, h⟩
  | false => exact h.elim
theorem line_le {n : Nat} (h : line n = true) : n ≤ sizeLine := of_decide_eq_true h
theorem rep_fold : ∀ {k : Nat} {x acc : Array Nat}, ((List.replicate k x).foldl (· ++ ·) acc).toList = acc.toList ++ (List.replicate k x.toList).flatten
  | 0, x, acc => by simp
  | k + 1, x, acc => by
    have ih := rep_fold (k := k) (x := x) (acc := acc ++ x)
    rw [List.replicate_succ, List.foldl_cons, ih, List.replicate_succ, List.flatten_cons, Array.toList_append, List.append_assoc]
theorem rep_tl (z : Str) (k : Nat) : (repS z k).cps.toList = (List.replicate k z.cps.toList).flatten := by
  unfold repS
  rw [rep_fold]; simp
theorem rep_len (z : Str) (k : Nat) : (repS z k).length = z.length * k := by
  show (repS z k).cps.size = z.cps.size * k
  rw [← Array.length_toList, rep_tl, ← Array.length_toList]
  induction k with
  | zero => simp
  | succ k ih => rw [List.replicate_succ, List.flatten_cons, List.length_append, ih, Nat.mul_succ]; omega
/-- a text so many times -/
theorem op_mulS {X : Cx} : OpR X (binaryOp .Mult) (fun x y H Q => ∃ (z : Str) (k : Int), x = .str z ∧ y = .int k ∧ 0 ≤ k ∧ k ≤ 1000 ∧ 1 ≤ z.length ∧ z.length ≤ 1000 ∧ Q (.str (repS z k.toNat)) H) := by
  intro pins s σ H x y v u Q I rx ry h
  obtain ⟨z, k, rfl, rfl, h1, h2, h3, h4, q⟩ := h
  obtain ⟨t, rfl⟩ := rx
  obtain ⟨t', rfl⟩ := ry
  by_cases hk0 : k < 1
  · obtain rfl : k = 0 := by omega
    refine PySem.P.mul_str (by decide) (fun h => absurd (by decide) h) (fun h => absurd (by decide) h) ?_
    rw [if_pos (by decide)]
    exact ⟨by decide, .str (repS z (0 : Int).toNat), H, I.tok _, ⟨_, rfl⟩, q⟩
  by_cases hk1 : k = 1
  · subst hk1
    refine PySem.P.mul_str (by decide) (fun _ h => absurd h (by simp)) (fun _ h => absurd h (by simp)) ?_
    rw [if_neg (by decide), if_pos (by simp)]
    have e : repS z (1 : Int).toNat = z := by
      show (⟨#[] ++ z.cps⟩ : Str) = z
      rw [Array.empty_append]
    rw [e] at q
    exact ⟨.str z, H, I, ⟨t, rfl⟩, q⟩
  have hk : ¬ k < 1 := by omega
  have hn : (k == 1 || z.length == 0) = false := by
    rw [show (k == 1) = false from beq_eq_false_iff_ne.mpr (by omega), show (z.length == 0) = false from beq_eq_false_iff_ne.mpr (by omega)]; rfl
  have hz : z.length * k.toNat ≤ 1000 * 1000 := Nat.mul_le_mul h4 (by omega)
  refine PySem.P.mul_str ?_ (fun _ _ => ?_) (fun _ _ => ?_) ?_
  · rw [decide_eq_false (by omega), decide_eq_false (by omega)]; rfl
  · have : (2 ^ 63 - 1 : Int) / 1000 ≤ (2 ^ 63 - 1) / k := by
      apply (Int.le_ediv_iff_mul_le (by omega)).mpr
      have : (2 ^ 63 - 1 : Int) / 1000 * k ≤ (2 ^ 63 - 1 : Int) / 1000 * 1000 := Int.mul_le_mul_of_nonneg_left (by omega) (by decide)
      have h5 : (2 ^ 63 - 1 : Int) / 1000 * 1000 ≤ 2 ^ 63 - 1 := by decide
      omega
    have h6 : (1000 : Int) ≤ (2 ^ 63 - 1) / 1000 := by decide
    omega
  · unfold Builtin.Str.tooLong
    exact decide_eq_false (by unfold sizeLine; omega)
  · rw [if_neg hk, if_neg (by rw [hn]; exact Bool.false_ne_true)]
    have hsz : (repS z k.toNat).length ≤ sizeLine := by
      have e := rep_len z k.toNat
      rw [e]
      unfold sizeLine; omega
    exact ⟨hsz, .str (repS z k.toNat), H, I.tok _, ⟨_, rfl⟩, q⟩
theorem op_bin (op : Operator) : OpR X (binaryOp op) (rB X.K cl (binD op)) := by
  intro pins s σ H x y v u Q I rx ry ⟨a, da, db, Qd, eH, sr, v1, v2, hb, kq⟩
  subst eH
  cases op with
  | Add =>
    cases v1 with
    | int i =>
      cases v2 with
      | int j => exact L2.op_add pins s σ _ _ _ v u Q I rx ry ⟨i, j, rfl, rfl, kq.same sr (.int _) hb⟩
      | _ => exact hb.elim
    | str i =>
      cases v2 with
      | str j =>
        obtain ⟨h1, h2⟩ := bnd_ite hb
        exact L2.op_add_str pins s σ _ _ _ v u Q I rx ry ⟨i, j, rfl, rfl, line_le h1, kq.same sr (.str _) h2⟩
      | _ => exact hb.elim
    | tup t1 q1 =>
      cases v2 with
      | tup t2 q2 =>
        rename_i p1 vs1 ds1 p2 vs2 ds2
        obtain ⟨h1, h2⟩ := bnd_ite hb
        refine L2.op_catA pins s σ _ _ _ v u Q I rx ry ⟨_, _, vs1, vs2, rfl, rfl, t1.sq, t2.sq, ?_, ?_, ?_, ?_⟩
        · rw [← q1.length, ← q2.length]; exact line_le h1
        · intro e
          subst e
          cases q1
          exact kq.same sr (.tup t2 q2) h2
        · intro _ e
          subst e
          cases q2
          exact kq.same sr (.tup t1 q1) (by simpa using h2)
        · intro _ _
          exact kq.newTup sr (q1.append q2) h2
      | _ => exact hb.elim
    | ref hm =>
      cases v2 with
      | ref hn =>
        rename_i m n
        have hb : bnd (match a.h[m]?, a.h[n]? with
          | some (.lst xs), some (.lst ys) => if line (xs.length + ys.length) then some (newO a.h (.lst (xs ++ ys))) else none
          | _, _ => none) Qd := hb
        split at hb
        · rename_i xs ys e1 e2
          obtain ⟨h1, h2⟩ := bnd_ite hb
          obtain ⟨us, g1, r1⟩ := sr.obj m _ e1
          obtain ⟨ws, g2, r2⟩ := sr.obj n _ e2
          exact L2.op_cat pins s σ _ _ _ v u Q I rx ry ⟨_, _, us, ws, rfl, rfl, g1, g2, by rw [← r1.length, ← r2.length]; exact line_le h1, kq.newList sr (r1.append r2) h2⟩
        · exact hb.elim
      | _ => exact hb.elim
    | _ => exact hb.elim
  | Sub =>
    cases v1 with
    | int i =>
      cases v2 with
      | int j => exact L2.op_sub pins s σ _ _ _ v u Q I rx ry ⟨i, j, rfl, rfl, kq.same sr (.int _) hb⟩
      | _ => exact hb.elim
    | _ => exact hb.elim
  | Mult =>
    cases v1 with
    | int i =>
      cases v2 with
      | int j =>
        obtain ⟨h1, h2⟩ := bnd_ite hb
        rcases mul_ok h1 with h1 | h1
        · exact L2.op_mul pins s σ _ _ _ v u Q I rx ry ⟨i, j, rfl, rfl, h1, kq.same sr (.int _) h2⟩
        · exact L2.op_mulW pins s σ _ _ _ v u Q I rx ry ⟨i, j, rfl, rfl, h1, kq.same sr (.int _) h2⟩
      | _ => exact hb.elim
    | str z =>
      cases v2 with
      | int k =>
        obtain ⟨h1, h2⟩ := bnd_ite hb
        simp only [Bool.and_eq_true, decide_eq_true_eq] at h1
        exact op_mulS pins s σ _ _ _ v u Q I rx ry ⟨z, k, rfl, rfl, h1.1.1.1, h1.1.1.2, h1.1.2, h1.2, kq.same sr (.str _) h2⟩
      | _ => exact hb.elim
    | ref hm =>
      cases v2 with
      | int k =>
        rename_i m
        have hb : bnd (match a.h[m]? with
          | some (.lst xs) => if decide (-(2 ^ 63) ≤ k) && decide (k < 2 ^ 63) && line (xs.length * k.toNat) then some (newO a.h (.lst (List.replicate k.toNat xs).flatten)) else none
          | _ => none) Qd := hb
        split at hb
        · rename_i xs e1
          obtain ⟨h1, h2⟩ := bnd_ite hb
          simp only [Bool.and_eq_true, decide_eq_true_eq] at h1
          obtain ⟨us, g1, r1⟩ := sr.obj m _ e1
          refine L2.op_rep pins s σ _ _ _ v u Q I rx ry ⟨_, k, us, rfl, rfl, g1, h1.1.1, h1.1.2, by rw [← r1.length]; exact line_le h1.2, kq.newList sr ?_ h2⟩
          generalize k.toNat = c
          clear h2 h1
          induction c with
          | zero => exact .nil
          | succ c ih => rw [List.replicate_succ, List.replicate_succ, List.flatten_cons, List.flatten_cons]; exact r1.append ih
        · exact hb.elim
      | _ => exact hb.elim
    | _ => exact hb.elim
  | Mod =>
    cases v1 with
    | int i =>
      cases v2 with
      | int j =>
        have hb : bnd (if 0 < j then some (.int (i % j), a.h) else none) Qd := hb
        by_cases h : 0 < j
        · rw [if_pos h] at hb
          exact L2.op_mod pins s σ _ _ _ v u Q I rx ry ⟨i, j, rfl, rfl, h, kq.same sr (.int _) hb⟩
        · rw [if_neg h] at hb; exact hb.elim
      | _ => exact hb.elim
    | _ => exact hb.elim
  | FloorDiv =>
    cases v1 with
    | int i =>
      cases v2 with
      | int j =>
        obtain ⟨h1, h2⟩ := bnd_ite hb
        unfold divOk at h1
        simp only [Bool.and_eq_true, decide_eq_true_eq] at h1
        exact L2.op_fdivW pins s σ _ _ _ v u Q I rx ry ⟨i, j, rfl, rfl, h1, kq.same sr (.int _) h2⟩
      | _ => exact hb.elim
    | _ => exact hb.elim
  | Pow =>
    cases v1 with
    | int i =>
      cases v2 with
      | int j =>
        obtain ⟨h1, h2⟩ := bnd_ite hb
        unfold powOk at h1
        simp only [Bool.and_eq_true, decide_eq_true_eq] at h1
        exact L2.op_pow pins s σ _ _ _ v u Q I rx ry ⟨i, j, rfl, rfl, ⟨h1.1.1, h1.1.2, h1.2⟩, kq.same sr (.int _) h2⟩
      | _ => exact hb.elim
    | _ => exact hb.elim
  | _ => cases v1 <;> exact hb.elim

theorem bndB1 {r : Option Bool} {Qd : KD} {h : Hh} (e : bndB r Qd h) : ∃ b, r = some b ∧ Qd (.bl b) h := by
  cases r with
  | none => exact e.elim
  | some b => exact ⟨b, rfl, e⟩
theorem one_of {c : Str} {k : Nat} (e : c.cps.toList = [k]) : c = ⟨#[k]⟩ := by
  obtain ⟨x⟩ := c
  have : x = #[k] := by rw [← Array.toArray_toList (xs := x)]; show x.toList.toArray = _; rw [show x.toList = [k] from e]
  rw [this]
theorem in_core {neg : Bool} {op : CmpOp} (hop : op = if neg then .NotIn else .In) (hu : X.A.units + 64 < cLine) {pins : List (Addr × Obj)} {s : Shared} {σ : L2.St} {x y : V} {v u : Value} {Q : VK} {a : Pt} {da db : D} {b : Bool}
    (I : Inv X pins σ a.H s) (rx : RelV x v) (ry : RelV y u) (sr : SR X.K cl a) (v1 : VR X.K a da x) (v2 : VR X.K a db y) (h : inD a.h da db = some b) (kq : Q (.bl (if neg then !b else b)) a.H) :
    wpAny (model X.prog X.w) X.A (compareOp op v u) (EP X pins σ Q) X.xe s := by
  have flat : ∀ {ds : List D} {vs : List V} {p : Addr}, y = .ref p → (SqL X.K a.H p vs ∨ SqT X.K a.H p vs) → VRs X.K a ds vs → (if flatD da && ds.all flatD then some (ds.any fun y => eqF y da) else none) = some b →
      wpAny (model X.prog X.w) X.A (compareOp op v u) (EP X pins σ Q) X.xe s := fun {ds vs p} ey hs r e => by
    split at e
    · rename_i hf
      cases e
      rw [Bool.and_eq_true] at hf
      have e1 := anyF_of v1 hf.1 r hf.2
      have f1 : L2.flatV x = true := flat_of v1 hf.1
      have f2 : vs.all L2.flatV = true := flats_of r hf.2
      cases neg with
      | true =>
        subst hop
        exact L2.op_notIn_seq pins s σ _ x y v u Q I rx ry ⟨p, vs, ey, hs, f1, f2, by rw [e1]; exact kq⟩
      | false =>
        subst hop
        exact L2.op_in_seq pins s σ _ x y v u Q I rx ry ⟨p, vs, ey, hs, f1, f2, by rw [e1]; exact kq⟩
    · cases e
  have dict : ∀ {kvs : List (DKey × D)} {ws : List (DKey × V)} {p : Addr}, y = .ref p → Rd a.H p (.dK ws) → KVR X.K a kvs ws → ((keyOf da).map fun k => (valD kvs k).isSome) = some b →
      wpAny (model X.prog X.w) X.A (compareOp op v u) (EP X pins σ Q) X.xe s := fun {kvs ws p} ey hd r e => by
    obtain ⟨k, e1, e2⟩ := Option.map_eq_some_iff.mp e
    have ek := keyOf_of v1 e1
    subst ey
    obtain rfl : u = Value.ref p := ry
    have g : DGet a.H p x (L2.valV ws k) := .inl ⟨ws, k, hd, ek, rfl⟩
    have eb : (L2.valV ws k).isSome = b := (valD_isSome r).trans e2
    cases neg with
    | true =>
      subst hop
      exact L2.d_notIn (by omega) I g rx fun s' I' => ⟨.bl (!(L2.valV ws k).isSome), _, I', rfl, by rw [eb]; exact kq⟩
    | false =>
      subst hop
      exact L2.d_in (by omega) I g rx fun s' I' => ⟨.bl (L2.valV ws k).isSome, _, I', rfl, by rw [eb]; exact kq⟩
  cases v2 with
  | str z =>
    cases v1 with
    | str c =>
      have h : (match c.cps.toList with
        | [k] => some (decide (k ∈ z.cps.toList))
        | _ => some (!(Builtin.Str.occurrences z c 0 z.length 1).isEmpty)) = some b := h
      split at h
      · rename_i k e
        cases h
        have ec := one_of e
        subst ec
        cases neg with
        | true => subst hop; exact L2.op_notIn_sign pins s σ _ _ _ v u Q I rx ry ⟨k, z, rfl, rfl, kq⟩
        | false => subst hop; exact L2.op_in_sign pins s σ _ _ _ v u Q I rx ry ⟨k, z, rfl, rfl, kq⟩
      · cases h
        cases neg with
        | true => subst hop; exact L2.op_notin_str pins s σ _ _ _ v u Q I rx ry ⟨c, z, rfl, rfl, kq⟩
        | false => subst hop; exact L2.op_in_str pins s σ _ _ _ v u Q I rx ry ⟨c, z, rfl, rfl, kq⟩
    | _ => cases h
  | tup t q => exact flat rfl (.inr t.sq) q h
  | ref hn =>
    rename_i n
    have h : (match a.h[n]? with
      | some (.lst ds) => if flatD da && ds.all flatD then some (ds.any fun y => eqF y da) else none
      | some (.fro ds) => if flatD da && ds.all flatD then some (ds.any fun y => eqF y da) else none
      | some (.dct kvs) => (keyOf da).map fun k => (valD kvs k).isSome
      | some (.dfr kvs) => (keyOf da).map fun k => (valD kvs k).isSome
      | _ => none) = some b := h
    split at h
    · rename_i ds e
      obtain ⟨vs, h1, h2⟩ := sr.seq (.inl e)
      exact flat rfl (.inl h1) h2 h
    · rename_i ds e
      obtain ⟨vs, h1, h2⟩ := sr.seq (.inr e)
      exact flat rfl (.inl h1) h2 h
    · rename_i kvs e
      obtain ⟨ws, h1, h2⟩ := sr.obj n _ e
      exact dict rfl (.inl h1) h2 h
    · rename_i kvs e
      obtain ⟨ob, ws, h1, h2⟩ := sr.obj n _ e
      exact dict rfl (.inr ⟨ob, h1⟩) h2 h
    · cases h
  | _ => cases h
/-! t > u of tuples of whole numbers -/
theorem lexAt_gt : ∀ {ns ms : List Int} {e r : Nat → Bool} {i : Nat}, (∀ j, e (i + j) = decide (ns.getD j 0 = ms.getD j 0)) → (∀ j, r (i + j) = decide (ms.getD j 0 < ns.getD j 0)) →
    Ob.lexAt e r (decide (ns.length > ms.length)) i (min ns.length ms.length) = HT.lexLt ms ns
  | [], [], _, _, _, _, _ => rfl
  | [], y :: ys, _, _, _, _, _ => by simp [Ob.lexAt, HT.lexLt]
  | x :: xs, [], _, _, _, _, _ => by simp [Ob.lexAt, HT.lexLt]
  | x :: xs, y :: ys, e, r, i, he, hr => by
    have ih := lexAt_gt (ns := xs) (ms := ys) (e := e) (r := r) (i := i + 1) (fun j => by have := he (j + 1); rw [show i + 1 + j = i + (j + 1) by omega, this]; simp) (fun j => by have := hr (j + 1); rw [show i + 1 + j = i + (j + 1) by omega, this]; simp)
    have h0 : e i = decide (x = y) := by simpa using he 0
    have r0 : r i = decide (y < x) := by simpa using hr 0
    rw [show min (x :: xs).length (y :: ys).length = min xs.length ys.length + 1 by simp, Ob.lexAt_succ, h0, r0, HT.lexLt_cons]
    by_cases q : x = y
    · subst q
      rw [if_pos (by simp), if_pos rfl, ← ih]
      simp
    · rw [if_neg (by simp [q]), if_neg (fun z => q z.symm)]
theorem op_gtT {X : Cx} (hu : X.A.units < cLine) : OpR X (compareOp .Gt) (fun x y H Q => ∃ (a b : Addr) (ns ms : List Int), x = .ref a ∧ y = .ref b ∧ SqT X.K H a (ns.map V.int) ∧ SqT X.K H b (ms.map V.int) ∧ Q (.bl (HT.lexLt ms ns)) H) := by
  intro pins s σ H x y v u Q I rx ry h
  obtain ⟨a, b, ns, ms, rfl, rfl, ha, hb, q⟩ := h
  cases rx
  cases ry
  obtain ⟨its, r1, p1, _⟩ := I.tuple ha
  obtain ⟨its2, r2, p2, _⟩ := I.tuple hb
  have i1 : IntsAre its ns := Vals.ints r1
  have i2 : IntsAre its2 ms := Vals.ints r2
  have e1 : its.toArray.size = ns.length := by rw [List.size_toArray]; exact i1.length
  have e2 : its2.toArray.size = ms.length := by rw [List.size_toArray]; exact i2.length
  have at1 : ∀ j (h1 : j < its.toArray.size), ∃ t, its.toArray[j] = .int (ns.getD j 0) t := fun j h1 => PyProof.Rows.IntsAre.int_at i1 _ _ (by simp at h1; simp [h1])
  have at2 : ∀ j (h1 : j < its2.toArray.size), ∃ t, its2.toArray[j] = .int (ms.getD j 0) t := fun j h1 => PyProof.Rows.IntsAre.int_at i2 _ _ (by simp at h1; simp [h1])
  have R := Ob.RcOp.tuples_gt (A := X.A) (s := s) (e := fun j => decide (ns.getD j 0 = ms.getD j 0)) (r := fun j => decide (ms.getD j 0 < ns.getD j 0)) p1 p2 hu (fun j h1 h2 => by
    obtain ⟨t, et⟩ := at1 j h1
    obtain ⟨t', et'⟩ := at2 j h2
    rw [et, et']
    have z : (ns.getD j 0 == ms.getD j 0) = decide (ns.getD j 0 = ms.getD j 0) := by
      by_cases q : ns.getD j 0 = ms.getD j 0
      · rw [decide_eq_true q]; exact beq_iff_eq.mpr q
      · rw [decide_eq_false q]; exact beq_eq_false_iff_ne.mpr q
    rw [← z]
    exact SeqAt.EqAt.int_int _ _ _ _) (fun j h1 h2 _ => by
    obtain ⟨t, et⟩ := at1 j h1
    obtain ⟨t', et'⟩ := at2 j h2
    rw [et, et']
    exact Ob.RcOp.gt_int _ _ _ _)
  rw [e1, e2, lexAt_gt (fun j => by simp) (fun j => by simp)] at R
  have z : wpAny (model X.prog X.w) X.A (compareOp .Gt (.ref a) (.ref b)) (EP X pins σ Q) X.xe s := R X.prog X.w X.xe (EP X pins σ Q) ⟨.bl _, H, I, rfl, q⟩
  exact z
theorem eqE_cases {h : Hh} {d e : D} {b : Bool} (z : eqE h d e = some b) : eqD h d e = some b ∨ (∃ n m ds, d = .ref n ∧ e = .ref m ∧ h[n]? = some (.lst ds) ∧ h[m]? = some (.lst []) ∧ b = ds.isEmpty) ∨ (∃ n m ks ls, d = .ref n ∧ e = .ref m ∧ h[n]? = some (.dct ks) ∧ h[m]? = some (.dct ls) ∧ dicO h ks ls = some b) ∨
    (∃ n m xs ys, d = .ref n ∧ e = .ref m ∧ h[n]? = some (.lst xs) ∧ h[m]? = some (.lst ys) ∧ seqT h xs ys = some b) ∨ ∃ xs ys, d = .tup xs ∧ e = .tup ys ∧ seqT h xs ys = some b := by
  unfold eqE at z
  cases h1 : eqD h d e with
  | some r => rw [h1] at z; exact .inl z
  | none =>
    rw [h1] at z
    cases d with
    | ref n =>
      cases e with
      | ref m =>
        have z : (match h[n]?, h[m]? with
          | some (.lst ds), some (.lst []) => some ds.isEmpty
          | some (.dct ks), some (.dct ls) => dicO h ks ls
          | some (.lst xs), some (.lst ys) => seqT h xs ys
          | _, _ => none) = some b := z
        split at z
        · rename_i ds e1 e2
          cases z
          exact .inr (.inl ⟨n, m, ds, rfl, rfl, e1, e2, rfl⟩)
        · rename_i ks ls e1 e2
          exact .inr (.inr (.inl ⟨n, m, ks, ls, rfl, rfl, e1, e2, z⟩))
        · rename_i xs ys _ e1 e2
          exact .inr (.inr (.inr (.inl ⟨n, m, xs, ys, rfl, rfl, e1, e2, z⟩)))
        · cases z
      | _ => cases z
    | tup xs =>
      cases e with
      | tup ys => exact .inr (.inr (.inr (.inr ⟨xs, ys, rfl, rfl, z⟩)))
      | _ => cases z
    | _ => cases z
theorem eqS_cases {h : Hh} {a b : D} (z : eqS h a b = true) : ∃ x y, deep deepN h a = some x ∧ deep deepN h b = some y ∧ SeqAt.shaped x = true ∧ SeqAt.shaped y = true ∧ PyData.eqv x y = true ∧ PyData.depth x ≤ 60 := by
  unfold eqS at z
  split at z
  · rename_i x y h1 h2
    rw [Bool.and_eq_true, Bool.and_eq_true, Bool.and_eq_true, decide_eq_true_eq] at z
    exact ⟨x, y, h1, h2, z.1.1.1, z.1.1.2, z.1.2, z.2⟩
  · cases z
theorem all_zip {α β : Type} {f : α × β → Bool} : ∀ {xs : List α} {ys : List β}, (xs.zip ys).all f = true → ∀ {j : Nat} {x : α} {y : β}, xs[j]? = some x → ys[j]? = some y → f (x, y) = true
  | [], _, _, j, _, _, e, _ => by simp at e
  | _ :: _, [], _, j, _, _, _, e => by simp at e
  | x :: xs, y :: ys, h, j, _, _, e1, e2 => by
    rw [List.zip_cons_cons, List.all_cons, Bool.and_eq_true] at h
    cases j with
    | zero => simp at e1 e2; subst e1 e2; exact h.1
    | succ j => exact all_zip h.2 (by simpa using e1) (by simpa using e2)
/-- things in a row, each with a truth -/
inductive Bls {α : Type} (R : α → Bool → Prop) : List α → Bool → Prop
  | nil : Bls R [] true
  | cons {x : α} {xs : List α} {c b : Bool} : R x c → Bls R xs b → Bls R (x :: xs) (c && b)
theorem bls_all {α : Type} {R : α → Bool → Prop} {f : α → Bool} : ∀ {xs : List α}, (∀ x ∈ xs, R x (f x)) → Bls R xs (xs.all f)
  | [], _ => .nil
  | x :: xs, h => by
    rw [List.all_cons]
    exact .cons (h x List.mem_cons_self) (bls_all fun y hy => h y (List.mem_cons_of_mem _ hy))
theorem Bls.yes {α : Type} {R : α → Bool → Prop} {xs : List α} {b : Bool} (h : Bls R xs b) (e : b = true) : ∀ x ∈ xs, R x true := by
  induction h with
  | nil => intro x hx; cases hx
  | @cons x xs c b r t ih =>
    rw [Bool.and_eq_true] at e
    intro y hy
    rcases List.mem_cons.mp hy with rfl | hy
    · exact e.1 ▸ r
    · exact ih e.2 y hy
theorem dicO_cases {h : Hh} {ks ls : List (DKey × D)} {b : Bool} (z : dicO h ks ls = some b) : ks.length = ls.length ∧ Bls (fun kv c => ∃ d, valD ls kv.1 = some d ∧ ∃ x y, deep deepN h kv.2 = some x ∧ deep deepN h d = some y ∧ SeqAt.shaped x = true ∧ SeqAt.shaped y = true ∧ PyData.eqv x y = c ∧ PyData.depth x ≤ 60) ks b := by
  unfold dicO at z
  split at z
  · rename_i hc
    cases z
    rw [Bool.and_eq_true, decide_eq_true_eq, List.all_eq_true] at hc
    refine ⟨hc.1, ?_⟩
    have e1 : (ks.all fun _ => true) = true := by simp
    suffices hh : Bls (fun (kv : DKey × D) (c : Bool) => ∃ d, valD ls kv.1 = some d ∧ ∃ x y, deep deepN h kv.2 = some x ∧ deep deepN h d = some y ∧ SeqAt.shaped x = true ∧ SeqAt.shaped y = true ∧ PyData.eqv x y = c ∧ PyData.depth x ≤ 60) ks (ks.all fun _ => true) by rwa [e1] at hh
    refine bls_all (f := fun _ => true) fun kv hkv => ?_
    have a := hc.2 kv hkv
    cases e : valD ls kv.1 with
    | none =>
      have e' : (ls.find? fun l => decide (l.1 = kv.1)).map (·.2) = none := e
      rw [e'] at a; cases a
    | some d =>
      have e' : (ls.find? fun l => decide (l.1 = kv.1)).map (·.2) = some d := e
      rw [e'] at a
      refine ⟨d, rfl, ?_⟩
      have a : eqS h kv.2 d = true := a
      unfold eqS at a
      split at a
      · rename_i x y h1 h2
        rw [Bool.and_eq_true, Bool.and_eq_true, Bool.and_eq_true, decide_eq_true_eq] at a
        exact ⟨x, y, h1, h2, a.1.1.1, a.1.1.2, a.1.2, a.2⟩
      · cases a
  · unfold dicF at z
    split at z
    · rename_i hc
      cases z
      rw [Bool.and_eq_true, decide_eq_true_eq, List.all_eq_true] at hc
      refine ⟨hc.1, bls_all fun kv hkv => ?_⟩
      have a := hc.2 kv hkv
      cases e : valD ls kv.1 with
      | none =>
        have e' : (ls.find? fun l => decide (l.1 = kv.1)).map (·.2) = none := e
        rw [e'] at a; cases a
      | some d =>
        have e' : (ls.find? fun l => decide (l.1 = kv.1)).map (·.2) = some d := e
        rw [e'] at a ⊢
        refine ⟨d, rfl, ?_⟩
        have a : okP2 h kv.2 d = true := a
        show ∃ x y, deep deepN h kv.2 = some x ∧ deep deepN h d = some y ∧ SeqAt.shaped x = true ∧ SeqAt.shaped y = true ∧ PyData.eqv x y = eqS h kv.2 d ∧ PyData.depth x ≤ 60
        unfold okP2 at a
        unfold eqS
        split at a
        · rename_i x y h1 h2
          rw [Bool.and_eq_true, Bool.and_eq_true, decide_eq_true_eq] at a
          rw [h1, h2]
          refine ⟨x, y, rfl, rfl, a.1.1, a.1.2, ?_, a.2⟩
          show _ = (SeqAt.shaped x && SeqAt.shaped y && PyData.eqv x y && decide (PyData.depth x ≤ 60))
          rw [a.1.1, a.1.2, decide_eq_true a.2]; simp
        · cases a
    · cases z
/-- a key's data beside another dict's -/
noncomputable def twoP (K : PySem.W.Frag) (H : Hp) (us : List (Key × V)) (p : Key × V) (c : Bool) : Prop := ∃ u x y, L2.valV us p.1 = some u ∧ Dp K H p.2 x ∧ Dp K H u y ∧ SeqAt.shaped x = true ∧ SeqAt.shaped y = true ∧ PyData.eqv x y = c ∧ PyData.depth x ≤ 60
theorem hits_dp {X : Cx} {pins : List (Addr × PySem.Obj)} {σ : L2.St} {H : Hp} {s : Shared} (I : Inv X pins σ H s) {A : Around} (hu : A.units + 60 < cLine) {ls : List (Key × V)} {vb : List (Key × Value)} (rb : L2.KV ls vb) {ks : List (Key × V)} {va : List (Key × Value)} (ra : L2.KV ks va) :
    ∀ {b : Bool}, Bls (twoP X.K H ls) ks b → PySem.W.KeqHits A s vb va b := by
  unfold L2.KV at ra
  induction ra with
  | nil => intro b hb; cases hb; exact .nil
  | @cons p q ps qs h t ih =>
    intro b hb
    obtain ⟨h1, h2⟩ := h
    cases hb with
    | @cons _ _ c b r hb =>
      obtain ⟨u, x, y, e, d1, d2, s1, s2, e2, e3⟩ := r
      have rr : L2.RelO (some u) (valueAt vb p.1) := by rw [← e]; exact rb.val p.1
      obtain ⟨yv, hy, ry⟩ := rr.some_of
      obtain ⟨k, v⟩ := q
      have h1' : p.1 = k := h1
      rw [h1'] at hy
      obtain ⟨as, r1⟩ := Dp.reads I x _ v d1 h2
      obtain ⟨bs, r2⟩ := Dp.reads I y _ yv d2 ry
      have q := SeqAt.eqAt_reads x y A s v yv as bs r1 r2 (SeqAt.canLay_of_shaped s1) (SeqAt.canLay_of_shaped s2) (by omega)
      rw [e2] at q
      exact .hit hy q (ih hb)
theorem dic_dp {K : PySem.W.Frag} {cl : Str → Option Addr} {a : Pt} (s : SR K cl a) {n m : Nat} {ks ls : List (DKey × D)} {b : Bool} (e1 : a.h[n]? = some (.dct ks)) (e2 : a.h[m]? = some (.dct ls)) (e : dicO a.h ks ls = some b) :
    ∃ ws us, a.H (a.ρ n) = some (.dK ws) ∧ a.H (a.ρ m) = some (.dK us) ∧ ws.length = us.length ∧ Bls (twoP K a.H us) ws b := by
  obtain ⟨hl, hall⟩ := dicO_cases e
  obtain ⟨ws, g1, r1⟩ := s.obj n _ e1
  obtain ⟨us, g2, r2⟩ := s.obj m _ e2
  refine ⟨ws, us, g1, g2, by rw [← Paired.length r1, ← Paired.length r2]; exact hl, ?_⟩
  have aux : ∀ {kx : List (DKey × D)} {wx : List (DKey × V)}, KVR K a kx wx → ∀ {b : Bool}, Bls (fun kv c => ∃ d, valD ls kv.1 = some d ∧ ∃ x y, deep deepN a.h kv.2 = some x ∧ deep deepN a.h d = some y ∧ SeqAt.shaped x = true ∧ SeqAt.shaped y = true ∧ PyData.eqv x y = c ∧ PyData.depth x ≤ 60) kx b →
      Bls (twoP K a.H us) wx b := by
    intro kx wx r
    unfold KVR at r
    induction r with
    | nil => intro b hb; cases hb; exact .nil
    | @cons q w qs ws' h t ih =>
      intro b hb
      cases hb with
      | @cons _ _ c b hr hb =>
        refine .cons ?_ (ih hb)
        obtain ⟨d, c1, x, y, c2, c3, c4, c5, c6, c7⟩ := hr
        obtain ⟨u, f1, f2⟩ := valD_some r2 c1
        exact ⟨u, x, y, by rw [← h.1]; exact f1, dp_of s _ _ _ _ c2 h.2, dp_of s _ _ _ _ c3 f2, c4, c5, c6, c7⟩
  exact aux r1 hall
section
variable {X : Cx} {pins : List (Addr × PySem.Obj)} {σ : L2.St} {s : Shared} {cl : Str → Option Addr} {a : Pt}
open PySem.W (EqTree)
theorem leaf_tree (sr : SR X.K cl a) (I : Inv X pins σ a.H s) {n : Nat} {d e : D} {x y : V} {v u : Value} (z : eqS a.h d e = true) (r : VR X.K a d x) (q : VR X.K a e y) (rx : RelV x v) (ry : RelV y u) : EqTree X.prog X.w s (60 + n) v u true := by
  obtain ⟨p, p', h1, h2, s1, s2, e1, e2⟩ := eqS_cases z
  obtain ⟨as, r1⟩ := Dp.reads I p x v (dp_of sr _ _ _ _ h1 r) rx
  obtain ⟨bs, r2⟩ := Dp.reads I p' y u (dp_of sr _ _ _ _ h2 q) ry
  refine .leaf fun A hu => ?_
  have w := SeqAt.eqAt_reads p p' A s v u as bs r1 r2 (SeqAt.canLay_of_shaped s1) (SeqAt.canLay_of_shaped s2) (by omega)
  rw [e1] at w
  exact w
theorem vals_nth {vs : List V} {its : List Value} (r : Vals vs its) {ds : List D} (rv : VRs X.K a ds vs) {j : Nat} (h1 : j < its.toArray.size) : ∃ d x, ds[j]? = some d ∧ VR X.K a d x ∧ RelV x its.toArray[j] := by
  have h1 : j < its.length := by simpa using h1
  have hd : j < ds.length := by rw [rv.length, r.length]; exact h1
  obtain ⟨x, e1, r1⟩ := rv.get (i := j) (d := ds[j]) (List.getElem?_eq_getElem hd)
  obtain ⟨w, e2, r2⟩ := r.get e1
  refine ⟨_, x, List.getElem?_eq_getElem hd, r1, ?_⟩
  have : its.toArray[j] = w := by
    have e3 : its[j]? = some its[j] := List.getElem?_eq_getElem h1
    rw [e2] at e3
    simpa using (Option.some.inj e3).symm
  rw [this]
  exact r2
theorem dicO_tree (sr : SR X.K cl a) (I : Inv X pins σ a.H s) {i j n : Nat} {ks ls : List (DKey × D)} (e1 : a.h[i]? = some (.dct ks)) (e2 : a.h[j]? = some (.dct ls)) (e : dicO a.h ks ls = some true) : EqTree X.prog X.w s (60 + n + 1) (.ref (a.ρ i)) (.ref (a.ρ j)) true := by
  by_cases hne : a.ρ i = a.ρ j
  · rw [hne]; exact .same
  obtain ⟨ws, us, g1, g2, hlen, hall⟩ := dic_dp sr e1 e2 e
  have hall : ∀ p ∈ ws, twoP X.K a.H us p true := hall.yes rfl
  obtain ⟨_, ya, va, ra, dta⟩ := (show ObjOk X.prog X.w a.H s.heap (a.ρ i) (.dK ws) from I.hok _ _ g1)
  obtain ⟨_, yb, vb, rb, dtb⟩ := (show ObjOk X.prog X.w a.H s.heap (a.ρ j) (.dK us) from I.hok _ _ g2)
  have hl : va.length = vb.length := by rw [← ra.length, ← rb.length]; exact hlen
  have aux : ∀ {ws : List (Key × V)} {va : List (Key × Value)}, L2.KV ws va → (∀ p ∈ ws, ∃ u x y, L2.valV us p.1 = some u ∧ Dp X.K a.H p.2 x ∧ Dp X.K a.H u y ∧ SeqAt.shaped x = true ∧ SeqAt.shaped y = true ∧ PyData.eqv x y = true ∧ PyData.depth x ≤ 60) →
      ∀ p ∈ va, ∃ y, valueAt vb p.1 = some y ∧ EqTree X.prog X.w s (60 + n) p.2 y true := by
    intro ws va r
    unfold L2.KV at r
    induction r with
    | nil => intro _ p hp; cases hp
    | @cons p q ps qs hh t ih =>
      intro hp p' hm
      rcases List.mem_cons.mp hm with rfl | hm
      · obtain ⟨u, x, y, f1, d1, d2, s1, s2, f2, f3⟩ := hp p List.mem_cons_self
        have rr : L2.RelO (some u) (valueAt vb p.1) := by rw [← f1]; exact rb.val p.1
        obtain ⟨yv, hy, ry⟩ := rr.some_of
        rw [hh.1] at hy
        refine ⟨yv, hy, .leaf fun A hu => ?_⟩
        obtain ⟨as, r1⟩ := Dp.reads I x _ _ d1 hh.2
        obtain ⟨bs, r2⟩ := Dp.reads I y _ yv d2 ry
        have w := SeqAt.eqAt_reads x y A s _ yv as bs r1 r2 (SeqAt.canLay_of_shaped s1) (SeqAt.canLay_of_shaped s2) (by omega)
        rw [f2] at w
        exact w
      · exact ih (fun p hm => hp p (List.mem_cons_of_mem _ hm)) p' hm
  have h := aux ra hall
  have t := EqTree.dicts (prog := X.prog) (w := X.w) (s := s) (n := 60 + n) (e := fun _ => true) hne ya yb dta dtb fun k v y hm hv => by
    obtain ⟨y', e1, t⟩ := h (k, v) hm
    rw [hv] at e1
    cases e1
    exact t
  have eb : (va.length == vb.length && va.all fun p => (valueAt vb p.1).isSome && true) = true := by
    rw [hl, beq_self_eq_true, Bool.true_and, List.all_eq_true]
    intro p hp
    obtain ⟨y, e1, _⟩ := h p hp
    rw [e1]; rfl
  rw [eb] at t
  exact t
theorem eqT_tree (sr : SR X.K cl a) (I : Inv X pins σ a.H s) : ∀ (n : Nat) (d e : D) (x y : V) (v u : Value), eqT n a.h d e = true → VR X.K a d x → VR X.K a e y → RelV x v → RelV y u → EqTree X.prog X.w s (60 + n) v u true
  | 0, d, e, x, y, v, u, z, r, q, rx, ry => leaf_tree sr I z r q rx ry
  | n + 1, d, e, x, y, v, u, z, r, q, rx, ry => by
    unfold eqT at z
    rw [Bool.or_eq_true] at z
    rcases z with z | z
    · exact leaf_tree sr I z r q rx ry
    · cases r with
      | tup t1 q1 =>
        cases q with
        | tup t2 q2 =>
          rename_i p1 vs1 ds1 p2 vs2 ds2
          obtain rfl : v = Value.ref p1 := rx
          obtain rfl : u = Value.ref p2 := ry
          have z : (decide (ds1.length = ds2.length) && (ds1.zip ds2).all fun p => eqT n a.h p.1 p.2) = true := z
          rw [Bool.and_eq_true, decide_eq_true_eq] at z
          by_cases hne : p1 = p2
          · rw [hne]; exact .same
          obtain ⟨its, rv1, i1, _⟩ := I.tuple t1.sq
          obtain ⟨jts, rv2, i2, _⟩ := I.tuple t2.sq
          have hsz : its.toArray.size = jts.toArray.size := by rw [List.size_toArray, List.size_toArray, ← rv1.length, ← rv2.length, ← q1.length, ← q2.length, z.1]
          have t := EqTree.tuples (prog := X.prog) (w := X.w) (n := 60 + n) (e := fun _ => true) hne i1 i2 fun j h1 h2 => by
            obtain ⟨d1, x1, e1, r1, f1⟩ := vals_nth rv1 q1 h1
            obtain ⟨d2, x2, e2, r2, f2⟩ := vals_nth rv2 q2 h2
            exact eqT_tree sr I n d1 d2 x1 x2 _ _ (all_zip z.2 e1 e2) r1 r2 f1 f2
          have eb : ((List.range (min its.toArray.size jts.toArray.size)).all (fun _ => true) && its.toArray.size == jts.toArray.size) = true := by rw [hsz]; simp
          rw [eb] at t
          exact t
        | _ => cases z
      | ref hn =>
        cases q with
        | ref hm =>
          rename_i i j
          obtain rfl : v = Value.ref (a.ρ i) := rx
          obtain rfl : u = Value.ref (a.ρ j) := ry
          have z : (match a.h[i]?, a.h[j]? with
            | some (.lst xs), some (.lst ys) => decide (xs.length = ys.length) && (xs.zip ys).all fun p => eqT n a.h p.1 p.2
            | some (.dct ks), some (.dct ls) => dicO a.h ks ls == some true
            | _, _ => false) = true := z
          split at z
          · rename_i xs ys e1 e2
            rw [Bool.and_eq_true, decide_eq_true_eq] at z
            by_cases hne : a.ρ i = a.ρ j
            · rw [hne]; exact .same
            obtain ⟨vs1, g1, q1⟩ := sr.seq (.inl e1)
            obtain ⟨vs2, g2, q2⟩ := sr.seq (.inl e2)
            obtain ⟨its, rv1, i1, _⟩ := I.list g1
            obtain ⟨jts, rv2, i2, _⟩ := I.list g2
            have hsz : its.toArray.size = jts.toArray.size := by rw [List.size_toArray, List.size_toArray, ← rv1.length, ← rv2.length, ← q1.length, ← q2.length, z.1]
            have t := EqTree.lists (prog := X.prog) (w := X.w) (n := 60 + n) (e := fun _ => true) hne i1.isList i2.isList hsz fun j h1 h2 => by
              obtain ⟨d1, x1, e1, r1, f1⟩ := vals_nth rv1 q1 h1
              obtain ⟨d2, x2, e2, r2, f2⟩ := vals_nth rv2 q2 h2
              exact eqT_tree sr I n d1 d2 x1 x2 _ _ (all_zip z.2 e1 e2) r1 r2 f1 f2
            have eb : ((List.range its.toArray.size).all (fun _ => true)) = true := by simp
            rw [eb] at t
            exact t
          · rename_i ks ls e1 e2
            exact dicO_tree sr I e1 e2 (beq_iff_eq.mp z)
          · cases z
        | _ => cases z
      | _ => cases q <;> cases z
theorem seqT_cases {h : Hh} {xs ys : List D} {b : Bool} (z : seqT h xs ys = some b) : b = true ∧ xs.length = ys.length ∧ (xs.zip ys).all (fun p => eqT 2 h p.1 p.2) = true := by
  unfold seqT at z
  split at z
  · rename_i hc
    cases z
    rw [Bool.and_eq_true, decide_eq_true_eq] at hc
    exact ⟨rfl, hc.1, hc.2⟩
  · cases z
theorem seqT_items (sr : SR X.K cl a) (I : Inv X pins σ a.H s) {xs ys : List D} {vs1 vs2 : List V} {its jts : List Value} (h : (xs.zip ys).all (fun p => eqT 2 a.h p.1 p.2) = true) (q1 : VRs X.K a xs vs1) (q2 : VRs X.K a ys vs2) (rv1 : Vals vs1 its) (rv2 : Vals vs2 jts) :
    ∀ j (h1 : j < its.toArray.size) (h2 : j < jts.toArray.size), EqTree X.prog X.w s 62 its.toArray[j] jts.toArray[j] true := fun j h1 h2 => by
  obtain ⟨d1, x1, e1, r1, f1⟩ := vals_nth rv1 q1 h1
  obtain ⟨d2, x2, e2, r2, f2⟩ := vals_nth rv2 q2 h2
  exact eqT_tree sr I 2 d1 d2 x1 x2 _ _ (all_zip h e1 e2) r1 r2 f1 f2
end
theorem len_ne {x : V} {xs : List V} {its rts : List Value} (r : Vals (x :: xs) its) (q : Vals [] rts) : (its.toArray.size != rts.toArray.size) = true := by
  cases q
  cases r
  simp
theorem op_cmp (op : CmpOp) (hu : X.A.units + 64 < cLine) (hu2 : X.A.units + 65 < cLine) : OpR X (compareOp op) (rC X.K cl op) := by
  intro pins s σ H x y v u Q I rx ry ⟨a, da, db, Qd, eH, sr, v1, v2, hb, kq⟩
  subst eH
  obtain ⟨b, e, hq⟩ := bndB1 hb
  have fin : Q (.bl b) a.H := kq.same sr (.bl b) hq
  cases op with
  | Eq =>
    rcases eqE_cases (show eqE a.h da db = some b from e) with e | ⟨n, m, ds, rfl, rfl, e1, e2, rfl⟩ | ⟨n, m, ks, ls, rfl, rfl, e1, e2, e3⟩ | ⟨n, m, xs, ys, rfl, rfl, e1, e2, e3⟩ | ⟨xs, ys, rfl, rfl, e3⟩
    · obtain ⟨p, q, d1, d2, s1, s2, rfl⟩ := eqD_dp sr e v1 v2
      exact L2.op_eqD hu pins s σ _ x y v u Q I rx ry ⟨p, q, d1, d2, s1, s2, fin⟩
    · cases v1 with
      | ref hn =>
        cases v2 with
        | ref hm =>
          obtain ⟨xs, g1, g2⟩ := sr.seq (.inl e1)
          obtain ⟨ys, g3, g4⟩ := sr.seq (.inl e2)
          cases g4
          cases g2 with
          | nil => exact L2.op_eqD hu pins s σ _ _ _ v u Q I rx ry ⟨.list [], .list [], .lst g1 .nil, .lst g3 .nil, rfl, rfl, fin⟩
          | cons r1 r2 =>
            obtain rfl : v = Value.ref (a.ρ n) := rx
            obtain rfl : u = Value.ref (a.ρ m) := ry
            obtain ⟨its, rv, p1, _⟩ := I.list g1
            obtain ⟨rts, rw', p2, _⟩ := I.list g3
            exact SeqAt.eq_list_lengthsAt p1.isList p2.isList (len_ne rv rw') (by omega) ⟨.bl false, _, I, rfl, fin⟩
    · cases v1 with
      | ref hn =>
        cases v2 with
        | ref hm =>
          obtain ⟨ws, us, g1, g2, hlen, hall⟩ := dic_dp sr e1 e2 e3
          obtain rfl : v = Value.ref (a.ρ n) := rx
          obtain rfl : u = Value.ref (a.ρ m) := ry
          obtain ⟨_, ya, va, ra, dta⟩ := (show ObjOk X.prog X.w a.H s.heap (a.ρ n) (.dK ws) from I.hok _ _ g1)
          obtain ⟨_, yb, vb, rb, dtb⟩ := (show ObjOk X.prog X.w a.H s.heap (a.ρ m) (.dK us) from I.hok _ _ g2)
          have hl : va.length = vb.length := by rw [← ra.length, ← rb.length]; exact hlen
          exact PySem.W.keq_eq (knd := mixKind X.prog X.w) (r := b) ya yb dta dtb (by omega) (fun _ => hits_dp I (A := X.A.in1) (by show X.A.units + 1 + 60 < cLine; omega) rb ra hall) (by rw [hl, beq_self_eq_true, Bool.true_and]; exact ⟨.bl b, _, I, rfl, fin⟩)
    · cases v1 with
      | ref hn =>
        cases v2 with
        | ref hm =>
          obtain ⟨rfl, hlen, hall⟩ := seqT_cases e3
          obtain rfl : v = Value.ref (a.ρ n) := rx
          obtain rfl : u = Value.ref (a.ρ m) := ry
          obtain ⟨vs1, g1, q1⟩ := sr.seq (.inl e1)
          obtain ⟨vs2, g2, q2⟩ := sr.seq (.inl e2)
          obtain ⟨its, rv1, i1, _⟩ := I.list g1
          obtain ⟨jts, rv2, i2, _⟩ := I.list g2
          have hsz : its.toArray.size = jts.toArray.size := by rw [List.size_toArray, List.size_toArray, ← rv1.length, ← rv2.length, ← q1.length, ← q2.length, hlen]
          have ts := seqT_items sr I hall q1 q2 rv1 rv2
          exact PySem.W.eq_listsT (n := 62) (e := fun _ => true) i1.isList i2.isList hsz ts (by omega) (by rw [show (List.range its.toArray.size).all (fun _ => true) = true by simp]; exact ⟨.bl true, _, I, rfl, fin⟩)
    · cases v1 with
      | tup t1 q1 =>
        cases v2 with
        | tup t2 q2 =>
          rename_i p1 vs1 p2 vs2
          obtain ⟨rfl, hlen, hall⟩ := seqT_cases e3
          obtain rfl : v = Value.ref p1 := rx
          obtain rfl : u = Value.ref p2 := ry
          obtain ⟨its, rv1, i1, _⟩ := I.tuple t1.sq
          obtain ⟨jts, rv2, i2, _⟩ := I.tuple t2.sq
          have hsz : its.toArray.size = jts.toArray.size := by rw [List.size_toArray, List.size_toArray, ← rv1.length, ← rv2.length, ← q1.length, ← q2.length, hlen]
          have ts := seqT_items sr I hall q1 q2 rv1 rv2
          exact PySem.W.eq_tuplesT (n := 62) (e := fun _ => true) i1 i2 ts (by omega) (by rw [show ((List.range (min its.toArray.size jts.toArray.size)).all (fun _ => true) && its.toArray.size == jts.toArray.size) = true by rw [hsz]; simp]; exact ⟨.bl true, _, I, rfl, fin⟩)
  | NotEq =>
    obtain ⟨c, e0, rfl⟩ := Option.map_eq_some_iff.mp (show (eqE a.h da db).map (!·) = some b from e)
    rcases eqE_cases e0 with e1 | ⟨n, m, ds, rfl, rfl, e1, e2, rfl⟩ | ⟨n, m, ks, ls, rfl, rfl, e1, e2, e3⟩ | ⟨n, m, xs, ys, rfl, rfl, e1, e2, e3⟩ | ⟨xs, ys, rfl, rfl, e3⟩
    · obtain ⟨p, q, d1, d2, s1, s2, rfl⟩ := eqD_dp sr e1 v1 v2
      exact L2.op_neD hu pins s σ _ x y v u Q I rx ry ⟨p, q, d1, d2, s1, s2, fin⟩
    · cases v1 with
      | ref hn =>
        cases v2 with
        | ref hm =>
          obtain ⟨xs, g1, g2⟩ := sr.seq (.inl e1)
          obtain ⟨ys, g3, g4⟩ := sr.seq (.inl e2)
          cases g4
          cases g2 with
          | nil => exact L2.op_neD hu pins s σ _ _ _ v u Q I rx ry ⟨.list [], .list [], .lst g1 .nil, .lst g3 .nil, rfl, rfl, fin⟩
          | cons r1 r2 =>
            obtain rfl : v = Value.ref (a.ρ n) := rx
            obtain rfl : u = Value.ref (a.ρ m) := ry
            obtain ⟨its, rv, p1, _⟩ := I.list g1
            obtain ⟨rts, rw', p2, _⟩ := I.list g3
            exact SeqAt.RcNeAt.lists_lengths p1.isList p2.isList (len_ne rv rw') (by omega) X.prog X.w X.xe (EP X pins σ Q) ⟨.bl true, _, I, rfl, fin⟩
    · cases v1 with
      | ref hn =>
        cases v2 with
        | ref hm =>
          obtain ⟨ws, us, g1, g2, hlen, hall⟩ := dic_dp sr e1 e2 e3
          obtain rfl : v = Value.ref (a.ρ n) := rx
          obtain rfl : u = Value.ref (a.ρ m) := ry
          obtain ⟨_, ya, va, ra, dta⟩ := (show ObjOk X.prog X.w a.H s.heap (a.ρ n) (.dK ws) from I.hok _ _ g1)
          obtain ⟨_, yb, vb, rb, dtb⟩ := (show ObjOk X.prog X.w a.H s.heap (a.ρ m) (.dK us) from I.hok _ _ g2)
          have hl : va.length = vb.length := by rw [← ra.length, ← rb.length]; exact hlen
          exact PySem.W.keq_ne (knd := mixKind X.prog X.w) (r := c) ya yb dta dtb (by omega) (fun _ => hits_dp I (A := X.A.in1) (by show X.A.units + 1 + 60 < cLine; omega) rb ra hall) (by rw [hl, beq_self_eq_true, Bool.true_and]; exact ⟨.bl (!c), _, I, rfl, fin⟩)
    · cases v1 with
      | ref hn =>
        cases v2 with
        | ref hm =>
          obtain ⟨rfl, hlen, hall⟩ := seqT_cases e3
          obtain rfl : v = Value.ref (a.ρ n) := rx
          obtain rfl : u = Value.ref (a.ρ m) := ry
          obtain ⟨vs1, g1, q1⟩ := sr.seq (.inl e1)
          obtain ⟨vs2, g2, q2⟩ := sr.seq (.inl e2)
          obtain ⟨its, rv1, i1, _⟩ := I.list g1
          obtain ⟨jts, rv2, i2, _⟩ := I.list g2
          have hsz : its.toArray.size = jts.toArray.size := by rw [List.size_toArray, List.size_toArray, ← rv1.length, ← rv2.length, ← q1.length, ← q2.length, hlen]
          have ts := seqT_items sr I hall q1 q2 rv1 rv2
          exact SeqAt.zne_lists i1.isList i2.isList hsz (by omega) (fun j h1 h2 => (ts j h1 h2).at X.A.in1 (by show X.A.units + 1 + 62 < cLine; omega)) ⟨.bl false, _, I, rfl, fin⟩
    · cases v1 with
      | tup t1 q1 =>
        cases v2 with
        | tup t2 q2 =>
          rename_i p1 vs1 p2 vs2
          obtain ⟨rfl, hlen, hall⟩ := seqT_cases e3
          obtain rfl : v = Value.ref p1 := rx
          obtain rfl : u = Value.ref p2 := ry
          obtain ⟨its, rv1, i1, _⟩ := I.tuple t1.sq
          obtain ⟨jts, rv2, i2, _⟩ := I.tuple t2.sq
          have hsz : its.toArray.size = jts.toArray.size := by rw [List.size_toArray, List.size_toArray, ← rv1.length, ← rv2.length, ← q1.length, ← q2.length, hlen]
          have ts := seqT_items sr I hall q1 q2 rv1 rv2
          exact SeqAt.zne_tuples i1 i2 hsz (by omega) (fun j h1 h2 => (ts j h1 h2).at X.A.in1 (by show X.A.units + 1 + 62 < cLine; omega)) ⟨.bl false, _, I, rfl, fin⟩
  | Lt =>
    cases v1 with
    | int i =>
      cases v2 with
      | int j => cases e; exact L2.op_lt pins s σ _ _ _ v u Q I rx ry ⟨i, j, rfl, rfl, fin⟩
      | _ => cases e
    | tup t1 q1 =>
      cases v2 with
      | tup t2 q2 =>
        rename_i p1 vs1 ds1 p2 vs2 ds2
        have e : (match intsOf ds1, intsOf ds2 with
          | some ns, some ms => some (HT.lexLt ns ms)
          | _, _ => none) = some b := e
        split at e
        · rename_i ns ms e1 e2
          cases e
          have g1 := intsOf_eq e1
          have g2 := intsOf_eq e2
          subst g1 g2
          have w1 := q1.ints
          have w2 := q2.ints
          subst w1 w2
          exact L2.op_ltT (by omega) pins s σ _ _ _ v u Q I rx ry ⟨_, _, ns, ms, rfl, rfl, t1.sq, t2.sq, fin⟩
        · cases e
      | _ => cases e
    | _ => cases e
  | LtE =>
    cases v1 with
    | int i =>
      cases v2 with
      | int j => cases e; exact L2.op_le pins s σ _ _ _ v u Q I rx ry ⟨i, j, rfl, rfl, fin⟩
      | _ => cases e
    | _ => cases e
  | Gt =>
    cases v1 with
    | int i =>
      cases v2 with
      | int j => cases e; exact L2.op_gt pins s σ _ _ _ v u Q I rx ry ⟨i, j, rfl, rfl, fin⟩
      | _ => cases e
    | tup t1 q1 =>
      cases v2 with
      | tup t2 q2 =>
        rename_i p1 vs1 ds1 p2 vs2 ds2
        have e : (match intsOf ds1, intsOf ds2 with
          | some ns, some ms => some (HT.lexLt ms ns)
          | _, _ => none) = some b := e
        split at e
        · rename_i ns ms e1 e2
          cases e
          have g1 := intsOf_eq e1
          have g2 := intsOf_eq e2
          subst g1 g2
          have w1 := q1.ints
          have w2 := q2.ints
          subst w1 w2
          exact op_gtT (by omega) pins s σ _ _ _ v u Q I rx ry ⟨_, _, ns, ms, rfl, rfl, t1.sq, t2.sq, fin⟩
        · cases e
      | _ => cases e
    | _ => cases e
  | GtE =>
    cases v1 with
    | int i =>
      cases v2 with
      | int j => cases e; exact L2.op_ge pins s σ _ _ _ v u Q I rx ry ⟨i, j, rfl, rfl, fin⟩
      | _ => cases e
    | _ => cases e
  | Is =>
    cases v2 with
    | non =>
      cases v1 <;> (cases e; exact L2.op_isN pins s σ _ _ _ v u Q I rx ry ⟨rfl, fin⟩)
    | bl k =>
      cases v1 with
      | bl j => cases e; exact L2.op_isBl pins s σ _ _ _ v u Q I rx ry ⟨j, k, rfl, rfl, fin⟩
      | _ => cases e
    | _ => cases e
  | IsNot =>
    cases v2 with
    | non =>
      cases v1 <;> (cases e; exact L2.op_notN pins s σ _ _ _ v u Q I rx ry ⟨rfl, fin⟩)
    | bl k =>
      cases v1 with
      | bl j => cases e; exact L2.op_notBl pins s σ _ _ _ v u Q I rx ry ⟨j, k, rfl, rfl, fin⟩
      | _ => cases e
    | _ => cases e
  | In =>
    have e : orN (inD a.h da db) (inP a.h da db) = some b := e
    cases e1 : inD a.h da db with
    | some c =>
      rw [e1] at e
      cases e
      exact in_core (neg := false) rfl hu I rx ry sr v1 v2 e1 fin
    | none =>
      rw [e1] at e
      obtain ⟨d, es, d1, d2, s1, s2, rfl⟩ := inP_dp sr (show inP a.h da db = some b from e) v1 v2
      exact L2.op_inD hu2 pins s σ _ x y v u Q I rx ry ⟨d, es, d1, d2, s1, s2, fin⟩
  | NotIn =>
    obtain ⟨c, e0, rfl⟩ := Option.map_eq_some_iff.mp (show (orN (inD a.h da db) (inP a.h da db)).map (!·) = some b from e)
    cases e1 : inD a.h da db with
    | some c2 =>
      rw [e1] at e0
      cases e0
      exact in_core (neg := true) rfl hu I rx ry sr v1 v2 e1 fin
    | none =>
      rw [e1] at e0
      obtain ⟨d, es, d1, d2, s1, s2, rfl⟩ := inP_dp sr (show inP a.h da db = some c from e0) v1 v2
      exact L2.op_notInD hu2 pins s σ _ x y v u Q I rx ry ⟨d, es, d1, d2, s1, s2, fin⟩

/-! ### subscripts -/
theorem atI_of {K : PySem.W.Frag} {a : Pt} {ds : List D} {vs : List V} {i : Int} {d : D} (r : VRs K a ds vs) (e : L2.atI ds i = some d) : ∃ v, L2.atI vs i = some v ∧ VR K a d v := by
  unfold L2.atI at e ⊢
  obtain ⟨j, h1, h2⟩ := Option.bind_eq_some_iff.mp e
  obtain ⟨v, h3, h4⟩ := r.get h2
  exact ⟨v, by rw [← r.length, h1]; exact h3, h4⟩
theorem ix_all (hu : X.A.units + 64 < cLine) : IxR X (rB X.K cl ixD) := by
  intro value slice pins s σ H x y v u Q I rx ry ⟨a, da, db, Qd, eH, sr, v1, v2, hb, kq⟩ hs
  subst eH
  obtain ⟨d, h', e, hq⟩ := bndE1 hb
  have mp : ∀ {o : Option D}, o.map (·, a.h) = some (d, h') → o = some d ∧ h' = a.h := fun {o} q => by
    obtain ⟨z, h1, h2⟩ := Option.map_eq_some_iff.mp q
    cases h2
    exact ⟨h1, rfl⟩
  have dict : ∀ {kvs : List (DKey × D)} {ws : List (DKey × V)} {p : Addr} {k : DKey}, x = .ref p → y = L2.kV k → Rd a.H p (.dK ws) → KVR X.K a kvs ws → (valD kvs k).map (·, a.h) = some (d, h') →
      wpAny (model X.prog X.w) X.A (subscriptTail value slice v u) (EP X pins σ Q) X.xe s := fun {kvs ws p k} ex ey hd r e => by
    obtain ⟨e1, e2⟩ := mp e
    subst e2
    obtain ⟨w, g1, g2⟩ := valD_some r e1
    subst ex
    obtain rfl : v = Value.ref p := rx
    have g : DGet a.H p y (some w) := .inl ⟨ws, k, hd, ey, g1.symm⟩
    exact tail_any (L2.dict_typeIs I g) slot_dict_getitem.lookup (L2.d_getItem (by omega) I g ry fun w' s3 I3 rw' => ⟨w, _, I3, rw', kq.same sr g2 hq⟩) hs
  have list : ∀ {ds : List D} {n : Nat} {i : Int}, isList a.h n ds → x = .ref (a.ρ n) → y = .int i → (L2.atI ds i).map (·, a.h) = some (d, h') →
      wpAny (model X.prog X.w) X.A (subscriptTail value slice v u) (EP X pins σ Q) X.xe s := fun {ds n i} hl ex ey e => by
    obtain ⟨e1, e2⟩ := mp e
    subst e2
    obtain ⟨vs, g1, g2⟩ := sr.seq hl
    obtain ⟨w, g3, g4⟩ := atI_of g2 e1
    exact L2.ix_list value slice pins s σ _ x y v u Q I rx ry ⟨_, vs, i, w, ex, ey, g1, g3, kq.same sr g4 hq⟩ hs
  cases v2 with
  | int i =>
    cases v1 with
    | tup t q =>
      obtain ⟨e1, e2⟩ := mp e
      subst e2
      obtain ⟨w, g1, g2⟩ := atI_of q e1
      exact L2.ix_tup value slice pins s σ _ _ _ v u Q I rx ry ⟨_, _, i, w, rfl, rfl, t.sq, g1, kq.same sr g2 hq⟩ hs
    | str z =>
      have e : (if line z.length then (signAt z i).map (·, a.h) else none) = some (d, h') := e
      split at e
      · rename_i hl
        obtain ⟨e1, e2⟩ := mp e
        subst e2
        obtain ⟨c, g1, g2⟩ := Option.map_eq_some_iff.mp e1
        subst g2
        exact L2.ix_str value slice pins s σ _ _ _ v u Q I rx ry ⟨z, i, c, rfl, rfl, line_le hl, g1, kq.same sr (.str _) hq⟩ hs
      · cases e
    | ref hn =>
      rename_i n
      have e : (match a.h[n]? with
        | some (.lst ds) => (L2.atI ds i).map (·, a.h)
        | some (.fro ds) => (L2.atI ds i).map (·, a.h)
        | some (.dct kvs) => (valD kvs (.inl i)).map (·, a.h)
        | some (.dfr kvs) => (valD kvs (.inl i)).map (·, a.h)
        | _ => none) = some (d, h') := e
      split at e
      · rename_i ds q; exact list (.inl q) rfl rfl e
      · rename_i ds q; exact list (.inr q) rfl rfl e
      · rename_i kvs q
        obtain ⟨ws, h1, h2⟩ := sr.obj n _ q
        exact dict (k := .inl i) rfl rfl (.inl h1) h2 e
      · rename_i kvs q
        obtain ⟨ob, ws, h1, h2⟩ := sr.obj n _ q
        exact dict (k := .inl i) rfl rfl (.inr ⟨ob, h1⟩) h2 e
      · cases e
    | _ => cases e
  | str z =>
    cases v1 with
    | ref hn =>
      rename_i n
      have e : (match a.h[n]? with
        | some (.dct kvs) => (valD kvs (.inr z)).map (·, a.h)
        | some (.dfr kvs) => (valD kvs (.inr z)).map (·, a.h)
        | _ => none) = some (d, h') := e
      split at e
      · rename_i kvs q
        obtain ⟨ws, h1, h2⟩ := sr.obj n _ q
        exact dict (k := .inr z) rfl rfl (.inl h1) h2 e
      · rename_i kvs q
        obtain ⟨ob, ws, h1, h2⟩ := sr.obj n _ q
        exact dict (k := .inr z) rfl rfl (.inr ⟨ob, h1⟩) h2 e
      · cases e
    | _ => cases e
  | _ => cases e
/-! ### slices -/
noncomputable def rS (K : PySem.W.Frag) (cl : Str → Option Addr) : V → Option Int → Option Int → Hp → VK → Prop := fun x lo hi H Q =>
  ∃ a da Qd, a.H = H ∧ SR K cl a ∧ VR K a da x ∧ bnd (slD da lo hi a.h) Qd ∧ KQ K cl a Qd Q
theorem cut_of {K : PySem.W.Frag} {a : Pt} {ds : List D} {vs : List V} (r : VRs K a ds vs) (lo hi : Option Int) : VRs K a (cut ds lo hi) (L2.cutV vs lo hi) := by
  unfold cut L2.cutV
  rw [r.length]
  exact (r.drop _).take _
theorem cut_all {ds : List D} {lo hi : Option Int} (h1 : HT.sIx ds.length 0 lo = 0) (h2 : HT.sIx ds.length ds.length hi = ds.length) : cut ds lo hi = ds := by
  unfold cut
  rw [h1, h2]
  simp
theorem sl_all : SlR X (rS X.K cl) := by
  intro pins s σ H x v vl vu lo hi sl Q I rx his pl pu ⟨a, da, Qd, eH, sr, v1, hb, kq⟩
  subst eH
  cases v1 with
  | tup t q =>
    rename_i p vs ds
    have hl := q.length
    refine L2.sl_tupA pins s σ _ _ v vl vu lo hi sl Q I rx his pl pu ⟨_, vs, rfl, t.sq, fun hw => ?_, fun _ => ?_⟩
    · rw [← hl] at hw
      have e : bnd (some (.tup (cut ds lo hi), a.h)) Qd := hb
      rw [cut_all hw.1 hw.2] at e
      exact kq.same sr (.tup t q) e
    · exact kq.newTup sr (cut_of q lo hi) hb
  | str z =>
    obtain ⟨h1, h2⟩ := bnd_ite hb
    refine L2.sl_str pins s σ _ _ v vl vu lo hi sl Q I rx his pl pu ⟨z, rfl, line_le h1, ?_⟩
    have e : L2.cutS z lo hi = ⟨(cut z.cps.toList lo hi).toArray⟩ := by
      unfold L2.cutS cut
      have : z.cps.toList.length = z.length := by simp [Str.length]
      rw [this]
    rw [e]
    exact kq.same sr (.str _) h2
  | ref hn =>
    rename_i n
    have hb : bnd (match a.h[n]? with
      | some (.lst ds) => some (newO a.h (.lst (cut ds lo hi)))
      | some (.fro ds) => some (newO a.h (.lst (cut ds lo hi)))
      | _ => none) Qd := hb
    split at hb
    · rename_i ds e
      obtain ⟨vs, h1, h2⟩ := sr.seq (.inl e)
      exact L2.sl_list pins s σ _ _ v vl vu lo hi sl Q I rx his pl pu ⟨_, vs, rfl, h1, kq.newList sr (cut_of h2 lo hi) hb⟩
    · rename_i ds e
      obtain ⟨vs, h1, h2⟩ := sr.seq (.inr e)
      exact L2.sl_list pins s σ _ _ v vl vu lo hi sl Q I rx his pl pu ⟨_, vs, rfl, h1, kq.newList sr (cut_of h2 lo hi) hb⟩
    · exact hb.elim
  | _ => exact hb.elim
end
end Z

set_option Elab.async false
set_option linter.all false
set_option maxRecDepth 100000
/-! Z, part E: builtins, methods, stores keep step. -/
namespace Z
open PySem PySem.Spec PyProof.Rows L2

noncomputable def B.val : B → Value
  | .len => .builtin "len"
  | .abs => .builtin "abs"
  | .min => .builtin "min"
  | .max => .builtin "max"
  | .sum => .builtin "sum"
  | .int => .type "int"
  | .str => .type "str"
  | .list => .type "list"
  | .tuple => .type "tuple"
  | .sorted => .builtin "sorted"
  | .dict => .type "dict"
  | .minb => .builtin "min"
noncomputable def rL (K : PySem.W.Frag) (cl : Str → Option Addr) (f : List D → Hh → Option (D × Hh)) : List V → Hp → VK → Prop := fun vs H Q =>
  ∃ a ds Qd, a.H = H ∧ SR K cl a ∧ VRs K a ds vs ∧ bnd (f ds a.h) Qd ∧ KQ K cl a Qd Q

theorem foldl_max (xs : List Int) : ∀ x, xs.foldl max x ∈ x :: xs ∧ ∀ y ∈ x :: xs, y ≤ xs.foldl max x := by
  induction xs with
  | nil => intro x; simp
  | cons z zs ih =>
    intro x
    obtain ⟨h1, h2⟩ := ih (max x z)
    refine ⟨?_, fun y hy => ?_⟩
    · show zs.foldl max (max x z) ∈ _
      rcases List.mem_cons.mp h1 with e | e
      · rw [e]
        rcases Int.max_def x z ▸ (if h : x ≤ z then .inr (if_pos h) else .inl (if_neg h) : (if x ≤ z then z else x) = x ∨ (if x ≤ z then z else x) = z) with q | q <;> rw [q] <;> simp
      · exact List.mem_cons_of_mem _ (List.mem_cons_of_mem _ e)
    · show y ≤ zs.foldl max (max x z)
      have h0 := h2 (max x z) List.mem_cons_self
      rcases List.mem_cons.mp hy with e | e
      · have := Int.le_max_left x z; rw [e]; omega
      · rcases List.mem_cons.mp e with e | e
        · have := Int.le_max_right x z; rw [e]; omega
        · exact h2 y (List.mem_cons_of_mem _ e)
theorem foldl_min (xs : List Int) : ∀ x, xs.foldl min x ∈ x :: xs ∧ ∀ y ∈ x :: xs, xs.foldl min x ≤ y := by
  induction xs with
  | nil => intro x; simp
  | cons z zs ih =>
    intro x
    obtain ⟨h1, h2⟩ := ih (min x z)
    refine ⟨?_, fun y hy => ?_⟩
    · show zs.foldl min (min x z) ∈ _
      rcases List.mem_cons.mp h1 with e | e
      · rw [e]
        rcases Int.min_def x z ▸ (if h : x ≤ z then .inl (if_pos h) else .inr (if_neg h) : (if x ≤ z then x else z) = x ∨ (if x ≤ z then x else z) = z) with q | q <;> rw [q] <;> simp
      · exact List.mem_cons_of_mem _ (List.mem_cons_of_mem _ e)
    · show zs.foldl min (min x z) ≤ y
      have h0 := h2 (min x z) List.mem_cons_self
      rcases List.mem_cons.mp hy with e | e
      · have := Int.min_le_left x z; rw [e]; omega
      · rcases List.mem_cons.mp e with e | e
        · have := Int.min_le_right x z; rw [e]; omega
        · exact h2 y (List.mem_cons_of_mem _ e)
theorem isort_perm (ns : List Int) : (isort ns).Perm ns := List.mergeSort_perm ns _
theorem isort_sorted (ns : List Int) : (isort ns).Pairwise (· ≤ ·) := by
  have h : (isort ns).Pairwise (fun a b => (decide (a ≤ b)) = true) := by
    unfold isort
    first
      | exact List.pairwise_mergeSort (fun a b c h1 h2 => by simp only [decide_eq_true_eq] at *; omega) (fun a b => by simp only [Bool.or_eq_true, decide_eq_true_eq]; omega) ns
      | exact List.sorted_mergeSort (fun a b c h1 h2 => by simp only [decide_eq_true_eq] at *; omega) (fun a b => by simp only [Bool.or_eq_true, decide_eq_true_eq]; omega) ns
  exact h.imp fun h => of_decide_eq_true h
theorem leS_tr {a b c : Str} (h : leS a b = true) (k : leS b c = true) : leS a c = true := by
  unfold leS at *
  rw [decide_eq_true_eq] at *
  exact List.le_trans h k
theorem leS_as {a b : Str} (h : leS a b = true) (k : leS b a = true) : a = b := by
  unfold leS at *
  rw [decide_eq_true_eq] at *
  obtain ⟨⟨x⟩⟩ := a
  obtain ⟨⟨y⟩⟩ := b
  have : x = y := List.le_antisymm h k
  rw [this]
theorem leS_tot (a b : Str) : leS a b = true ∨ leS b a = true := by
  unfold leS
  rw [decide_eq_true_eq, decide_eq_true_eq]
  exact List.le_total _ _
theorem tsrt_perm (zs : List Str) : (tsrt zs).Perm zs := List.mergeSort_perm zs _
theorem tsrt_sorted (zs : List Str) : (tsrt zs).Pairwise (fun a b => leS a b = true) := by
  have h := List.pairwise_mergeSort (le := leS) (fun a b c h1 h2 => leS_tr h1 h2) (fun a b => by have := leS_tot a b; rcases this with h | h <;> rw [h] <;> simp) zs
  exact h
theorem risingS_pw : ∀ (zs : List Str) (p : Str), risingS p zs = true → (∀ y ∈ zs, leS p y = true) ∧ zs.Pairwise (fun a b => leS a b = true)
  | [], _, _ => ⟨(fun _ h => nomatch h), List.Pairwise.nil⟩
  | x :: r, p, h => by
    have h : (!ltCps x.cps.toList p.cps.toList && risingS x r) = true := h
    rw [Bool.and_eq_true, Bool.not_eq_true', ltCps_eq, decide_eq_false_iff_not, List.not_lt] at h
    obtain ⟨h1, h2⟩ := risingS_pw r x h.2
    have hp : leS p x = true := decide_eq_true h.1
    refine ⟨fun y hy => ?_, .cons h1 h2⟩
    rcases List.mem_cons.mp hy with rfl | hy
    · exact hp
    · exact leS_tr hp (h1 y hy)
theorem sortedS_pw {zs : List Str} (h : sortedS zs = true) : zs.Pairwise (fun a b => leS a b = true) := by
  cases zs with
  | nil => exact .nil
  | cons x r => obtain ⟨h1, h2⟩ := risingS_pw r x h; exact .cons h1 h2
theorem tsrt_uniq {ys zs : List Str} (p : ys.Perm zs) (h : sortedS ys = true) : ys = tsrt zs :=
  (p.trans (tsrt_perm zs).symm).eq_of_pairwise (fun a b _ _ => leS_as) (sortedS_pw h) (tsrt_sorted zs)
theorem natAbs_if (i : Int) : (if i < 0 then -i else i) = (i.natAbs : Int) := by split <;> omega
theorem max_if (i j : Int) : (if j > i then j else i) = max i j := by rw [Int.max_def]; split <;> split <;> omega
theorem min_if (i j : Int) : (if j < i then j else i) = min i j := by rw [Int.min_def]; split <;> split <;> omega
section
variable {X : Cx} {cl : Str → Option Addr}
theorem list_ints {K : PySem.W.Frag} {a : Pt} (sr : SR K cl a) {n : Nat} {ns : List Int} (e : ((lstOf a.h (.ref n)).bind intsOf) = some ns) : SqL K a.H (a.ρ n) (ns.map V.int) ∧ isList a.h n (ns.map D.int) := by
  obtain ⟨ds, h1, h2⟩ := Option.bind_eq_some_iff.mp e
  have g := intsOf_eq h2
  subst g
  have hl := lstOf_is h1
  obtain ⟨vs, g1, g2⟩ := sr.seq hl
  rw [g2.ints] at g1
  exact ⟨g1, hl⟩
theorem list_strs {K : PySem.W.Frag} {a : Pt} (sr : SR K cl a) {n : Nat} {ns : List Str} (e : ((lstOf a.h (.ref n)).bind strsOf) = some ns) : SqL K a.H (a.ρ n) (ns.map V.str) := by
  obtain ⟨ds, h1, h2⟩ := Option.bind_eq_some_iff.mp e
  have g := strsOf_eq h2
  subst g
  have hl := lstOf_is h1
  obtain ⟨vs, g1, g2⟩ := sr.seq hl
  rw [g2.strs] at g1
  exact g1
theorem blsOf_eq : ∀ {ds : List D} {bs : List Bool}, blsOf ds = some bs → ds = bs.map D.bl
  | [], bs, e => by cases e; rfl
  | d :: ds, bs, e => by
    unfold blsOf at e
    rw [List.mapM_cons] at e
    obtain ⟨b, e1, e2⟩ := Option.bind_eq_some_iff.mp e
    obtain ⟨cs, e3, e4⟩ := Option.bind_eq_some_iff.mp e2
    cases e4
    rw [blsOf_eq (bs := cs) e3, List.map_cons]
    cases d <;> first | (cases e1; rfl) | cases e1
theorem VRs.bls {K : PySem.W.Frag} {a : Pt} : ∀ {ns : List Bool} {vs : List V}, VRs K a (ns.map D.bl) vs → vs = ns.map V.bl
  | [], _, .nil => rfl
  | n :: ns, _, .cons r t => by cases r; rw [VRs.bls t]; rfl
theorem list_bls {K : PySem.W.Frag} {a : Pt} (sr : SR K cl a) {n : Nat} {ns : List Bool} (e : ((lstOf a.h (.ref n)).bind blsOf) = some ns) : SqL K a.H (a.ρ n) (ns.map V.bl) := by
  obtain ⟨ds, h1, h2⟩ := Option.bind_eq_some_iff.mp e
  have g := blsOf_eq h2
  subst g
  have hl := lstOf_is h1
  obtain ⟨vs, g1, g2⟩ := sr.seq hl
  rw [g2.bls] at g1
  exact g1
theorem hold_bls {h : Heap} : ∀ {bs : List Bool} {us : List Value}, Vals (bs.map V.bl) us → PySem.W.HoldAll h us bs
  | [], us, r => by
    rw [List.map_nil] at r
    cases r
    exact PySem.W.HoldAll.nil
  | b :: bs, us, r => by
    rw [List.map_cons] at r
    cases r with
    | cons r rs =>
      cases r
      exact PySem.W.HoldAll.cons ⟨_, .bool b⟩ (hold_bls rs)
theorem minOf_bool (b : Bool) (bs : List Bool) : PySem.W.minOf b bs = (b && bs.all id) := by
  unfold PySem.W.minOf
  induction bs generalizing b with
  | nil => simp
  | cons x xs ih =>
    rw [List.foldl_cons, ih, List.all_cons]
    show ((if (!x && b) = true then x else b) && _) = _
    cases x <;> cases b <;> rfl
theorem VRs.one {K : PySem.W.Frag} {a : Pt} {d : D} {vs : List V} (r : VRs K a [d] vs) : ∃ v, vs = [v] ∧ VR K a d v := by
  cases r with
  | cons r t => cases t; exact ⟨_, rfl, r⟩
theorem VRs.two {K : PySem.W.Frag} {a : Pt} {d e : D} {vs : List V} (r : VRs K a [d, e] vs) : ∃ v u, vs = [v, u] ∧ VR K a d v ∧ VR K a e u := by
  cases r with
  | cons r t =>
    obtain ⟨u, rfl, q⟩ := VRs.one t
    exact ⟨_, u, rfl, r, q⟩
theorem kvr_put {K : PySem.W.Frag} {a : Pt} {kvs : List (DKey × D)} {ws : List (DKey × V)} {k : DKey} {d : D} {v : V} (r : KVR K a kvs ws) (q : VR K a d v) : KVR K a (putD kvs k d) (L2.putK ws k v) := by
  have ha : ∀ {xs : List (DKey × D)} {ys : List (DKey × V)}, KVR K a xs ys → (xs.any fun kv => decide (kv.1 = k)) = ys.any fun kv => decide (kv.1 = k) := fun {xs ys} r => by
    induction r with
    | nil => rfl
    | cons h _ ih => rw [List.any_cons, List.any_cons, ih, h.1]
  unfold putD L2.putK
  rw [ha r]
  split
  · clear ha
    rename_i hx
    clear hx
    induction r with
    | nil => exact .nil
    | @cons p p' ps qs h t ih =>
      rw [List.map_cons, List.map_cons]
      refine .cons ?_ ih
      by_cases e : p.1 = k
      · rw [if_pos e, if_pos (h.1.symm.trans e)]
        exact ⟨h.1, q⟩
      · rw [if_neg e, if_neg fun z => e (h.1.trans z)]
        exact h
  · clear ha
    rename_i hx
    clear hx
    induction r with
    | nil => exact .cons ⟨rfl, q⟩ .nil
    | cons h t ih => exact .cons h ih
theorem kvr_merge {K : PySem.W.Frag} {a : Pt} : ∀ {ls : List (DKey × D)} {zs : List (DKey × V)} {kvs : List (DKey × D)} {ws : List (DKey × V)}, KVR K a ls zs → KVR K a kvs ws → KVR K a (mergeD kvs ls) (L2.mergeK ws zs)
  | [], _, _, _, .nil, r => r
  | p :: ls, q :: zs, kvs, ws, .cons h t, r => by
    have e : KVR K a (putD kvs p.1 p.2) (L2.putK ws q.1 q.2) := by rw [h.1]; exact kvr_put r h.2
    show KVR K a (mergeD (putD kvs p.1 p.2) ls) (L2.mergeK (L2.putK ws q.1 q.2) zs)
    exact kvr_merge t e
theorem VR.keyI {K : PySem.W.Frag} {a : Pt} {d : D} {v : V} {k : DKey} (r : VR K a d v) (e : keyOf d = some k) : v = kV k := by
  cases r with
  | int i => cases e; rfl
  | str x => cases e; rfl
  | _ => cases e
/-- pairs, to be put into a dict -/
theorem pairs_vr {K : PySem.W.Frag} {a : Pt} : ∀ {ds : List D} {kvs : List (DKey × D)} {vs : List V}, pairsOf ds = some kvs → VRs K a ds vs → ∃ (ps : List Addr) (ws : List (DKey × V)), vs = ps.map V.ref ∧ Paired (fun p kv => SqT K a.H p [kV kv.1, kv.2]) ps ws ∧ KVR K a kvs ws
  | [], kvs, vs, e, r => by
    cases r
    cases e
    exact ⟨[], [], rfl, .nil, .nil⟩
  | d :: ds, kvs, vs, e, r => by
    unfold pairsOf at e
    rw [List.mapM_cons] at e
    cases h1 : pairOf d with
    | none => rw [h1] at e; cases e
    | some kv =>
      rw [h1] at e
      cases h2 : ds.mapM pairOf with
      | none => rw [h2] at e; cases e
      | some kvs2 =>
        rw [h2] at e
        cases e
        cases r with
        | cons r1 r2 =>
          obtain ⟨ps, ws, q1, q2, q3⟩ := pairs_vr (show pairsOf ds = some kvs2 from h2) r2
          subst q1
          cases r1 with
          | @tup p us es t q =>
            cases q with
            | nil => cases h1
            | cons a1 q =>
              cases q with
              | nil => cases h1
              | cons a2 q =>
                cases q with
                | cons _ _ => cases h1
                | nil =>
                  obtain ⟨k, f1, f2⟩ := Option.map_eq_some_iff.mp h1
                  subst f2
                  have := a1.keyI f1
                  subst this
                  exact ⟨p :: ps, (k, _) :: ws, rfl, .cons t.sq q2, .cons ⟨rfl, a2⟩ q3⟩
          | _ => cases h1
theorem KQ.newDct {K : PySem.W.Frag} {a : Pt} {Qd : KD} {Q : VK} {kvs : List (DKey × D)} {ws : List (DKey × V)} (kq : KQ K cl a Qd Q) (sr : SR K cl a) (r : KVR K a kvs ws) (h : Qd (.ref a.h.length) (a.h ++ [.dct kvs])) : ∀ p, a.H p = none → Q (.ref p) (upd a.H p (.dK ws)) := fun p hp => by
  have l : a.Le (a.lay p (.dct kvs) (.dK ws)) := Pt.lay_le hp
  have := kq (a.lay p (.dct kvs) (.dK ws)) (.ref a.h.length) (.ref p) l (sr.lay hp ⟨ws, upd_same, KVR.mono l r⟩) ?_ h
  · exact this
  · have := VR.ref (K := K) (a := a.lay p (.dct kvs) (.dK ws)) (n := a.h.length) (by show _ < (a.h ++ [_]).length; simp)
    rwa [Pt.lay_at] at this
theorem call_B (b : B) (hc : X.calm = true) (hu : X.A.units + 64 < cLine) : CallR X b.val (rL X.K cl (bltD b)) := by
  intro pins s σ H xs us Q I rs ⟨a, ds, Qd, eH, sr, r, hb, kq⟩
  subst eH
  obtain ⟨d, h', e, hq⟩ := bndE1 hb
  unfold bltD at e
  split at e
  · -- len
    rename_i x
    obtain ⟨v, rfl, rv⟩ := r.one
    obtain ⟨n, e1, e2⟩ := Option.map_eq_some_iff.mp e
    cases e2
    have go : LenV X.K v a.H n → wpAny (model X.prog X.w) X.A (call B.len.val us) (EP X pins σ Q) X.xe s := fun lv => L2.call_len pins s σ _ _ us Q I rs ⟨v, n, rfl, lv, kq.same sr (.int _) hq⟩
    cases rv with
    | tup t q =>
      cases e1
      exact go (.inr ⟨_, t.sq, q.length⟩)
    | str z =>
      have e1 : (if line z.length then some z.length else none) = some n := e1
      split at e1
      · rename_i hl; cases e1; exact go ⟨line_le hl, rfl⟩
      · cases e1
    | ref hn =>
      rename_i m
      have e1 : (match a.h[m]? with
        | some (.lst ds) => some ds.length
        | some (.fro ds) => some ds.length
        | some (.dct kvs) => some kvs.length
        | _ => none) = some n := e1
      split at e1
      · rename_i ds q
        cases e1
        obtain ⟨vs, h1, h2⟩ := sr.seq (.inl q)
        exact go (.inl ⟨vs, h1, h2.length⟩)
      · rename_i ds q
        cases e1
        obtain ⟨vs, h1, h2⟩ := sr.seq (.inr q)
        exact go (.inl ⟨vs, h1, h2.length⟩)
      · rename_i ds q
        cases e1
        obtain ⟨vs, h1, h2⟩ := sr.obj m _ q
        refine L2.call_lenD pins s σ _ _ us Q I rs ⟨_, vs, rfl, h1, ?_⟩
        rw [← Paired.length h2]
        exact kq.same sr (.int _) hq
      · cases e1
    | _ => cases e1
  · -- abs
    obtain ⟨v, rfl, rv⟩ := r.one
    cases rv
    cases e
    exact L2.call_abs pins s σ _ _ us Q I rs ⟨_, rfl, by rw [natAbs_if]; exact kq.same sr (.int _) hq⟩
  · obtain ⟨v, u, rfl, rv, ru⟩ := r.two
    cases rv; cases ru; cases e
    exact L2.call_min2 hc pins s σ _ _ us Q I rs ⟨_, _, rfl, by rw [min_if]; exact kq.same sr (.int _) hq⟩
  · obtain ⟨v, u, rfl, rv, ru⟩ := r.two
    cases rv; cases ru; cases e
    exact L2.call_max2 hc pins s σ _ _ us Q I rs ⟨_, _, rfl, by rw [max_if]; exact kq.same sr (.int _) hq⟩
  · -- min of a list
    obtain ⟨v, rfl, rv⟩ := r.one
    cases rv
    obtain ⟨ns, e1, e2⟩ := Option.bind_eq_some_iff.mp e
    obtain ⟨m, e3, e4⟩ := Option.map_eq_some_iff.mp e2
    cases e4
    obtain ⟨g1, _⟩ := list_ints sr e1
    cases ns with
    | nil => cases e3
    | cons x ns =>
      cases e3
      obtain ⟨f1, f2⟩ := foldl_min ns x
      refine L2.cr_min hc pins s σ _ _ us Q I rs ⟨_, x :: ns, rfl, g1, by simp, fun k hk hy => ?_⟩
      have : k = ns.foldl min x := Int.le_antisymm (hy _ f1) (f2 k hk)
      rw [this]
      exact kq.same sr (.int _) hq
  · obtain ⟨v, rfl, rv⟩ := r.one
    cases rv
    obtain ⟨ns, e1, e2⟩ := Option.bind_eq_some_iff.mp e
    obtain ⟨m, e3, e4⟩ := Option.map_eq_some_iff.mp e2
    cases e4
    obtain ⟨g1, _⟩ := list_ints sr e1
    cases ns with
    | nil => cases e3
    | cons x ns =>
      cases e3
      obtain ⟨f1, f2⟩ := foldl_max ns x
      refine L2.cr_max hc pins s σ _ _ us Q I rs ⟨_, x :: ns, rfl, g1, by simp, fun k hk hy => ?_⟩
      have : k = ns.foldl max x := Int.le_antisymm (f2 k hk) (hy _ f1)
      rw [this]
      exact kq.same sr (.int _) hq
  · obtain ⟨v, rfl, rv⟩ := r.one
    cases rv
    obtain ⟨ns, e1, e2⟩ := Option.map_eq_some_iff.mp e
    cases e2
    obtain ⟨g1, _⟩ := list_ints sr e1
    exact L2.cr_sum hc pins s σ _ _ us Q I rs ⟨_, ns, rfl, g1, kq.same sr (.int _) hq⟩
  · obtain ⟨v, rfl, rv⟩ := r.one
    cases rv; cases e
    exact L2.call_int1 pins s σ _ _ us Q I rs (.inl ⟨_, rfl, kq.same sr (.int _) hq⟩)
  · obtain ⟨v, rfl, rv⟩ := r.one
    cases rv; cases e
    exact L2.call_int1 pins s σ _ _ us Q I rs (.inr ⟨_, rfl, kq.same sr (.int _) hq⟩)
  · obtain ⟨v, rfl, rv⟩ := r.one
    cases rv
    rename_i x
    by_cases hl : x.length ≤ 640
    · rw [if_pos hl] at e
      obtain ⟨n, e1, e2⟩ := Option.map_eq_some_iff.mp e
      cases e2
      exact L2.call_int_str pins s σ _ _ us Q I rs ⟨x, n, rfl, e1, hl, kq.same sr (.int _) hq⟩
    · rw [if_neg hl] at e; cases e
  · -- str of a tuple
    rename_i ds'
    obtain ⟨v, rfl, rv⟩ := r.one
    cases e0 : intsOf ds' with
    | none => rw [e0] at e; cases e
    | some ns =>
      rw [e0] at e
      have e : (if (decide (ns.length ≤ 1000) && ns.all fun n => decide (0 ≤ n) && decide (n < 1000000)) = true then some (D.utx, a.h) else none) = some (d, h') := e
      split at e
      · rename_i hc
        cases e
        rw [Bool.and_eq_true, decide_eq_true_eq, List.all_eq_true] at hc
        obtain rfl := intsOf_eq e0
        cases rv with
        | tup t q =>
          have hs := t.sq
          rw [q.ints] at hs
          exact call_str_tup hu pins s σ _ _ us Q I rs ⟨_, ns, rfl, hs, hc.1, fun n hn => by
            have := hc.2 n hn
            rw [Bool.and_eq_true, decide_eq_true_eq, decide_eq_true_eq] at this
            exact this, fun m hm => kq.same sr (.utx m hm) hq⟩
      · cases e
  · obtain ⟨v, rfl, rv⟩ := r.one
    cases rv
    rename_i i
    by_cases hl : i.natAbs.log2 < 1920
    · rw [if_pos hl] at e
      cases e
      exact L2.call_str_int pins s σ _ _ us Q I rs ⟨i, rfl, hl, kq.same sr (.str _) hq⟩
    · rw [if_neg hl] at e; cases e
  · obtain ⟨v, rfl, rv⟩ := r.one
    obtain ⟨ds, e1, e2⟩ := Option.map_eq_some_iff.mp e
    cases e2
    obtain ⟨p, vs, rfl, g1, g2⟩ := seqOf_cases sr rv e1
    exact L2.call_list_of pins s σ _ _ us Q I rs ⟨p, vs, rfl, g2, kq.newList sr g1 hq⟩
  · obtain ⟨v, rfl, rv⟩ := r.one
    obtain ⟨ds, e1, e2⟩ := Option.map_eq_some_iff.mp e
    cases e2
    obtain ⟨p, vs, rfl, g1, g2⟩ := seqOf_cases sr rv e1
    refine L2.call_tuple_of pins s σ _ _ us Q I rs ⟨p, vs, rfl, ?_⟩
    rcases g2 with g2 | g2
    · exact .inl ⟨g2, kq.newTup sr g1 hq⟩
    · refine .inr ⟨g2, ?_⟩
      cases rv with
      | tup t q => cases e1; exact kq.same sr (.tup t q) hq
      | ref hn =>
        rename_i n
        exfalso
        obtain ⟨vs2, g3, _⟩ := sr.seq (n := n) (lstOf_is (by unfold seqOf at e1; exact e1))
        obtain ⟨_, _, p1, _⟩ := I.list g3
        obtain ⟨_, _, ⟨ob, ho, hc2, _⟩, _⟩ := I.tuple g2
        obtain ⟨o1, n1, ho1, hc1, _⟩ := p1
        rw [ho] at ho1
        cases ho1
        rw [hc2] at hc1
        injection hc1 with q
        exact absurd q (by decide)
  · obtain ⟨v, rfl, rv⟩ := r.one
    cases rv
    obtain ⟨ns, e1, e2⟩ := Option.map_eq_some_iff.mp e
    cases e2
    obtain ⟨g1, _⟩ := list_ints sr e1
    refine L2.cr_sortedI pins s σ _ _ us Q I rs ⟨_, ns, rfl, g1, fun ns' p hp hs hn => ?_⟩
    have : ns' = isort ns := PySem.W.ksm_same (hp.trans (isort_perm ns).symm) hs (isort_sorted ns)
    rw [this]
    exact kq.newList sr (VRs.of_ints _) hq p hn
  · obtain ⟨v, rfl, rv⟩ := r.one
    cases rv
    rename_i n hn
    obtain ⟨o, e1, e2⟩ := Option.map_eq_some_iff.mp e
    cases e2
    unfold dictO at e1
    split at e1
    · rename_i kvs em
      cases e1
      obtain ⟨ws, g1, g2⟩ := sr.obj n _ em
      exact L2.call_dictD pins s σ _ _ us Q I rs ⟨_, ws, rfl, .inl g1, kq.newDct sr g2 hq⟩
    · rename_i ds em
      obtain ⟨kvs, e3, e4⟩ := Option.map_eq_some_iff.mp e1
      cases e4
      obtain ⟨vs, g1, g2⟩ := sr.obj n _ em
      obtain ⟨ps, ws, q1, q2, q3⟩ := pairs_vr e3 g2
      subst q1
      exact L2.call_dictP hc pins s σ _ _ us Q I rs ⟨_, ps, ws, rfl, SqL.of g1, q2, kq.newDct sr (kvr_merge q3 .nil) hq⟩
    · cases e1
  · -- min of truth values
    obtain ⟨v, rfl, rv⟩ := r.one
    cases rv
    obtain ⟨bs, e1, e2⟩ := Option.bind_eq_some_iff.mp e
    obtain ⟨m, e3, e4⟩ := Option.map_eq_some_iff.mp e2
    cases e4
    have g1 := list_bls sr e1
    cases bs with
    | nil => cases e3
    | cons x bs =>
      cases e3
      obtain ⟨its, rvs, hl, _⟩ := I.list g1
      rw [Vals.ref1 rs]
      refine PySem.W.min_list_datum (I.ok.hd hc) hl.isList (hold_bls (bs := x :: bs) (by simpa using rvs)) (by show X.A.units + 1 + 0 < cLine; omega) fun i v h' tk _ hv hk => ?_
      obtain ⟨as, hv⟩ := hv
      rw [minOf_bool] at hv
      cases hv
      exact ⟨.bl _, a.H, I.kept hk, rfl, kq.same sr (.bl _) hq⟩
  · cases e

/-! ### isinstance -/
theorem ty_of {K : PySem.W.Frag} {a : Pt} (sr : SR K cl a) {d : D} {v : V} {t : String} (r : VR K a d v) (e : tyD a.h d = some t) : TyX K a.H v (.type t) := by
  cases r with
  | non => cases e; exact .base .non
  | bl b => cases e; exact .base (.bl b)
  | int i => cases e; exact .base (.int i)
  | str x => cases e; exact .base (.str x)
  | utx x _ => cases e; exact .base (.str x)
  | tup t q =>
    cases e
    rcases t with t | ⟨ob, its, m, h1, h2, _⟩
    · exact .base (.tup t)
    · exact .kTuple h1 h2
  | ref hn =>
    rename_i n
    have e : (match a.h[n]? with
      | some (.lst _) => some "list"
      | some (.fro _) => some "list"
      | some (.dct _) => some "dict"
      | _ => none) = some t := e
    split at e
    · rename_i ds q
      cases e
      obtain ⟨vs, h1, _⟩ := sr.obj n _ q
      exact .base (.lst h1)
    · rename_i ds q
      cases e
      obtain ⟨vs, h1, _⟩ := sr.obj n _ q
      rcases h1 with ⟨ob, h1⟩ | ⟨ob, its, m, h1, h2, _⟩
      · exact .base (.frz h1)
      · exact .kList h1 h2
    · rename_i ds q
      cases e
      obtain ⟨vs, h1, _⟩ := sr.obj n _ q
      exact .base (.dK h1)
    · cases e
theorem tyD_mem {h : Hh} {d : D} {t : String} (e : tyD h d = some t) : t ∈ ["NoneType", "bool", "int", "str", "tuple", "list", "dict"] := by
  cases d with
  | ref n =>
    have e : (match h[n]? with
      | some (.lst _) => some "list"
      | some (.fro _) => some "list"
      | some (.dct _) => some "dict"
      | _ => none) = some t := e
    split at e <;> first | (cases e; simp) | cases e
  | _ => cases e; simp
theorem isi_table : ∀ t ∈ ["NoneType", "bool", "int", "str", "tuple", "list", "dict"], ∀ c ∈ [Ty.int, .bool, .str, .list, .tuple, .dict], L2.kitB t c.name = some (isiD t c) := by decide +kernel
theorem isi_kit {t : String} (h : t ∈ ["NoneType", "bool", "int", "str", "tuple", "list", "dict"]) (c : Ty) : L2.kitB t c.name = some (isiD t c) :=
  isi_table t h c (by cases c <;> simp)

/-! ### methods -/
noncomputable def M.T : M → String
  | .append => "list"
  | .extend => "list"
  | .pop => "list"
  | .insert => "list"
  | .clear => "list"
  | .index => "list"
  | .count => "list"
  | .get => "dict"
  | .update => "dict"
  | .dclear => "dict"
  | .split => "str"
  | .upper => "str"
  | .join => "str"
noncomputable def rMe (K : PySem.W.Frag) (cl : Str → Option Addr) (m : M) : V → List V → Hp → VK → Prop := fun x vs H Q =>
  ∃ a d ds Qd, a.H = H ∧ SR K cl a ∧ VR K a d x ∧ VRs K a ds vs ∧ bnd (metD m d ds a.h) Qd ∧ KQ K cl a Qd Q
theorem kind_of {K : PySem.W.Frag} {a : Pt} (sr : SR K cl a) {m : M} {d : D} {x : V} (r : VR K a d x) (h : metK m d a.h = true) : L2.tyV K m.T x a.H := by
  have lst : ∀ {n : Nat}, isLst a.h n = true → ∃ xs, SqL K a.H (a.ρ n) xs := fun {n} q => by
    unfold isLst at q
    split at q
    · rename_i ds e; obtain ⟨vs, h1, _⟩ := sr.seq (.inl e); exact ⟨vs, h1⟩
    · rename_i ds e; obtain ⟨vs, h1, _⟩ := sr.seq (.inr e); exact ⟨vs, h1⟩
    · cases q
  have dct : ∀ {n : Nat}, isDct a.h n = true → ∃ kvs, a.H (a.ρ n) = some (.dK kvs) := fun {n} q => by
    unfold isDct at q
    split at q
    · rename_i ds e; obtain ⟨vs, h1, _⟩ := sr.obj n _ e; exact ⟨vs, h1⟩
    · cases q
  cases m <;> cases r <;> first | exact rfl | exact .inl ⟨rfl, lst h⟩ | exact .inr (.inr (.inl ⟨rfl, .inl (dct h)⟩)) | cases h
theorem valD_getD {K : PySem.W.Frag} {a : Pt} {kvs : List (DKey × D)} {ws : List (DKey × V)} {k : DKey} {e : D} {u : V} (r : KVR K a kvs ws) (q : VR K a e u) : VR K a ((valD kvs k).getD e) ((L2.valV ws k).getD u) := by
  cases h : valD kvs k with
  | some d => obtain ⟨v, h1, h2⟩ := valD_some r h; rw [h1]; exact h2
  | none =>
    have := valD_isSome (k := k) r
    rw [h] at this
    cases h2 : L2.valV ws k with
    | some v => rw [h2] at this; cases this
    | none => exact q
theorem dget_of {K : PySem.W.Frag} {a : Pt} (sr : SR K cl a) {n : Nat} {k e d : D} {v u : V} (hd : dgetD a.h[n]? k e = some d) (rk : VR K a k v) (re : VR K a e u) : (v = .non ∧ d = e ∧ ∃ ws, Rd a.H (a.ρ n) (.dK ws)) ∨ ∃ o, DGet a.H (a.ρ n) v o ∧ VR K a d (o.getD u) := by
  unfold dgetD at hd
  split at hd
  · rename_i kvs em
    obtain ⟨ws, g1, g2⟩ := sr.obj n _ em
    split at hd
    · cases hd
      cases rk
      exact .inl ⟨rfl, rfl, ws, .inl g1⟩
    · obtain ⟨k1, e3, e4⟩ := Option.map_eq_some_iff.mp hd
      exact .inr ⟨L2.valV ws k1, .inl ⟨ws, k1, .inl g1, keyOf_of rk e3, rfl⟩, by rw [← e4]; exact valD_getD g2 re⟩
  · cases hd
theorem d_getN1 {pins : List (Addr × PySem.Obj)} {σ : L2.St} {H : Hp} {s : Shared} {p : Addr} {kvs : List (Key × V)} {R : Value → Shared → Prop} {A : Around} {E : Value → Shared → Prop} (I : Inv X pins σ H s) (e : Rd H p (.dK kvs)) (k : ∀ s', Inv X pins σ H s' → R .none s') :
    wpAny (model X.prog X.w) A (call (.builtin "dict.get") [.ref p, .none]) R E s := by
  obtain ⟨z, hd, vs, rel, dd⟩ := dk_rd I.hok e
  obtain ⟨f, hm, hf⟩ := none_map dd
  exact call_meetsIn PySem.F.slot_dict_get dd.typeIs PySem.F.entry_dict_get (PySem.F.args_dict_get_2 _ _) (meets_dict_get (noneKind X.prog X.w) (k := none) p rfl hd) ⟨f, hm, by rw [hf]; exact k _ (I.tok _)⟩
theorem d_getN2 {pins : List (Addr × PySem.Obj)} {σ : L2.St} {H : Hp} {s : Shared} {p : Addr} {kvs : List (Key × V)} {r : Value} {R : Value → Shared → Prop} {A : Around} {E : Value → Shared → Prop} (I : Inv X pins σ H s) (e : Rd H p (.dK kvs)) (k : ∀ s', Inv X pins σ H s' → R r s') :
    wpAny (model X.prog X.w) A (call (.builtin "dict.get") [.ref p, .none, r]) R E s := by
  obtain ⟨z, hd, vs, rel, dd⟩ := dk_rd I.hok e
  obtain ⟨f, hm, hf⟩ := none_map dd
  exact call_meetsIn PySem.F.slot_dict_get dd.typeIs PySem.F.entry_dict_get (PySem.F.args_dict_get_3 _ _ _) (meets_dict_get_default (noneKind X.prog X.w) (k := none) p rfl hd r) ⟨f, hm, by rw [hf]; exact k _ (I.tok _)⟩
theorem met_get (hu : X.A.units + 1 < cLine) : MtR X "dict.get" (rMe X.K cl .get) := by
  intro pins s σ H x xs v us Q I rx rs ⟨a, d, ds, Qd, eH, sr, r, rr, hb, kq⟩
  subst eH
  cases r with
  | ref hn =>
    rename_i n
    obtain rfl : v = Value.ref (a.ρ n) := rx
    cases rr with
    | nil => exact hb.elim
    | cons r1 rt =>
      cases rt with
      | nil =>
        rename_i k v1
        obtain ⟨d, h', e, hq⟩ := bndE1 (show bnd ((dgetD a.h[n]? k .non).map fun d => (d, a.h)) Qd from hb)
        obtain ⟨d1, e1, e2⟩ := Option.map_eq_some_iff.mp e
        cases e2
        obtain ⟨u1, rfl, ru⟩ := vals1 rs
        rcases dget_of sr e1 r1 .non with ⟨rfl, rfl, ws, g⟩ | ⟨o, g, rd⟩
        · obtain rfl : u1 = Value.none := ru
          exact d_getN1 I g fun s' I' => ⟨.non, _, I', rfl, kq.same sr .non hq⟩
        · exact L2.d_get1 hu I g ru fun w' s' I' rw' => ⟨_, _, I', rw', kq.same sr rd hq⟩
      | cons r2 rt2 =>
        cases rt2 with
        | cons _ _ => exact hb.elim
        | nil =>
          rename_i k v1 e0 v2
          obtain ⟨d, h', e, hq⟩ := bndE1 (show bnd ((dgetD a.h[n]? k e0).map fun d => (d, a.h)) Qd from hb)
          obtain ⟨d1, e1, e2⟩ := Option.map_eq_some_iff.mp e
          cases e2
          obtain ⟨u1, u2, rfl, ru, ru2⟩ := vals2 rs
          rcases dget_of sr e1 r1 r2 with ⟨rfl, rfl, ws, g⟩ | ⟨o, g, rd⟩
          · obtain rfl : u1 = Value.none := ru
            exact d_getN2 I g fun s' I' => ⟨_, _, I', ru2, kq.same sr r2 hq⟩
          · exact L2.d_get2 hu I g ru ru2 fun w' s' I' rw' => ⟨_, _, I', rw', kq.same sr rd hq⟩
  | _ => exact hb.elim
theorem upd_dict {pins : List (Addr × PySem.Obj)} {σ : L2.St} {H : Hp} {s : Shared} {p o : Addr} {xs ys : List (DKey × V)} {R : Value → Shared → Prop} (I : Inv X pins σ H s) (e1 : H p = some (.dK xs)) (e2 : H o = some (.dK ys)) (ne : p ≠ o) (hl : xs.length + ys.length ≤ sizeLine)
    (k : ∀ s', Inv X pins σ (upd H p (.dK (L2.mergeK xs ys))) s' → R .none s') : wpAny (model X.prog X.w) X.A (call (.builtin "dict.update") [.ref p, .ref o]) R X.xe s := by
  obtain ⟨_, lo1, vs, rel, dd⟩ := dk_of I.hok e1
  obtain ⟨_, lo2, us, rel2, dd2⟩ := dk_of I.hok e2
  refine call_meetsIn PySem.F.slot_dict_update dd.typeIs PySem.F.entry_dict_update (PySem.F.args_dict_update_2 _ _) (meets_dict_update (mixKind X.prog X.w) p o ne lo2) ⟨vs, us, dd, dd2, by rw [← rel.length, ← rel2.length]; exact hl, fun h' nw _ sb => k _ ?_⟩
  have some1 : ∃ q, h'.get? p = some q := let ⟨q, _, _, hq, _⟩ := nw; ⟨q, hq⟩
  exact d_write (t' := s.toks) I (by rw [e1]; exact True.intro) sb some1 (dk_new (Nat.le_trans (length_mergeK ys xs) hl) lo1 (KV.merge rel2 rel) nw)
/-- what stands behind d.update(e) -/
theorem met_update : MtR X "dict.update" (rMe X.K cl .update) := by
  intro pins s σ H x xs v us Q I rx rs ⟨a, d, ds, Qd, eH, sr, r, rr, hb, kq⟩
  subst eH
  cases r with
  | ref hn =>
    rename_i n
    obtain rfl : v = Value.ref (a.ρ n) := rx
    cases rr with
    | nil => exact hb.elim
    | cons r1 rt =>
      cases rt with
      | cons _ _ => cases r1 <;> exact hb.elim
      | nil =>
        cases r1 with
        | ref hm =>
          rename_i m
          obtain ⟨d1, h1, e1, hq⟩ := bndE1 (show bnd ((updO n m a.h[n]? a.h[m]?).map fun o => (.non, a.h.set n o)) Qd from hb)
          obtain ⟨o, e2, e3⟩ := Option.map_eq_some_iff.mp e1
          cases e3
          unfold updO at e2
          split at e2
          · rename_i kvs ls en em
            by_cases hnm : n = m
            · rw [if_pos hnm] at e2; cases e2
            · rw [if_neg hnm] at e2
              split at e2
              · rename_i hl
                cases e2
                obtain ⟨ws, g1, g2⟩ := sr.obj n _ en
                obtain ⟨zs, g3, g4⟩ := sr.obj m _ em
                obtain ⟨u, rfl, ru⟩ := vals1 rs
                obtain rfl : u = Value.ref (a.ρ m) := ru
                have hne : a.ρ n ≠ a.ρ m := fun z => hnm (sr.inj n m _ _ en em rfl rfl z)
                have l : a.Le (a.put n (.dct (mergeD kvs ls)) (.dK (L2.mergeK ws zs))) := Pt.put_le sr en
                refine upd_dict I g1 g3 hne (by rw [← Paired.length g2, ← Paired.length g4]; exact line_le hl) fun s' J => ⟨.non, _, J, rfl, ?_⟩
                exact kq (a.put n (.dct (mergeD kvs ls)) (.dK (L2.mergeK ws zs))) .non .non l (sr.put en ⟨_, upd_same, KVR.mono l (kvr_merge g4 g2)⟩) .non hq
              · cases e2
          · cases e2
        | _ => exact hb.elim
  | _ => exact hb.elim
theorem met_dclear : MtR X "dict.clear" (rMe X.K cl .dclear) := by
  intro pins s σ H x xs v us Q I rx rs ⟨a, d, ds, Qd, eH, sr, r, rr, hb, kq⟩
  subst eH
  cases r with
  | ref hn =>
    rename_i n
    obtain rfl : v = Value.ref (a.ρ n) := rx
    cases rr with
    | cons r1 rt => cases r1 <;> exact hb.elim
    | nil =>
      have hb : bnd (match a.h[n]? with
        | some (.dct _) => some (.non, a.h.set n (.dct []))
        | _ => none) Qd := hb
      split at hb
      · rename_i kvs en
        obtain ⟨ws, g1, g2⟩ := sr.obj n _ en
        have hus := rs.zero
        subst hus
        have l : a.Le (a.put n (.dct []) (.dK [])) := Pt.put_le sr en
        exact L2.d_clear I g1 fun s' J => ⟨.non, _, J, rfl, kq (a.put n (.dct []) (.dK [])) .non .non l (sr.put en ⟨_, upd_same, .nil⟩) .non hb⟩
      · exact hb.elim
  | _ => exact hb.elim
theorem met_append : MtR X "list.append" (rMe X.K cl .append) := by
  intro pins s σ H x xs v us Q I rx rs ⟨a, d, ds, Qd, eH, sr, r, rr, hb, kq⟩
  subst eH
  cases r with
  | ref hn =>
    rename_i n
    cases rr with
    | nil => exact hb.elim
    | cons r1 rt =>
      cases rt with
      | cons _ _ => exact hb.elim
      | nil =>
        rename_i d1 v1
        have hb : bnd (match a.h[n]? with
          | some (.lst xs) => if decide (xs.length < sizeLine) then some (.non, a.h.set n (.lst (xs ++ [d1]))) else none
          | _ => none) Qd := hb
        split at hb
        · rename_i xs e
          obtain ⟨h1, h2⟩ := bnd_ite hb
          obtain ⟨vs, g1, g2⟩ := sr.obj n _ e
          refine L2.mt_append pins s σ _ _ _ v us Q I rx rs ⟨_, vs, v1, rfl, rfl, g1, by rw [← g2.length]; exact of_decide_eq_true h1, ?_⟩
          exact kq.put sr e (g2.append (.cons r1 .nil)) .non h2
        · exact hb.elim
  | _ => exact hb.elim
theorem met_extend : MtR X "list.extend" (rMe X.K cl .extend) := by
  intro pins s σ H x xs v us Q I rx rs ⟨a, d, ds, Qd, eH, sr, r, rr, hb, kq⟩
  subst eH
  cases r with
  | ref hn =>
    rename_i n
    cases rr with
    | nil => exact hb.elim
    | cons r1 rt =>
      cases rt with
      | cons _ _ => cases r1 <;> exact hb.elim
      | nil =>
        cases r1 with
        | ref hm =>
          rename_i m
          have hb : bnd (match a.h[n]?, a.h[m]? with
            | some (.lst xs), some (.lst ys) => if line (xs.length + ys.length) then some (.non, a.h.set n (.lst (xs ++ ys))) else none
            | _, _ => none) Qd := hb
          split at hb
          · rename_i xs ys e e2
            obtain ⟨h1, h2⟩ := bnd_ite hb
            obtain ⟨vs, g1, g2⟩ := sr.obj n _ e
            obtain ⟨ws, g3, g4⟩ := sr.obj m _ e2
            refine L2.mt_extend pins s σ _ _ _ v us Q I rx rs ⟨_, _, vs, ws, rfl, rfl, g1, g3, by rw [← g2.length, ← g4.length]; exact line_le h1, ?_⟩
            exact kq.put sr e (g2.append g4) .non h2
          · exact hb.elim
        | _ => exact hb.elim
  | _ => exact hb.elim
theorem VRs.dropLast {K : PySem.W.Frag} {a : Pt} {ds : List D} {vs : List V} (r : VRs K a ds vs) : VRs K a ds.dropLast vs.dropLast := by
  rw [List.dropLast_eq_take, List.dropLast_eq_take, r.length]
  exact r.take _
theorem VRs.eraseIdx {K : PySem.W.Frag} {a : Pt} {ds : List D} {vs : List V} (n : Nat) (r : VRs K a ds vs) : VRs K a (ds.eraseIdx n) (vs.eraseIdx n) := by
  rw [List.eraseIdx_eq_take_drop_succ, List.eraseIdx_eq_take_drop_succ]
  exact (r.take _).append (r.drop _)
theorem met_pop0 : ∀ (pins : List (Addr × PySem.Obj)) (s : Shared) (σ : L2.St) (x : V) (v : Value) (Q : VK) (a : Pt) (d : D) (Qd : KD), Inv X pins σ a.H s → RelV x v → SR X.K cl a → VR X.K a d x → bnd (metD .pop d [] a.h) Qd → KQ X.K cl a Qd Q →
    wpAny (model X.prog X.w) X.A (call (.builtin "list.pop") [v]) (EP X pins σ Q) X.xe s := by
  intro pins s σ x v Q a d Qd I rx sr r hb kq
  cases r with
  | ref hn =>
    rename_i n
    have hb : bnd (match a.h[n]? with
      | some (.lst xs) => (xs[xs.length - 1]?).map fun d => (d, a.h.set n (.lst xs.dropLast))
      | _ => none) Qd := hb
    split at hb
    · rename_i xs e
      obtain ⟨d1, h1, e1, hq⟩ := bndE1 hb
      obtain ⟨d2, e2, e3⟩ := Option.map_eq_some_iff.mp e1
      cases e3
      obtain ⟨vs, g1, g2⟩ := sr.obj n _ e
      obtain ⟨w, g3, g4⟩ := g2.get e2
      refine L2.mt_pop pins s σ _ _ [] v [] Q I rx .nil ⟨_, vs, w, rfl, rfl, g1, by rw [← g2.length]; exact g3, ?_⟩
      exact kq.put sr e g2.dropLast g4 hq
    · exact hb.elim
  | _ => exact hb.elim
theorem met_pop : MtR X "list.pop" (rMe X.K cl .pop) := by
  intro pins s σ H x xs v us Q I rx rs ⟨a, d, ds, Qd, eH, sr, r, rr, hb, kq⟩
  subst eH
  cases rr with
  | nil => cases rs; exact met_pop0 pins s σ x v Q a d Qd I rx sr r hb kq
  | cons r1 rt =>
    cases r with
    | ref hn =>
      rename_i n
      cases rt with
      | cons _ _ => cases r1 <;> exact hb.elim
      | nil =>
        cases r1 with
        | int i =>
          have hb : bnd (match a.h[n]? with
            | some (.lst xs) => if decide (0 ≤ i) && decide (i < 2 ^ 63) then (xs[i.toNat]?).map fun d => (d, a.h.set n (.lst (xs.eraseIdx i.toNat))) else none
            | _ => none) Qd := hb
          split at hb
          · rename_i xs e
            by_cases hi : (decide (0 ≤ i) && decide (i < 2 ^ 63)) = true
            · rw [if_pos hi] at hb
              simp only [Bool.and_eq_true, decide_eq_true_eq] at hi
              obtain ⟨d1, h1, e1, hq⟩ := bndE1 hb
              obtain ⟨d2, e2, e3⟩ := Option.map_eq_some_iff.mp e1
              cases e3
              obtain ⟨vs, g1, g2⟩ := sr.obj n _ e
              obtain ⟨w, g3, g4⟩ := g2.get e2
              have hlt : i.toNat < vs.length := (List.getElem?_eq_some_iff.mp g3).1
              refine L2.mt_popAt pins s σ _ _ _ v us Q I rx rs ⟨_, vs, i, i.toNat, w, rfl, rfl, g1, by omega, hi.2, ?_, g3, ?_⟩
              · unfold seqIndex?
                simp only [show ¬ i < 0 by omega, if_false]
                rw [if_pos (by simp; omega)]
              · exact kq.put sr e (g2.eraseIdx _) g4 hq
            · rw [if_neg hi] at hb; exact hb.elim
          · exact hb.elim
        | _ => exact hb.elim
    | _ => cases r1 <;> exact hb.elim
theorem met_insert : MtR X "list.insert" (rMe X.K cl .insert) := by
  intro pins s σ H x xs v us Q I rx rs ⟨a, d, ds, Qd, eH, sr, r, rr, hb, kq⟩
  subst eH
  cases r with
  | ref hn =>
    rename_i n
    cases rr with
    | nil => exact hb.elim
    | cons r1 rt =>
      cases rt with
      | nil => cases r1 <;> exact hb.elim
      | cons r2 r3 =>
        cases r3 with
        | cons _ _ => cases r1 <;> exact hb.elim
        | nil =>
          rename_i d2 v2
          cases r1 with
          | int i =>
            have hb : bnd (match a.h[n]? with
              | some (.lst xs) => if decide (xs.length < sizeLine) && (decide (0 ≤ i) && decide (i < 2 ^ 63)) then some (.non, a.h.set n (.lst (xs.take i.toNat ++ [d2] ++ xs.drop i.toNat))) else none
              | _ => none) Qd := hb
            split at hb
            · rename_i xs e
              obtain ⟨h1, h2⟩ := bnd_ite hb
              simp only [Bool.and_eq_true, decide_eq_true_eq] at h1
              obtain ⟨vs, g1, g2⟩ := sr.obj n _ e
              refine L2.mt_insert pins s σ _ _ _ v us Q I rx rs ⟨_, vs, i, v2, rfl, rfl, g1, by rw [← g2.length]; exact h1.1, h1.2.1, h1.2.2, ?_⟩
              exact kq.put sr e (((g2.take _).append (.cons r2 .nil)).append (g2.drop _)) .non h2
            · exact hb.elim
          | _ => exact hb.elim
  | _ => exact hb.elim
theorem countU {y : V} : ∀ {ys : List V} {us : List Value}, Vals ys us → ys.all L2.flatV = true → us.countP (L2.eqU y) = ys.countP fun z => L2.eqV z y
  | _, _, .nil, _ => rfl
  | z :: ys, u :: us, .cons r t, f => by
    rw [List.all_cons, Bool.and_eq_true] at f
    rw [List.countP_cons, List.countP_cons, countU t f.2, L2.eqU_of r f.1]
theorem mt_count {X : Cx} : MtR X "list.count" (fun x xs H Q => ∃ (a : Addr) (ys : List V) (y : V), x = V.ref a ∧ xs = [y] ∧ SqL X.K H a ys ∧ L2.flatV y = true ∧ ys.all L2.flatV = true ∧ Q (.int ((ys.countP fun z => L2.eqV z y : Nat) : Int)) H) := by
  intro pins s σ H x xs v us Q I rx rxs h
  obtain ⟨a, ys, y, rfl, rfl, hs, fy, fys, q⟩ := h
  cases rx
  cases rxs with
  | cons ry rt =>
    rename_i uy ut
    cases rt
    obtain ⟨its, rv, ⟨⟨cls, dd, data, sl⟩, n, ho, hc, hdn, hd⟩, hlen⟩ := I.list hs
    simp only at hc hd
    subst hc hd
    refine call_meets PySem.F.slot_list_count ⟨_, ho, rfl⟩ PySem.F.entry_list_count (PySem.F.args_list_count_2 _ _)
      (SeqAt.list_countAt a its.toArray n dd sl uy (L2.eqU y)) ⟨ho, fun u' hu' => L2.mem_eqAt ry fy rv fys u' (by simpa using hu'), ?_⟩
    have ec : its.toArray.toList.countP (L2.eqU y) = ys.countP fun z => L2.eqV z y := countU rv fys
    refine ⟨.int ((ys.countP fun z => L2.eqV z y : Nat) : Int), H, I.tok _, ⟨s.toks, ?_⟩, q⟩
    show Value.int ((its.toArray.toList.countP (L2.eqU y) : Nat) : Int) s.toks = Value.int ((ys.countP fun z => L2.eqV z y : Nat) : Int) s.toks
    rw [ec]
theorem countF {K : PySem.W.Frag} {a : Pt} {dx : D} {vx : V} (r1 : VR K a dx vx) (f1 : flatD dx = true) : ∀ {ds : List D} {vs : List V}, VRs K a ds vs → ds.all flatD = true → (vs.countP fun z => L2.eqV z vx) = ds.countP fun y => eqF y dx
  | _, _, .nil, _ => rfl
  | d :: ds, v :: vs, .cons r t, f => by
    rw [List.all_cons, Bool.and_eq_true] at f
    rw [List.countP_cons, List.countP_cons, countF r1 f1 t f.2, eqF_of r r1 f.1 f1]
theorem met_count : MtR X "list.count" (rMe X.K cl .count) := by
  intro pins s σ H x xs v us Q I rx rs ⟨a, d, ds, Qd, eH, sr, r, rr, hb, kq⟩
  subst eH
  cases r with
  | ref hn =>
    rename_i n
    cases rr with
    | nil => exact hb.elim
    | cons r1 rt =>
      cases rt with
      | cons _ _ => exact hb.elim
      | nil =>
        rename_i dx vx
        have hb : bnd (match a.h[n]? with
          | some (.lst xs) => if flatD dx && xs.all flatD then some (.int (xs.countP fun y => eqF y dx : Nat), a.h) else none
          | _ => none) Qd := hb
        split at hb
        · rename_i ys e
          by_cases hf : (flatD dx && ys.all flatD) = true
          · rw [if_pos hf] at hb
            rw [Bool.and_eq_true] at hf
            obtain ⟨vs, g1, g2⟩ := sr.obj n _ e
            refine mt_count pins s σ _ _ _ v us Q I rx rs ⟨_, vs, vx, rfl, rfl, SqL.of g1, flat_of r1 hf.1, flats_of g2 hf.2, ?_⟩
            rw [countF r1 hf.1 g2 hf.2]
            exact kq.same sr (.int _) hb
          · rw [if_neg hf] at hb; exact hb.elim
        · exact hb.elim
  | _ => exact hb.elim
theorem met_index : MtR X "list.index" (rMe X.K cl .index) := by
  intro pins s σ H x xs v us Q I rx rs ⟨a, d, ds, Qd, eH, sr, r, rr, hb, kq⟩
  subst eH
  cases r with
  | ref hn =>
    rename_i n
    cases rr with
    | nil => exact hb.elim
    | cons r1 rt =>
      cases rt with
      | cons _ _ => exact hb.elim
      | nil =>
        rename_i dx vx
        have hb : bnd (match a.h[n]? with
          | some (.lst xs) => if flatD dx && xs.all flatD then (xs.findIdx? fun y => eqF y dx).map fun (i : Nat) => (.int (i : Nat), a.h) else none
          | _ => none) Qd := hb
        split at hb
        · rename_i ys e
          by_cases hf : (flatD dx && ys.all flatD) = true
          · rw [if_pos hf] at hb
            rw [Bool.and_eq_true] at hf
            obtain ⟨d1, h1, e1, hq⟩ := bndE1 hb
            obtain ⟨j, e2, e3⟩ := Option.map_eq_some_iff.mp e1
            cases e3
            obtain ⟨vs, g1, g2⟩ := sr.obj n _ e
            rw [List.findIdx?_eq_some_iff_getElem] at e2
            obtain ⟨hj, hjt, hjf⟩ := e2
            obtain ⟨w, g3, g4⟩ := g2.get (List.getElem?_eq_getElem hj)
            refine L2.mt_index pins s σ _ _ _ v us Q I rx rs ⟨_, vs, vx, j, w, rfl, rfl, SqL.of g1, flat_of r1 hf.1, flats_of g2 hf.2, g3, ?_, fun m z' hm hz => ?_, kq.same sr (.int _) hq⟩
            · rw [eqF_of g4 r1 (List.all_eq_true.mp hf.2 _ (List.getElem_mem hj)) hf.1]; exact hjt
            · have hm2 : m < ys.length := by omega
              obtain ⟨w', k1, k2⟩ := g2.get (List.getElem?_eq_getElem hm2)
              rw [k1] at hz
              cases hz
              rw [eqF_of k2 r1 (List.all_eq_true.mp hf.2 _ (List.getElem_mem hm2)) hf.1]
              exact Bool.eq_false_iff.mpr (by simpa using hjf m hm)
          · rw [if_neg hf] at hb; exact hb.elim
        · exact hb.elim
  | _ => exact hb.elim
theorem met_clear : MtR X "list.clear" (rMe X.K cl .clear) := by
  intro pins s σ H x xs v us Q I rx rs ⟨a, d, ds, Qd, eH, sr, r, rr, hb, kq⟩
  subst eH
  cases r with
  | ref hn =>
    rename_i n
    cases rr with
    | cons r1 rt => cases r1 <;> exact hb.elim
    | nil =>
      have hb : bnd (match a.h[n]? with
        | some (.lst _) => some (.non, a.h.set n (.lst []))
        | _ => none) Qd := hb
      split at hb
      · rename_i xs e
        obtain ⟨vs, g1, g2⟩ := sr.obj n _ e
        refine L2.mt_clear pins s σ _ _ _ v us Q I rx rs ⟨_, vs, rfl, rfl, g1, ?_⟩
        exact kq.put sr e .nil .non hb
      · exact hb.elim
  | _ => exact hb.elim
theorem met_join : MtR X "str.join" (rMe X.K cl .join) := by
  intro pins s σ H x xs v us Q I rx rs ⟨a, d, ds, Qd, eH, sr, r, rr, hb, kq⟩
  subst eH
  cases r with
  | str z =>
    cases rr with
    | nil => exact hb.elim
    | cons r1 rt =>
      cases rt with
      | cons _ _ => cases r1 <;> exact hb.elim
      | nil =>
        cases r1 with
        | ref hn =>
          rename_i n
          obtain ⟨d1, h1, e1, hq⟩ := bndE1 hb
          obtain ⟨ns, e2, e3⟩ := Option.bind_eq_some_iff.mp (show (((lstOf a.h (.ref n)).bind strsOf).bind fun xs =>
            if Nat.ble ((xs.map fun x => x.length).sum + xs.length * z.length) 16777216 then some (.str (Txt.join z xs), a.h) else none) = some (d1, h1) from e1)
          split at e3
          · rename_i hl
            cases e3
            exact L2.mt_join pins s σ _ _ _ v us Q I rx rs ⟨z, _, ns, rfl, rfl, .inl (list_strs sr e2), Nat.le_of_ble_eq_true hl, kq.same sr (.str _) hq⟩
          · cases e3
        | _ => exact hb.elim
  | _ => exact hb.elim
theorem met_upper : MtR X "str.upper" (rMe X.K cl .upper) := by
  intro pins s σ H x xs v us Q I rx rs ⟨a, d, ds, Qd, eH, sr, r, rr, hb, kq⟩
  subst eH
  cases r with
  | str z =>
    cases rr with
    | nil =>
      obtain ⟨h3, h4⟩ := bnd_ite hb
      exact L2.mt_upper pins s σ _ _ _ v us Q I rx rs ⟨z, rfl, rfl, of_decide_eq_true h3, kq.same sr (.str _) h4⟩
    | cons r1 rt => cases r1 <;> exact hb.elim
  | _ => exact hb.elim
theorem met_split : MtR X "str.split" (rMe X.K cl .split) := by
  intro pins s σ H x xs v us Q I rx rs ⟨a, d, ds, Qd, eH, sr, r, rr, hb, kq⟩
  subst eH
  cases r with
  | str z =>
    cases rr with
    | nil => exact hb.elim
    | cons r1 rt =>
      cases rt with
      | cons _ _ => cases r1 <;> exact hb.elim
      | nil =>
        cases r1 with
        | str y =>
          obtain ⟨h1, h2⟩ := bnd_ite hb
          simp only [Bool.and_eq_true, Bool.not_eq_true'] at h1
          exact L2.mt_split pins s σ _ _ _ v us Q I rx rs ⟨z, y, rfl, rfl, h1.1, line_le h1.2, kq.newList sr (VRs.of_strs _) h2⟩
        | _ => exact hb.elim
  | _ => exact hb.elim

/-! ### o[i] = v -/
noncomputable def rSt (K : PySem.W.Frag) (cl : Str → Option Addr) : TSet := fun o i v H Q =>
  ∃ (a : Pt) (dO di dv : D) (Qd : Hh → Prop), a.H = H ∧ SR K cl a ∧ VR K a dO o ∧ VR K a di i ∧ VR K a dv v ∧ bndH (setD dO di dv a.h) Qd ∧ ∀ b : Pt, a.Le b → SR K cl b → Qd b.h → Q b.H
theorem set_all (hu : X.A.units + 64 < cLine) : PSet X (rSt X.K cl) := by
  intro pins s σ H o i v ov iv u Q I ro ri rv ⟨a, dO, di, dv, Qd, eH, sr, r1, r2, r3, hb, kq⟩
  subst eH
  cases r1 with
  | ref hn =>
    rename_i n
    have hb : bndH (match a.h[n]? with
      | some (.lst xs) => (match (generalizing := false) di with
        | .int k => (L2.ixN xs.length k).map fun j => a.h.set n (.lst (xs.set j dv))
        | _ => none)
      | some (.dct kvs) => (keyOf di).bind fun k => if kvs.length < sizeLine then some (a.h.set n (.dct (putD kvs k dv))) else none
      | _ => none) Qd := hb
    split at hb
    · rename_i xs e
      cases r2 with
      | int k =>
        cases hj : L2.ixN xs.length k with
        | none => simp only [hj] at hb; exact hb.elim
        | some j =>
          simp only [hj] at hb
          have hb : Qd (a.h.set n (.lst (xs.set j dv))) := hb
          obtain ⟨vs, g1, g2⟩ := sr.obj n _ e
          have l : a.Le (a.put n (.lst (xs.set j dv)) (.lst (vs.set j v))) := Pt.put_le sr e
          exact L2.set_list pins s σ _ _ _ _ ov iv u Q I ro ri rv ⟨_, vs, k, j, rfl, rfl, g1, by rw [← g2.length]; exact hj,
            kq (a.put n (.lst (xs.set j dv)) (.lst (vs.set j v))) l (sr.put e ⟨_, upd_same, ((g2.set j r3).mono l)⟩) hb⟩
      | _ => exact hb.elim
    · rename_i kvs e
      cases hk : keyOf di with
      | none => rw [hk] at hb; exact hb.elim
      | some k =>
        rw [hk] at hb
        have hb : bndH (if kvs.length < sizeLine then some (a.h.set n (.dct (putD kvs k dv))) else none) Qd := hb
        by_cases hl : kvs.length < sizeLine
        · rw [if_pos hl] at hb
          obtain ⟨ws, g1, g2⟩ := sr.obj n _ e
          have l : a.Le (a.put n (.dct (putD kvs k dv)) (.dK (L2.putK ws k v))) := Pt.put_le sr e
          have hlen : ws.length < sizeLine := by rw [← Paired.length g2]; exact hl
          exact L2.set_dict (by omega) pins s σ _ _ _ _ ov iv u Q I ro ri rv ⟨_, _, rfl, .inl ⟨ws, k, g1, keyOf_of r2 hk, hlen, rfl⟩,
            kq (a.put n (.dct (putD kvs k dv)) (.dK (L2.putK ws k v))) l (sr.put e ⟨_, upd_same, KVR.mono l (kvr_put g2 r3)⟩) hb⟩
        · rw [if_neg hl] at hb; exact hb.elim
    · exact hb.elim
  | _ => exact hb.elim
end
end Z

set_option Elab.async false
set_option linter.all false
set_option maxRecDepth 100000
/-! Z, part F: which piece of the text a piece of the small syntax stands for (a check by computation). -/
namespace Z
open PySem PySem.Spec PyProof.Rows L2

/-- the names of the text -/
structure Nm where
  fn : List Str
  con : List Str
  /-- the refusals made with a text alone; the caught ones -/
  exs : List Str
  cat : List Str
  /-- the refusals with fields; the classes asked for; the fields read -/
  exi : List (Str × List Str)
  tst : List Str
  fld : List Str
  /-- the methods, in their order: class, name; the classes that things are made of -/
  mth : List (Str × Str)
  mks : List Str
  /-- the classes of things asked for -/
  tsi : List Str
  /-- the defs whose refusals are raised where nothing is handled; whether such a one is looked at -/
  cl : List Str
  cold : Bool
noncomputable def plainH : Expr → Bool
  | .Constant .. => true
  | .Name .. => true
  | .BinOp .. => true
  | .Compare .. => true
  | .BoolOp .. => true
  | .UnaryOp .. => true
  | .Subscript .. => true
  | .Attribute .. => true
  | .List .. => true
  | .Tuple .. => true
  | .Call .. => true
  | .ListComp .. => true
  | .Dict .. => true
  | .JoinedStr .. => true
  | _ => false
/-- not [..] for .. -/
noncomputable def noComp : Expr → Bool
  | .ListComp .. => false
  | .SetComp .. => false
  | .DictComp .. => false
  | _ => true
/-- what may stand ahead of .name( -/
noncomputable def recvOk : Expr → Bool
  | .Call _ [] [] _ => false
  | e => plainH e
noncomputable def dbg (x : Str) : Bool := x == ("__debug__" : Str)
noncomputable def dcl (x : Str) : Bool := x == ("__classdict__" : Str)
noncomputable def isSlot (N : List Str) (sc : Scope) (x : Str) (i : Nat) : Bool :=
  decide (N[i]? = some x) && !dbg x && !dcl x && (match sc.names.lookup x with
    | some .local => true
    | some .cell => true
    | some .free => true
    | _ => false)
noncomputable def isLoc (N : List Str) (sc : Scope) (x : Str) (i : Nat) : Bool :=
  decide (N[i]? = some x) && (match sc.names.lookup x with
    | some .local => true
    | some .cell => true
    | _ => false)
noncomputable def isGl (sc : Scope) (x : Str) : Bool := !dbg x && decide (sc.names.lookup x = some .globalImplicit)
noncomputable def B.nm : B → Str
  | .len => "len"
  | .abs => "abs"
  | .min => "min"
  | .max => "max"
  | .sum => "sum"
  | .int => "int"
  | .str => "str"
  | .list => "list"
  | .tuple => "tuple"
  | .sorted => "sorted"
  | .dict => "dict"
  | .minb => "min"
noncomputable def Ty.nm : Ty → Str
  | .int => "int"
  | .bool => "bool"
  | .str => "str"
  | .list => "list"
  | .tuple => "tuple"
  | .dict => "dict"
noncomputable def M.nm : M → Str
  | .append => "append"
  | .extend => "extend"
  | .pop => "pop"
  | .insert => "insert"
  | .clear => "clear"
  | .index => "index"
  | .count => "count"
  | .get => "get"
  | .update => "update"
  | .dclear => "clear"
  | .split => "split"
  | .upper => "upper"
  | .join => "join"
noncomputable def tgNames (N : List Str) (sc : Scope) : List Nat → List Expr → Bool
  | [], [] => true
  | i :: is, .Name x _ :: es => isLoc N sc x i && tgNames N sc is es
  | _, _ => false
noncomputable def okTg (N : List Str) (sc : Scope) : Tg → Expr → Bool
  | .nm i, .Name x _ => isLoc N sc x i
  | .tp is, .Tuple es _ _ => tgNames N sc is es
  | _, _ => false
noncomputable def isTup : Expr → Bool
  | .Tuple .. => true
  | _ => false
noncomputable def tgIn : Tg → List Nat → Bool
  | .nm i, vs => vs.contains i
  | .tp is, vs => is.all fun i => vs.contains i
structure Ck where
  e : Scope → Expr → Bool
  a : Scope → List Expr → Bool
  /-- by the target -/
  i : Scope → Expr → Expr → Bool
  p : Scope → Option Expr → Bool
noncomputable def ofCk (f : Scope → Expr → Bool) : Ck where
  e := f
  a _ _ := false
  i sc _ e := f sc e
  p sc o := match o with
    | some e => f sc e
    | none => false
noncomputable def itCk (f : Scope → Expr → Expr → Bool) : Ck where
  e _ _ := false
  a _ _ := false
  i := f
  p _ _ := false
noncomputable def setNo : Expr → Bool
  | .Set .. => false
  | _ => true
/-- f(z) -/
noncomputable def oneS (f : Str) (sc : Scope) (e : Expr) : Option Expr := match e with
  | .Call (.Name x _) [z] [] _ => if decide (x = f) && isGl sc x && plainH z then some z else none
  | _ => none
/-- f(z.values()) -/
noncomputable def valS (f : Str) (sc : Scope) (e : Expr) : Option Expr := match e with
  | .Call (.Name x _) [.Call (.Attribute z m ap) [] [] mp] [] _ => if decide (x = f) && isGl sc x && decide (m = "values") && (ap.endLine == mp.line) && recvOk z then some z else none
  | _ => none
/-- f(z.items()) -/
noncomputable def itmS (f : Str) (sc : Scope) (e : Expr) : Option Expr := match e with
  | .Call (.Name x _) [.Call (.Attribute z m ap) [] [] mp] [] _ => if decide (x = f) && isGl sc x && decide (m = "items") && (ap.endLine == mp.line) && recvOk z then some z else none
  | _ => none
/-- the one thing within -/
noncomputable def unS (u : U) (sc : Scope) (e : Expr) : Option Expr := match u with
  | .sset => match e with
    | .Call (.Name x _) [.Call (.Name y _) [z] [] _] [] _ => if decide (x = "sorted") && isGl sc x && decide (y = "set") && isGl sc y && plainH z then some z else none
    | _ => none
  | .rev => match e with
    | .Subscript z (.Slice none none (some (.UnaryOp .USub (.Constant (.int 1) _ _) _)) _) _ => some z
    | _ => none
  | .vsum => valS "sum" sc e
  | .vlst => valS "list" sc e
  | .klst => oneS "list" sc e
  | .ilst => itmS "list" sc e
  | .tset => match e with
    | .Call (.Name x _) [.Call (.Name y _) [z] [] _] [] _ => if decide (x = "sorted") && isGl sc x && decide (y = "set") && isGl sc y && plainH z then some z else none
    | _ => none
  | .ksrt => oneS "sorted" sc e
  | .lset => match e with
    | .Call (.Name x _) [.Call (.Name y _) [z] [] _] [] _ => if decide (x = "len") && isGl sc x && decide (y = "set") && isGl sc y && plainH z then some z else none
    | _ => none
  | .ssrt => match e with
    | .Call (.Name x _) [.Call (.Name y _) [z] [] _] [] _ => if decide (x = "sorted") && isGl sc x && decide (y = "set") && isGl sc y && plainH z then some z else none
    | _ => none
  | .lrev => match e with
    | .Call (.Name x _) [.Call (.Name y _) [z] [] _] [] _ => if decide (x = "list") && isGl sc x && decide (y = "reversed") && isGl sc y && plainH z then some z else none
    | _ => none
variable (nm : Nm) (N : List Str)
noncomputable def clsC (sc : Scope) (c : Str) (e : Expr) : Bool := match e with
  | .Name z _ => decide (z = c) && isGl sc z && (nm.tst.contains z || decide (z = "ValueError"))
  | _ => false
noncomputable def clsCs (sc : Scope) : List Str → List Expr → Bool
  | [], [] => true
  | c :: cs, e :: es => clsC nm sc c e && clsCs sc cs es
  | _, _ => false
noncomputable def isxC (sc : Scope) (cs : List Str) (e : Expr) : Bool := match e with
  | .Tuple es _ _ => clsCs nm sc cs es && decide (es.length < 100)
  | _ => match cs with
    | [c] => clsC nm sc c e
    | _ => false
/-- a part of an f-string -/
noncomputable def fpC (sc : Scope) (p : Fp) (e : Expr) : Bool := match p with
  | .lit x => match e with
    | .Constant (.str y) _ _ => decide (x = y)
    | _ => false
  | .v i => match e with
    | .FormattedValue (.Name x _) (-1) none _ => isSlot N sc x i
    | _ => false
  | .fld i f => match e with
    | .FormattedValue (.Attribute (.Name x _) g _) (-1) none _ => isSlot N sc x i && decide (g = f) && nm.fld.contains f
    | _ => false
noncomputable def fpsC (sc : Scope) : List Fp → List Expr → Bool
  | [], [] => true
  | p :: ps, e :: es => fpC nm N sc p e && fpsC sc ps es
  | _, _ => false
noncomputable def ck : E → Ck
  | .v i => ofCk fun sc e => match e with
    | .Name x _ => isSlot N sc x i
    | _ => false
  | .gc k => ofCk fun sc e => match e with
    | .Name x _ => decide (nm.con[k]? = some x) && isGl sc x
    | _ => false
  | .ci n => ofCk fun _ e => match e with
    | .Constant (.int m) _ _ => decide (n = m)
    | _ => false
  | .cb b => ofCk fun _ e => match e with
    | .Constant (.bool c) _ _ => b == c
    | _ => false
  | .cn => ofCk fun _ e => match e with
    | .Constant .none _ _ => true
    | _ => false
  | .cs x => ofCk fun _ e => match e with
    | .Constant (.str y) _ _ => decide (x = y)
    | _ => false
  | .bin op a b => ofCk fun sc e => match e with
    | .BinOp a' op' b' _ => decide (op = op') && (ck a).e sc a' && (ck b).e sc b'
    | _ => false
  | .cmp op a b => ofCk fun sc e => match e with
    | .Compare a' [op'] [b'] _ => decide (op = op') && (ck a).e sc a' && (ck b).e sc b' && !behindInMarks op' b'
    | _ => false
  | .chn op1 op2 a b c => ofCk fun sc e => match e with
    | .Compare a' [op1', op2'] [b', c'] _ => decide (op1 = op1') && decide (op2 = op2') && (ck a).e sc a' && (ck b).e sc b' && (ck c).e sc c' && !lastMarks [op1', op2'] [b', c']
    | _ => false
  | .and a b => ofCk fun sc e => match e with
    | .BoolOp .And (x :: y :: r) pos => (ck a).e sc x && (match r with
      | [] => (ck b).e sc y
      | _ => (ck b).e sc (.BoolOp .And (y :: r) pos))
    | _ => false
  | .or a b => ofCk fun sc e => match e with
    | .BoolOp .Or (x :: y :: r) pos => (ck a).e sc x && (match r with
      | [] => (ck b).e sc y
      | _ => (ck b).e sc (.BoolOp .Or (y :: r) pos))
    | _ => false
  | .not a => ofCk fun sc e => match e with
    | .UnaryOp .Not a' _ => (ck a).e sc a'
    | _ => false
  | .neg a => ofCk fun sc e => match e with
    | .UnaryOp .USub a' _ => (ck a).e sc a'
    | _ => false
  | .ix a b => ofCk fun sc e => match e with
    | .Subscript a' b' _ => (ck a).e sc a' && (ck b).e sc b' && plainH b'
    | _ => false
  | .sl a lo hi => ofCk fun sc e => match e with
    | .Subscript a' (.Slice lo' hi' none _) _ => (ck a).e sc a' && (ck lo).p sc lo' && (ck hi).p sc hi'
    | _ => false
  | .sls a lo st => ofCk fun sc e => match e with
    | .Subscript a' (.Slice (some lo') none (some st') _) _ => (ck a).e sc a' && (ck lo).e sc lo' && (ck st).e sc st'
    | _ => false
  | .lst es => ofCk fun sc e => match e with
    | .List es' _ => (ck es).a sc es'
    | _ => false
  | .tup es => ofCk fun sc e => match e with
    | .Tuple es' _ _ => (ck es).a sc es'
    | _ => false
  | .nil => { ofCk (fun _ _ => false) with a := fun _ es => es.isEmpty, p := fun _ o => o.isNone }
  | .cons e es => { ofCk (fun _ _ => false) with a := fun sc l => match l with
    | x :: xs => plainH x && (ck e).e sc x && (ck es).a sc xs
    | [] => false }
  | .call f es => ofCk fun sc e => match e with
    | .Call (.Name x _) (y :: ys) [] _ => !nm.cold && decide (nm.fn[f]? = some x) && isGl sc x && (ck es).a sc (y :: ys)
    | _ => false
  | .cald f es => ofCk fun sc e => match e with
    | .Call (.Name x _) (y :: ys) [] _ => !nm.cold && decide (nm.fn[f]? = some x) && isGl sc x && (ck es).a sc (y :: ys)
    | _ => false
  | .blt b es => ofCk fun sc e => match e with
    | .Call (.Name x _) (y :: ys) [] _ => decide (x = b.nm) && isGl sc x && (ck es).a sc (y :: ys)
    | _ => false
  | .isi a t => ofCk fun sc e => match e with
    | .Call (.Name x _) [y, .Name z _] [] _ => decide (x = "isinstance") && isGl sc x && plainH y && (ck a).e sc y && decide (z = t.nm) && isGl sc z
    | _ => false
  | .isx a cs => ofCk fun sc e => match e with
    | .Call (.Name x _) [y, z] [] _ => decide (x = "isinstance") && isGl sc x && plainH y && (ck a).e sc y && isxC nm sc cs z
    | _ => false
  | .isk a t => ofCk fun sc e => match e with
    | .Call (.Name x _) [y, .Name z _] [] _ => decide (x = "isinstance") && isGl sc x && plainH y && (ck a).e sc y && decide (z = t) && isGl sc z && nm.tsi.contains t
    | _ => false
  | .fld a f => ofCk fun sc e => match e with
    | .Attribute a' g _ => recvOk a' && (ck a).e sc a' && decide (g = f) && nm.fld.contains f
    | _ => false
  | .un u a => ofCk fun sc e => match unS u sc e with
    | some z => (ck a).e sc z
    | none => false
  | .dnew => ofCk fun _ e => match e with
    | .Dict [] [] _ => true
    | _ => false
  | .d1 a b => ofCk fun sc e => match e with
    | .Dict [some k] [v] _ => (ck a).e sc k && (ck b).e sc v
    | _ => false
  | .d2 a b c d => ofCk fun sc e => match e with
    | .Dict [some k, some k2] [v, v2] _ => (ck a).e sc k && (ck b).e sc v && (ck c).e sc k2 && (ck d).e sc v2
    | _ => false
  | .dzip l a b => ofCk fun sc e => match e with
    | .Call (.Name x _) [.Call (.Name x' _) [y, z] [] _] [] _ => decide (x = if l = true then "list" else "dict") && isGl sc x && decide (x' = "zip") && isGl sc x' && plainH y && plainH z && (ck a).e sc y && (ck b).e sc z
    | _ => false
  | .met o m es => ofCk fun sc e => match e with
    | .Call (.Attribute o' x ap) ys [] cp => decide (x = m.nm) && (ap.endLine == cp.line) && recvOk o' && (ck o).e sc o' && decide (ys.length < 20) && (ck es).a sc ys
    | _ => false
  | .nev => ofCk fun _ e => noComp e && plainH e
  | .fs ps => ofCk fun sc e => match e with
    | .JoinedStr (a :: b :: r) _ => fpsC nm N sc ps (a :: b :: r)
    | _ => false
  | .mk c es => ofCk fun sc e => match e with
    | .Call (.Name x _) ys [] _ => !nm.cold && decide (x = c) && isGl sc x && nm.mks.contains c && (ck es).a sc ys
    | _ => false
  | .cm o m es => ofCk fun sc e => match e with
    | .Call (.Attribute o' x ap) ys [] cp => !nm.cold && decide (x = m) && (ap.endLine == cp.line) && recvOk o' && (ck o).e sc o' && decide (ys.length < 20) && (ck es).a sc ys
    | _ => false
  | .cpr elt tg it cond own => ofCk fun sc e => match e with
    | .ListComp elt' [⟨tg', it', ifs, 0⟩] scope _ => okTg N scope tg tg' && (ck it).i sc tg' it' && (ck elt).e scope elt' && setNo it' &&
        (match ifs with
          | [] => isNil cond
          | [c'] => !isNil cond && (ck cond).e scope c'
          | _ => false) && tgIn tg own &&
        blkC N sc scope (own.map fun i => (N.getD i "", i))
    | _ => false
  | .lkd _ c => ofCk fun sc e => match e with
    | .ListComp .. => (ck c).e sc e
    | _ => false
  | .idct k a => itCk fun sc tg e => match k with
    | .keys => (ck a).e sc e
    | .keysM => match e with
      | .Call (.Attribute z m ap) [] [] mp => decide (m = "keys") && (ap.endLine == mp.line) && recvOk z && (ck a).e sc z
      | _ => false
    | .vals => match e with
      | .Call (.Attribute z m ap) [] [] mp => decide (m = "values") && (ap.endLine == mp.line) && recvOk z && (ck a).e sc z
      | _ => false
    | .items => match e with
      | .Call (.Attribute z m ap) [] [] mp => decide (m = "items") && (ap.endLine == mp.line) && recvOk z && (ck a).e sc z && isTup tg
      | _ => false
  | .irange a => itCk fun sc _ e => match e with
    | .Call (.Name x _) [y] [] _ => decide (x = "range") && isGl sc x && plainH y && (ck a).e sc y
    | _ => false
  | .irange2 a b => itCk fun sc _ e => match e with
    | .Call (.Name x _) [y, z] [] _ => decide (x = "range") && isGl sc x && plainH y && (ck a).e sc y && plainH z && (ck b).e sc z
    | _ => false
  | .irange3 a b d => itCk fun sc _ e => match e with
    | .Call (.Name x _) [y, z, w] [] _ => decide (x = "range") && isGl sc x && plainH y && (ck a).e sc y && plainH z && (ck b).e sc z && plainH w && (ck d).e sc w
    | _ => false
  | .ienum a => itCk fun sc tg e => match e with
    | .Call (.Name x _) [y] [] _ => decide (x = "enumerate") && isGl sc x && plainH y && (ck a).e sc y && isTup tg
    | _ => false
  | .izip a b => itCk fun sc tg e => match e with
    | .Call (.Name x _) [y, z] [] _ => decide (x = "zip") && isGl sc x && plainH y && plainH z && (ck a).e sc y && (ck b).e sc z && isTup tg
    | _ => false
  | .irev a => itCk fun sc tg e => match e with
    | .Call (.Name x _) [y] [] _ => decide (x = "reversed") && isGl sc x && plainH y && (ck a).e sc y
    | _ => false
  | .irevr a => itCk fun sc _ e => match e with
    | .Call (.Name x _) [.Call (.Name x' _) [y] [] _] [] _ => decide (x = "reversed") && isGl sc x && decide (x' = "range") && isGl sc x' && plainH y && (ck a).e sc y
    | _ => false
end Z

set_option Elab.async false
set_option linter.all false
set_option maxRecDepth 100000
/-! Z, part G: the small syntax's meaning is the text's (expressions). -/
namespace Z
open PySem PySem.Spec PyProof.Rows L2

/-- what stays through a law -/
structure Stat where
  P : Program
  w : World
  K : PySem.W.Frag
  mg : Str → Option Value
  base : Heap
  cl : Str → Option Addr
  pg : Pg
  nm : Nm
variable (S : Stat)
/-- what a def promises: what the plain run says -/
noncomputable def spF (n f : Nat) : Sp := fun vs H Q E => ∃ a ds Qd Xd, a.H = H ∧ SR S.K S.cl a ∧ VRs S.K a ds vs ∧ S.pg.run n f ds a.h Qd Xd ∧ KQ S.K S.cl a Qd Q ∧ KXQ S.K S.cl a Xd E
/-- the __init__ of a refusal with fields: they stand in its dict, the last one first -/
noncomputable def spIni (C : Addr) (fs : List Str) : Sp := fun vs H Q _ => ∃ a ws, vs = .ref a :: ws ∧ ws.length = fs.length ∧ H a = some (exo a C none) ∧
  ∀ d, H d = none → d ≠ a → Q .non (upd (upd H d (exd d (fs.zip ws).reverse)) a (exo a C (some d)))
structure FnAt (n f : Nat) : Prop where
  ok : ∃ x fa fd ps, S.nm.fn[f]? = some x ∧ dbg x = false ∧ S.mg x = some (.ref fa) ∧ PySem.W.keepIn S.K (.ref fa) = true ∧ Binds S.K fd ps [] ∧
    FnOk S.P S.w S.K S.mg S.base (L2.CX S.P S.w) (2 * n + 2) fa fd ps (spF S n f) ∧ (∀ i, (S.pg.fns[f]?).bind (·.dfl) = some i → ∃ t, Binds S.K fd ps [.int i t]) ∧
    (x ∈ S.nm.cl → FnOk S.P S.w S.K S.mg S.base (L2N.CX S.P S.w) (2 * n + 2) fa fd ps (spF S n f))
/-- a class's method, the f-th def -/
structure MthAt (n f : Nat) (c m : Str) : Prop where
  ok : ∃ C fa fd ps, S.cl c = some C ∧ L2.Cls S.K C ∧ L2.Meth S.K C m fa ∧ Binds S.K fd ps [] ∧ FnOk S.P S.w S.K S.mg S.base (L2.CX S.P S.w) (2 * n + 2) fa fd ps (spF S n f)
/-- a class that things are made of -/
structure MksAt (c : Str) : Prop where
  ok : ∃ C, S.cl c = some C ∧ dbg c = false ∧ S.mg c = some (.ref C) ∧ L2.Cls S.K C ∧ PySem.W.makesIn S.K C = true ∧ PySem.W.keepIn S.K (.ref C) = true
structure ConAt (k : Nat) (d : D) : Prop where
  ok : ∃ x u v, S.nm.con[k]? = some x ∧ dbg x = false ∧ S.mg x = some u ∧ RelV v u ∧ ∀ a : Pt, VR S.K a d v
/-- a class of refusals -/
structure ExcAt (c : Str) : Prop where
  ok : ∃ C, S.cl c = some C ∧ dbg c = false ∧ S.mg c = some (.ref C) ∧ PySem.W.excIn S.K C [.type "ValueError", .type "Exception", .type "BaseException", .type "object"] "ValueError.__new__" = true ∧ PySem.W.keepIn S.K (.ref C) = true ∧
    PySem.W.subIn S.K (.ref C) (.type "BaseException") = some true ∧ PySem.W.typeIn S.K (.ref C) = some (.type "type") ∧ XcAt S.K C
/-- a class of refusals with fields: its __init__ puts them by -/
structure ExiAt (c : Str) (fs : List Str) : Prop where
  ok : ∃ C fI fd ps, S.cl c = some C ∧ dbg c = false ∧ S.mg c = some (.ref C) ∧ L2.OexC S.K C ∧ XcAt S.K C ∧ PySem.W.findIn S.K (.ref C) "__init__" = some (some (.ref fI)) ∧ PySem.W.typeIn S.K (.ref fI) = some (.type "function") ∧ Binds S.K fd ps [] ∧ fs ≠ [] ∧ fs.length < 100 ∧
    FnOk S.P S.w S.K S.mg S.base L2.CX0 1 fI fd ps (spIni C fs) ∧ L2H.FnH S.P S.w S.K S.mg S.base L2.CX0 1 fI fd ps (spIni C fs)
/-- what the text has written -/
structure Txt : Prop where
  exi : ∀ c fs, (c, fs) ∈ S.nm.exi → ExiAt S c fs
  tst : ∀ t, t ∈ S.nm.tst → ∃ T, S.mg t = some (.ref T) ∧ ∀ c C, S.cl c = some C → XcAt S.K C → PySem.W.exmOne S.K (.ref C) (.ref T) = some (excSub c t)
  tsi : ∀ t, t ∈ S.nm.tsi → ∃ T, S.mg t = some (.ref T) ∧ ∀ c C, S.cl c = some C → L2.Cls S.K C → PySem.W.findIn S.K (.ref C) "__class__" = some (some (.builtin "object.__class__")) ∧ PySem.W.mroIn S.K C (.type "object") = some true ∧ PySem.W.kitOne S.K (.ref C) (.ref T) = some (insSub c t)
  ve : S.mg "ValueError" = none
  fld : ∀ c C f, S.cl c = some C → f ∈ S.nm.fld → PySem.W.findIn S.K (.ref C) f = some none
  mks : ∀ c, c ∈ S.nm.mks → MksAt S c
/-- where a piece of the text runs: its scope as written is sc -/
structure XOk (n : Nat) (sc : Scope) (X : Cx) (W : WX) : Prop where
  P : X.prog = S.P
  w : X.w = S.w
  K : X.K = S.K
  mg : X.mg = S.mg
  base : X.base = S.base
  calm : X.calm = true
  nd : X.N.Nodup
  room : Room (2 * n + 3) X.A
  take : S.nm.cold = false → Takes X W
  takeN : S.nm.cold = true → L2N.Takes X W
  keep : ∀ x k, sc.names.lookup x = some k → k ≠ .free → X.env.scope.names.lookup x = some k
  free : ∀ x, sc.names.lookup x = some .free → X.env.scope.names.lookup x = some .free ∨ X.env.scope.names.lookup x = some .cell
  cell : ∀ x, sc.names.lookup x = some .cell → X.fn x = true
  fns : ∀ f x, S.nm.fn[f]? = some x → FnAt S n f
  mths : ∀ k c m, S.pg.mth[k]? = some (c, m) → MthAt S n (S.pg.ng + k) c m
  cons : ∀ k d, S.pg.con[k]? = some d → ConAt S k d
  blt : ∀ b : B, S.mg b.nm = none
  mgT : ∀ t : Ty, S.mg t.nm = none
  mgi : S.mg "isinstance" = none ∧ S.mg "range" = none ∧ S.mg "enumerate" = none ∧ S.mg "zip" = none ∧ S.mg "reversed" = none ∧ S.mg "set" = none
  exs : ∀ c, c ∈ S.nm.exs → ExcAt S c
  tx : Txt S
  cat : ∀ c, c ∈ S.nm.cat → ∃ C, dbg c = false ∧ S.mg c = some (.ref C) ∧ ∀ x A, S.cl x = some A → XcAt S.K A → PySem.W.exmOne S.K (.ref A) (.ref C) = some (excSub x c)

section
variable {S} {n : Nat} {sc : Scope} {X : Cx} {W : WX}
theorem XOk.hu (o : XOk S n sc X W) : X.A.units + 64 < cLine := o.room.units
theorem XOk.gl (o : XOk S n sc X W) {x : Str} (h : isGl sc x = true) : Gl X x ∧ dbg x = false := by
  unfold isGl at h
  simp only [Bool.and_eq_true, Bool.not_eq_true', decide_eq_true_eq] at h
  exact ⟨o.keep x _ h.2 (by decide), h.1⟩
theorem XOk.slot (o : XOk S n sc X W) {x : Str} {i : Nat} (h : isSlot X.N sc x i = true) : X.N[i]? = some x ∧ Vis X.env.scope x ∧ dbg x = false ∧ dcl x = false := by
  unfold isSlot at h
  simp only [Bool.and_eq_true, Bool.not_eq_true', decide_eq_true_eq] at h
  obtain ⟨⟨⟨h1, h2⟩, h3⟩, h4⟩ := h
  refine ⟨h1, ?_, h2, h3⟩
  split at h4
  · rename_i q; exact .inl (o.keep x _ q (by decide))
  · rename_i q; exact .inr (.inl (o.keep x _ q (by decide)))
  · rename_i q; exact (o.free x q).elim (fun z => .inr (.inr z)) fun z => .inr (.inl z)
  · cases h4
theorem XOk.loc (o : XOk S n sc X W) {x : Str} {i : Nat} (h : isLoc X.N sc x i = true) : X.N[i]? = some x ∧ Loc X.env.scope x ∧ (X.fn x = true ∨ X.env.scope.names.lookup x = some .local) := by
  unfold isLoc at h
  simp only [Bool.and_eq_true, decide_eq_true_eq] at h
  obtain ⟨h1, h4⟩ := h
  split at h4
  · rename_i q; exact ⟨h1, .inl (o.keep x _ q (by decide)), .inr (o.keep x _ q (by decide))⟩
  · rename_i q; exact ⟨h1, .inr (o.keep x _ q (by decide)), .inl (o.cell x q)⟩
  · cases h4
end

/-! ### readings by the plain meaning -/
section
variable {S}
noncomputable def tE (S : Stat) (W : WX) (f : Env → Hh → KD → KX → Prop) : TE := fun σ H Q => ∃ a env Qd Xd, a.H = H ∧ SR S.K S.cl a ∧ ER S.K a env σ ∧ f env a.h Qd Xd ∧ KQ S.K S.cl a Qd Q ∧ KXQ S.K S.cl a Xd (fun c d H => W c d σ H)
noncomputable def tT (S : Stat) (W : WX) (f : Env → Hh → (Bool → Hh → Prop) → KX → Prop) : TT := fun σ H Q => ∃ a env Qd Xd, a.H = H ∧ SR S.K S.cl a ∧ ER S.K a env σ ∧ f env a.h Qd Xd ∧
  (∀ b k, a.Le b → SR S.K S.cl b → Qd k b.h → Q k b.H) ∧ KXQ S.K S.cl a Xd (fun c d H => W c d σ H)
noncomputable def tA (S : Stat) (W : WX) (f : Env → Hh → (List D → Hh → Prop) → KX → Prop) : TA := fun σ H Q => ∃ a env Qd Xd, a.H = H ∧ SR S.K S.cl a ∧ ER S.K a env σ ∧ f env a.h Qd Xd ∧
  (∀ b ds vs, a.Le b → SR S.K S.cl b → VRs S.K b ds vs → Qd ds b.h → Q vs b.H) ∧ KXQ S.K S.cl a Xd (fun c d H => W c d σ H)
noncomputable def tP (S : Stat) (W : WX) (f : Env → Hh → (Option Int → Hh → Prop) → KX → Prop) : TO := fun σ H Q => ∃ a env Qd Xd, a.H = H ∧ SR S.K S.cl a ∧ ER S.K a env σ ∧ f env a.h Qd Xd ∧
  (∀ b k, a.Le b → SR S.K S.cl b → Qd k b.h → Q k b.H) ∧ KXQ S.K S.cl a Xd (fun c d H => W c d σ H)
/-- an iterator walks what the plain walk says -/
noncomputable def WkR (S : Stat) (a0 : Pt) (w : Wk) (J : It) : Prop := ∀ a : Pt, a0.Le a → SR S.K S.cl a → w.guard a.h →
  J.stop w.items.length a.H ∧ ∀ i, i < w.items.length → J.go i a.H ∧ ∀ x H', J.yld i a.H x H' → ∃ (b : Pt) (d : D), b.H = H' ∧ a.Le b ∧ SR S.K S.cl b ∧ b.h = a.h ∧ w.items[i]? = some d ∧ VR S.K b d x
noncomputable def tI (S : Stat) (W : WX) (f : Env → Hh → KW → KX → Prop) : TI := fun σ H R => ∃ a env Qd Xd, a.H = H ∧ SR S.K S.cl a ∧ ER S.K a env σ ∧ f env a.h Qd Xd ∧
  (∀ b w J, a.Le b → SR S.K S.cl b → WkR S b w J → Qd w b.h → R J b.H) ∧ KXQ S.K S.cl a Xd (fun c d H => W c d σ H)
theorem impE {X : Cx} {e : Expr} {t t' : TE} (h : PE X e t) (i : ∀ σ H Q, t' σ H Q → t σ H Q) : PE X e t' := ⟨fun pins s σ H Q I q => h.run pins s σ H Q I (i _ _ _ q)⟩
theorem impT {X : Cx} {e : Expr} {t t' : TT} (h : PT X e t) (i : ∀ σ H Q, t' σ H Q → t σ H Q) : PT X e t' := ⟨fun pins s σ H Q I q => h.run pins s σ H Q I (i _ _ _ q)⟩
theorem impW {X : Cx} {e : Expr} {t t' : TT} (h : PW X e t) (i : ∀ σ H Q, t' σ H Q → t σ H Q) : PW X e t' := ⟨fun wh pins s σ H Q I q => h.run wh pins s σ H Q I (i _ _ _ q)⟩
theorem impA {X : Cx} {e : List Expr} {t t' : TA} (h : PA X e t) (i : ∀ σ H Q, t' σ H Q → t σ H Q) : PA X e t' := ⟨fun pos pins s σ H Q I q => h.run pos pins s σ H Q I (i _ _ _ q)⟩
theorem impI {X : Cx} {tg e : Expr} {t t' : TI} (h : PI X tg e t) (i : ∀ σ H Q, t' σ H Q → t σ H Q) : PI X tg e t' := ⟨fun pins s σ H Q I q => h.run pins s σ H Q I (i _ _ _ q)⟩
theorem impO {X : Cx} {e : Option Expr} {t t' : TO} (h : PO X e t) (i : ∀ σ H Q, t' σ H Q → t σ H Q) : PO X e t' := ⟨fun pins s σ H Q I q => h.run pins s σ H Q I (i _ _ _ q)⟩
theorem impS {X : Cx} {e : Stmt} {t t' : TS} (h : PS X e t) (i : ∀ D σ H, t' D σ H → t D σ H) : PS X e t' := ⟨fun pins s σ H D I q => h.run pins s σ H D I (i _ _ _ q)⟩
theorem impSs {X : Cx} {e : List Stmt} {t t' : TS} (h : PSs X e t) (i : ∀ D σ H, t' D σ H → t D σ H) : PSs X e t' := ⟨fun pins s σ H D I q => h.run pins s σ H D I (i _ _ _ q)⟩
end

/-- all that is shown of a piece -/
structure Snd (q : E) : Prop where
  e : ∀ n sc X W ex, XOk S n sc X W → (ck S.nm X.N q).e sc ex = true → PE X ex (tE S W (sem (S.pg.g (S.pg.run n)) q).val)
  t : ∀ n sc X W ex, XOk S n sc X W → (ck S.nm X.N q).e sc ex = true → PT X ex (tT S W (sem (S.pg.g (S.pg.run n)) q).tst)
  w : ∀ n sc X W op es pos, XOk S n sc X W → (ck S.nm X.N q).e sc (.BoolOp op es pos) = true → PW X (.BoolOp op es pos) (tT S W (sem (S.pg.g (S.pg.run n)) q).tst)
  a : ∀ n sc X W es, XOk S n sc X W → (ck S.nm X.N q).a sc es = true → PA X es (tA S W (sem (S.pg.g (S.pg.run n)) q).arg)
  i : ∀ n sc X W tg ex, XOk S n sc X W → (ck S.nm X.N q).i sc tg ex = true → PI X tg ex (tI S W (sem (S.pg.g (S.pg.run n)) q).itr)
  p : ∀ n sc X W o, XOk S n sc X W → (ck S.nm X.N q).p sc o = true → PO X o (tP S W (sem (S.pg.g (S.pg.run n)) q).prt)

section
variable {S}
theorem walk_pure_tup {a0 : Pt} {ds : List D} {p : Addr} {vs : List V} (t : TR S.K a0.H p vs) (r : VRs S.K a0 ds vs) : WkR S a0 (.pure ds) (Itt S.K p) := by
  intro a l s _
  have w := walk_tup (K := S.K) (a := p) (xs := vs)
  have hs : SqT S.K a.H p vs := (t.mono l).sq
  have r' := r.mono l
  refine ⟨by rw [show (Wk.pure ds).items.length = vs.length from r.length]; exact w.stops a.H hs, fun i hi => ?_⟩
  rw [show (Wk.pure ds).items.length = vs.length from r.length] at hi
  refine ⟨w.goes i a.H hi hs, fun x H' y => ?_⟩
  obtain ⟨e, ex⟩ := w.yields i a.H x H' hi hs y
  have hd : i < ds.length := by rw [r.length]; exact hi
  obtain ⟨v, e1, e2⟩ := r'.get (List.getElem?_eq_getElem hd)
  rw [ex] at e1
  cases e1
  exact ⟨a, ds[i], e.symm, Pt.Le.rfl, s, rfl, List.getElem?_eq_getElem hd, e2⟩
theorem walk_ofL {a0 : Pt} {n : Nat} {ds : List D} (hn : n < a0.h.length) : WkR S a0 (.ofL n ds) (Itl S.K (a0.ρ n)) := by
  intro a l s g
  obtain ⟨vs, hs, r⟩ := s.seq (n := n) (ds := ds) g
  rw [l.r n hn] at hs
  have w := walk_list (K := S.K) (a := a0.ρ n) (xs := vs)
  have el : (Wk.ofL n ds).items.length = vs.length := r.length
  refine ⟨by rw [el]; exact w.stops a.H hs, fun i hi => ?_⟩
  rw [el] at hi
  refine ⟨w.goes i a.H hi hs, fun x H' y => ?_⟩
  obtain ⟨e, ex⟩ := w.yields i a.H x H' hi hs y
  have hd : i < ds.length := by rw [r.length]; exact hi
  obtain ⟨v, e1, e2⟩ := r.get (List.getElem?_eq_getElem hd)
  rw [ex] at e1
  cases e1
  exact ⟨a, ds[i], e.symm, Pt.Le.rfl, s, rfl, List.getElem?_eq_getElem hd, e2⟩
theorem walk_revL {a0 : Pt} {n : Nat} {ds : List D} (hn : n < a0.h.length) {vs : List V} (r0 : VRs S.K a0 ds vs) : WkR S a0 (.revL n ds) (Itv S.K (a0.ρ n) vs.length) := by
  intro a l s g
  obtain ⟨ws, hs, r⟩ := s.seq (n := n) (ds := ds) g
  rw [l.r n hn] at hs
  have ew : vs.length = ws.length := by rw [← r0.length, r.length]
  rw [ew]
  have w := walk_rev (K := S.K) (a := a0.ρ n) (xs := ws)
  have el : (Wk.revL n ds).items.length = ws.length := by rw [← r.length]; exact List.length_reverse
  refine ⟨by rw [el]; exact w.stops a.H hs, fun i hi => ?_⟩
  rw [el] at hi
  refine ⟨w.goes i a.H hi hs, fun x H' y => ?_⟩
  obtain ⟨e, ex⟩ := w.yields i a.H x H' hi hs y
  have hd : ds.length - 1 - i < ds.length := by rw [r.length]; omega
  obtain ⟨v, e1, e2⟩ := r.get (List.getElem?_eq_getElem hd)
  rw [r.length, ex] at e1
  cases e1
  refine ⟨a, _, e.symm, Pt.Le.rfl, s, rfl, ?_, e2⟩
  show ds.reverse[i]? = _
  rw [List.getElem?_reverse (by rw [r.length]; exact hi), List.getElem?_eq_getElem hd]
theorem walk_str' {a0 : Pt} {z : Str} : WkR S a0 (.pure (z.cps.toList.map fun c => .str ⟨#[c]⟩)) (Its z) := by
  intro a l s _
  have w := walk_str (z := z)
  have el : (Wk.pure (z.cps.toList.map fun c => D.str ⟨#[c]⟩)).items.length = z.cps.size := by show (z.cps.toList.map _).length = _; simp
  refine ⟨by rw [el]; exact w.stops a.H trivial, fun i hi => ?_⟩
  rw [el] at hi
  refine ⟨w.goes i a.H hi trivial, fun x H' y => ?_⟩
  obtain ⟨e, c, hc, rfl⟩ := w.yields i a.H x H' hi trivial y
  refine ⟨a, .str ⟨#[c]⟩, e.symm, Pt.Le.rfl, s, rfl, ?_, .str _⟩
  show (z.cps.toList.map _)[i]? = _
  rw [List.getElem?_map, Array.getElem?_toList, hc]
  rfl
theorem walk_ints {a0 : Pt} {J : It} {m : Nat} {f : Nat → Int} (w : Walk J m (fun _ => True) (YFn fun i => .int (f i))) : WkR S a0 (.pure ((List.range m).map fun i => .int (f i))) J := by
  intro a l s _
  have el : (Wk.pure ((List.range m).map fun i => D.int (f i))).items.length = m := by show ((List.range m).map _).length = _; simp
  refine ⟨by rw [el]; exact w.stops a.H trivial, fun i hi => ?_⟩
  rw [el] at hi
  refine ⟨w.goes i a.H hi trivial, fun x H' y => ?_⟩
  obtain ⟨e, ex⟩ := w.yields i a.H x H' hi trivial y
  subst ex
  refine ⟨a, .int (f i), e.symm, Pt.Le.rfl, s, rfl, ?_, .int _⟩
  show ((List.range m).map _)[i]? = _
  rw [List.getElem?_map, List.getElem?_range hi]
  rfl
/-- pairs that are laid anew at each turn -/
theorem pairs_at {a : Pt} {J : It} {wk : Wk} {m : Nat} {Gd : Hp → Prop} {xs ys : Nat → Option V} {f g : Nat → D} (w : Walk J m Gd (YPair xs ys)) (el : wk.items.length = m) (s : SR S.K S.cl a) (hG : Gd a.H)
    (hx : ∀ i x y, i < m → xs i = some x → ys i = some y → wk.items[i]? = some (.tup [f i, g i]) ∧ VR S.K a (f i) x ∧ VR S.K a (g i) y) :
    J.stop wk.items.length a.H ∧ ∀ i, i < wk.items.length → J.go i a.H ∧ ∀ x H', J.yld i a.H x H' → ∃ (b : Pt) (d : D), b.H = H' ∧ a.Le b ∧ SR S.K S.cl b ∧ b.h = a.h ∧ wk.items[i]? = some d ∧ VR S.K b d x := by
  refine ⟨by rw [el]; exact w.stops a.H hG, fun i hi => ?_⟩
  rw [el] at hi
  refine ⟨w.goes i a.H hi hG, fun v H' y => ?_⟩
  obtain ⟨T, x, z, rfl, hT, rfl, e1, e2⟩ := w.yields i a.H v H' hi hG y
  obtain ⟨h1, h2, h3⟩ := hx i x z hi e1 e2
  have l2 : a.Le (a.side T (.tup [x, z])) := Pt.side_le hT
  exact ⟨a.side T (.tup [x, z]), _, rfl, l2, s.side hT, rfl, h1, .tup (.inl upd_same) (.cons (h2.mono l2) (.cons (h3.mono l2) .nil))⟩
theorem star_plain {e : Expr} (h : plainH e = true) (es : List Expr) (env : PySem.Env) : starEach (e :: es) env = (false, eval e env) :: starEach es env := by
  cases e <;> first | rfl | cases h
theorem ix_plain {e : Expr} (h : plainH e = true) : PlainIx e := by
  intro o i
  cases e <;> first | rfl | cases h
theorem recv_base {e : Expr} (h : recvOk e = true) (x : Str) (env : PySem.Env) : attributeBase e x env (eval e env) = eval e env := by
  cases e with
  | Call f as kws p =>
    cases f with
    | Name id q =>
      cases as with
      | nil =>
        cases kws with
        | nil => cases h
        | cons _ _ => rfl
      | cons _ _ => cases kws <;> rfl
    | _ => rfl
  | _ => first | rfl | cases h
theorem fold_plain {e : Expr} (h : setNo e = true) (env : PySem.Env) (x : Value) : foldedSetIterable e env x = pure x := by
  cases e <;> first | rfl | cases h
end
end Z

set_option Elab.async false
set_option linter.all false
set_option maxRecDepth 100000
/-! Z, part H: targets, walks, comprehensions. -/
namespace Z
open PySem PySem.Spec PyProof.Rows L2
variable {S : Stat}

/-! ### slots -/
theorem wipe_set {σ : L2.St} {i : Nat} {x : Option V} : ∀ vs : List Nat, L2.wipe (σ.set i x) vs = if i ∈ vs then L2.wipe σ vs else (L2.wipe σ vs).set i x
  | [] => by simp [L2.wipe]
  | v :: vs => by
    have ih := wipe_set (σ := σ) (i := i) (x := x) vs
    show (L2.wipe (σ.set i x) vs).set v none = _
    rw [ih]
    by_cases h : i ∈ vs
    · rw [if_pos h, if_pos (List.mem_cons_of_mem _ h)]
      rfl
    · rw [if_neg h]
      by_cases e : i = v
      · subst e
        rw [if_pos List.mem_cons_self, List.set_set]
        rfl
      · rw [if_neg (by simp [h, e]), List.set_comm _ _ e]
        rfl
theorem wipe_wipe {σ : L2.St} : ∀ (vs us : List Nat), (∀ v ∈ vs, v ∈ us) → L2.wipe (L2.wipe σ vs) us = L2.wipe σ us
  | [], _, _ => rfl
  | v :: vs, us, h => by
    show L2.wipe ((L2.wipe σ vs).set v none) us = _
    rw [wipe_set, if_pos (h v List.mem_cons_self)]
    exact wipe_wipe vs us fun z hz => h z (List.mem_cons_of_mem _ hz)
theorem ER.unset {K : PySem.W.Frag} {a : Pt} {env : Env} {σ : L2.St} (i : Nat) (r : ER K a env σ) : ER K a (env.set i none) (σ.set i none) := by
  refine ⟨by simpa using r.1, fun j d e => ?_⟩
  by_cases h : i = j
  · subst h
    by_cases hi : i < env.length
    · rw [List.getElem?_set_self hi] at e; cases e
    · rw [List.getElem?_eq_none (by simpa using hi)] at e; cases e
  · rw [List.getElem?_set_ne h] at e
    rw [List.getElem?_set_ne h]
    exact r.2 j d e
theorem ER.wipe {K : PySem.W.Frag} {a : Pt} {env : Env} {σ : L2.St} (r : ER K a env σ) : ∀ vs : List Nat, ER K a (wipeD env vs) (L2.wipe σ vs)
  | [] => r
  | v :: vs => (ER.wipe r vs).unset v

theorem VR.tupI {K : PySem.W.Frag} {a : Pt} {ds : List D} {v : V} (r : VR K a (.tup ds) v) : ∃ p vs, v = .ref p ∧ TR K a.H p vs ∧ VRs K a ds vs := by
  cases r with
  | tup t q => exact ⟨_, _, rfl, t, q⟩
theorem VRs.consI {K : PySem.W.Frag} {a : Pt} {d : D} {ds : List D} {vs : List V} (r : VRs K a (d :: ds) vs) : ∃ v ws, vs = v :: ws ∧ VR K a d v ∧ VRs K a ds ws := by
  cases r with
  | cons x y => exact ⟨_, _, rfl, x, y⟩
/-! ### targets -/
noncomputable def gD (S : Stat) (tg : Tg) : TG := fun v σ H Q => ∃ a env d Qd, a.H = H ∧ SR S.K S.cl a ∧ ER S.K a env σ ∧ VR S.K a d v ∧ bndE (tg.put d env) Qd ∧
  ∀ env' σ', ER S.K a env' σ' → (∀ us, tgIn tg us = true → L2.wipe σ' us = L2.wipe σ us) → Qd env' → Q σ' H
noncomputable def gDs (S : Stat) (is : List Nat) : TGs := fun vs σ H Q => ∃ a env ds Qd, a.H = H ∧ SR S.K S.cl a ∧ ER S.K a env σ ∧ VRs S.K a ds vs ∧ bndE (setAll is ds env) Qd ∧
  ∀ env' σ', ER S.K a env' σ' → (∀ us, (is.all fun i => us.contains i) = true → L2.wipe σ' us = L2.wipe σ us) → Qd env' → Q σ' H
theorem impG {X : Cx} {e : Expr} {t t' : TG} (h : PG X e t) (i : ∀ v σ H Q, t' v σ H Q → t v σ H Q) : PG X e t' := ⟨fun pins s σ H v u Q I r q => h.run pins s σ H v u Q I r (i _ _ _ _ q)⟩
theorem impGs {X : Cx} {e : List Expr} {t t' : TGs} (h : PGs X e t) (i : ∀ v σ H Q, t' v σ H Q → t v σ H Q) : PGs X e t' := ⟨fun pins s σ H v u Q I r q => h.run pins s σ H v u Q I r (i _ _ _ _ q)⟩
section
variable {n : Nat} {sc : Scope} {X : Cx} {W : WX}
theorem pg_nm (o : XOk S n sc X W) {i : Nat} {x : Str} {p : Pos} (h : isLoc X.N sc x i = true) : PG X (.Name x p) (gD S (.nm i)) := by
  obtain ⟨h1, h2, h3⟩ := o.loc h
  refine impG (pg_name (i := i) o.nd h1 h2 h3) fun v σ H Q ⟨a, env, d, Qd, eH, sr, er, vr, hb, k⟩ => ?_
  exact k _ _ (er.set i vr) (fun us hu => by
    rw [wipe_set, if_pos]
    exact List.contains_iff_mem.mp hu) hb
theorem pgs_nm (o : XOk S n sc X W) : ∀ (is : List Nat) (es : List Expr), tgNames X.N sc is es = true → PGs X es (gDs S is) ∧ (assignEach es X.env).length = is.length ∧ (assignEach es X.env).findIdx? (·.1) = none
  | [], [], _ => by
    refine ⟨impGs pgs_nil fun vs σ H Q ⟨a, env, ds, Qd, eH, sr, er, vr, hb, k⟩ => ?_, rfl, rfl⟩
    cases vr with
    | nil => exact ⟨rfl, k _ _ er (fun _ _ => rfl) hb⟩
    | cons _ _ => exact hb.elim
  | i :: is, e :: es, h => by
    cases e with
    | Name x p =>
      have h : (isLoc X.N sc x i && tgNames X.N sc is es) = true := h
      rw [Bool.and_eq_true] at h
      obtain ⟨q1, q2, q3⟩ := pgs_nm o is es h.2
      refine ⟨impGs (pgs_cons (pg_nm o h.1) q1 rfl) fun vs σ H Q ⟨a, env, ds, Qd, eH, sr, er, vr, hb, k⟩ => ?_, ?_, ?_⟩
      · cases ds with
        | nil => exact hb.elim
        | cons d ds =>
          obtain ⟨v, vs, rfl, r1, r2⟩ := vr.consI
          refine ⟨v, vs, rfl, a, env, d, fun env1 => bndE (setAll is ds env1) Qd, eH, sr, er, r1, hb, fun env1 σ1 er1 w1 hb1 => ?_⟩
          refine ⟨a, env1, ds, Qd, eH, sr, er1, r2, hb1, fun env2 σ2 er2 w2 q => k env2 σ2 er2 (fun us hu => ?_) q⟩
          rw [List.all_cons, Bool.and_eq_true] at hu
          rw [w2 us hu.2, w1 us hu.1]
      · show (assignEach es X.env).length + 1 = _
        rw [q2]; rfl
      · show ((false, assign (.Name x p) X.env) :: assignEach es X.env).findIdx? (·.1) = none
        rw [List.findIdx?_cons, q3]
        rfl
    | _ => cases h
  | [], _ :: _, h => by cases h
  | _ :: _, [], h => by cases h
theorem pg_any (o : XOk S n sc X W) {tg : Tg} {e : Expr} (h : okTg X.N sc tg e = true) : PG X e (gD S tg) := by
  cases tg with
  | nm i =>
    cases e with
    | Name x p => exact pg_nm o h
    | _ => cases h
  | tp is =>
    cases e with
    | Tuple es k p =>
      obtain ⟨q1, q2, q3⟩ := pgs_nm o is es h
      refine impG (pg_tup o.calm q1 q2 q3) fun v σ H Q ⟨a, env, d, Qd, eH, sr, er, vr, hb, k⟩ => ?_
      cases d with
      | tup ds =>
        obtain ⟨p, vs, rfl, t, r⟩ := vr.tupI
        have hlen : ∀ (is : List Nat) (ds : List D) (env : Env), bndE (setAll is ds env) Qd → ds.length = is.length := fun is => by
          induction is with
          | nil =>
            intro ds env z
            cases ds with
            | nil => rfl
            | cons _ _ => exact z.elim
          | cons j js ih =>
            intro ds env z
            cases ds with
            | nil => exact z.elim
            | cons d ds => rw [List.length_cons, List.length_cons, ih ds _ z]
        refine ⟨p, vs, rfl, by rw [o.K, ← eH]; exact t.sq, by rw [← r.length]; exact hlen is ds env hb, a, env, ds, Qd, eH, sr, er, r, hb, k⟩
      | _ => exact hb.elim
    | _ => cases h

/-! ### a block of its own -/
noncomputable def relab (sc0 : Scope) (p : Str × NameKind) : Str × NameKind := if (p.2 == NameKind.free && sc0.kind == .function && sc0.names.lookup p.1 == some .cell) then (p.1, NameKind.cell) else (p.1, p.2)
theorem look_free {sc0 : Scope} {x : Str} : ∀ {l : List (Str × NameKind)}, l.lookup x = some .free → (l.map (relab sc0)).lookup x = some .free ∨ (l.map (relab sc0)).lookup x = some .cell
  | [], h => by simp at h
  | (m, k0) :: r, h => by
    have ih := look_free (sc0 := sc0) (x := x) (l := r)
    have e : ∃ k', relab sc0 (m, k0) = (m, k') ∧ (k' = k0 ∨ k' = .cell) := by
      unfold relab
      split
      · exact ⟨_, rfl, .inr rfl⟩
      · exact ⟨_, rfl, .inl rfl⟩
    obtain ⟨k', e1, e2⟩ := e
    rw [List.map_cons, e1]
    cases hx : x == m with
    | true =>
      simp only [List.lookup_cons, hx] at h ⊢
      cases h
      exact e2.imp (fun z => by rw [z]) fun z => by rw [z]
    | false =>
      simp only [List.lookup_cons, hx] at h ⊢
      exact ih h
theorem XOk.blk (o : XOk S n sc X W) (s : Shared) (H : Hp) (scope : Scope) (C : Addr) (cl : List (Str × Addr)) (fp : List Addr) :
    XOk S n scope (X.blk s H scope (compEnvC scope cl C X.env) fp) (fun _ _ _ _ => False) where
  P := o.P
  w := o.w
  K := o.K
  mg := o.mg
  base := o.base
  calm := o.calm
  nd := o.nd
  room := o.room
  take := fun _ u s' ⟨_, _, _, _, _, _, _, _, _, _, _, _, _, _, _, _, z⟩ => z.elim
  takeN := fun _ u s' ⟨_, _, _, _, _, _, _, _, _, _, _, _, _, _, _, _, z⟩ => z.elim
  keep := fun x k e h => L2.lookup_relS_keep h e
  free := fun x e => look_free e
  cell := fun x e => by show (scope.names.lookup x == some .cell) = true; rw [e]; rfl
  fns := o.fns
  mths := o.mths
  cons := o.cons
  blt := o.blt
  mgT := o.mgT
  mgi := o.mgi
  exs := o.exs
  tx := o.tx
  cat := o.cat
theorem XOk.blkOk (o : XOk S n sc X W) {scope : Scope} {own : List (Str × Nat)} (h : blkC X.N sc scope own = true) : BlkOk X.N X.env.scope scope own := by
  have b := blkOk_by h
  refine ⟨b.kind, b.uniq, b.ix, fun y hy e => ?_, b.own⟩
  rcases b.free y hy e with q | q
  · exact .inl (o.keep _ _ q (by decide))
  · exact (o.free _ q).symm

/-! ### comprehensions -/
/-- from the plain meaning to the layer's reading -/
theorem lc_imp (o : XOk S n sc X W) {elt : E} {tg : Tg} {it cond : E} {own : List Nat} {tt : TT} (hin : tgIn tg own = true)
    (htt : if isNil cond = true then tt = tYes else tt = tT S (fun _ _ _ _ => False) (sem (S.pg.g (S.pg.run n)) cond).tst) {σ : L2.St} {H : Hp} {Q : VK}
    (h : tE S W (sem (S.pg.g (S.pg.run n)) (.cpr elt tg it cond own)).val σ H Q) :
    tLc (tI S W (sem (S.pg.g (S.pg.run n)) it).itr) (gD S tg) tt (tE S (fun _ _ _ _ => False) (sem (S.pg.g (S.pg.run n)) elt).val) own σ H Q := by
  obtain ⟨a, env, Qd, Xd, eH, sr, er, hb, kq, kx⟩ := h
  refine ⟨a, env, _, Xd, eH, sr, er, hb, fun a1 w J l1 s1 wr hw => ?_, kx⟩
  intro Da hDa
  generalize hg : (sem (S.pg.g (S.pg.run n)) elt).val = ve at hw ⊢
  have l2 : a1.Le (a1.lay Da (.lst []) (.lst [])) := Pt.lay_le hDa
  have s2 : SR S.K S.cl (a1.lay Da (.lst []) (.lst [])) := s1.lay hDa ⟨[], upd_same, .nil⟩
  refine ⟨fun i m H => ∃ (b : Pt) (acc : List D), m = w.items.length - i ∧ i ≤ w.items.length ∧ b.H = H ∧ (a1.lay Da (.lst []) (.lst [])).Le b ∧ SR S.K S.cl b ∧
      walkC w.guard a1.h.length (fun d h2 K => bndE (tg.put d (wipeD env own)) fun env2 => if isNil cond = true then ve env2 h2 (fun x h3 => K (some x) h3) (fun _ _ => False)
        else (sem (S.pg.g (S.pg.run n)) cond).tst env2 h2 (fun b h3 => if b = true then ve env2 h3 (fun x h4 => K (some x) h4) (fun _ _ => False) else K none h3) (fun _ _ => False))
        (fun h2 => Qd (.ref a1.h.length) h2) (w.items.drop i) acc b.h,
    ⟨w.items.length, _, [], rfl, Nat.zero_le _, rfl, Pt.Le.rfl, s2, hw⟩, ?_⟩
  rintro i m Hi ⟨b, acc, rfl, hi, rfl, lb, sb, hwk⟩
  have la1b : a1.Le b := l2.trans lb
  have hn : a1.h.length < b.h.length := Nat.lt_of_lt_of_le (by show _ < (a1.h ++ [_]).length; simp) lb.n
  have hρ : ∀ c : Pt, b.Le c → c.ρ a1.h.length = Da := fun c lc => by
    rw [lc.r _ hn, lb.r _ (by show _ < (a1.h ++ [_]).length; simp)]
    exact Pt.lay_at
  by_cases hlt : i < w.items.length
  · have hd : w.items.drop i = w.items[i] :: w.items.drop (i + 1) := List.drop_eq_getElem_cons hlt
    rw [hd] at hwk
    obtain ⟨hgd, hstep⟩ := hwk
    obtain ⟨_, hgo⟩ := wr b la1b sb hgd
    obtain ⟨hgo1, hyl⟩ := hgo i hlt
    refine .inr ⟨hgo1, fun H' => ∃ (b : Pt) (acc : List D), b.H = H' ∧ (a1.lay Da (.lst []) (.lst [])).Le b ∧ SR S.K S.cl b ∧ walkC w.guard a1.h.length (fun d h2 K => bndE (tg.put d (wipeD env own)) fun env2 => if isNil cond = true then ve env2 h2 (fun x h3 => K (some x) h3) (fun _ _ => False)
        else (sem (S.pg.g (S.pg.run n)) cond).tst env2 h2 (fun b h3 => if b = true then ve env2 h3 (fun x h4 => K (some x) h4) (fun _ _ => False) else K none h3) (fun _ _ => False))
        (fun h2 => Qd (.ref a1.h.length) h2) (w.items.drop (i + 1)) acc b.h, fun H' ⟨c, acc', e, lc, sc', q⟩ => ⟨w.items.length - (i + 1), by omega, c, acc', rfl, hlt, e, lc, sc', q⟩, fun x H' y => ?_⟩
    obtain ⟨c, d, rfl, lc, sc', ech, hdi, vr⟩ := hyl x H' y
    rw [List.getElem?_eq_getElem hlt] at hdi
    cases hdi
    have erc : ER S.K c (wipeD env own) (L2.wipe σ own) := (er.wipe own).mono ((l1.trans la1b).trans lc)
    rw [← ech] at hstep
    refine ⟨c, wipeD env own, _, _, rfl, sc', erc, vr, hstep, fun env2 σ2 er2 hw2 q => ⟨(hw2 own hin).trans (wipe_wipe own own fun _ z => z), ?_⟩⟩
    have fin : ∀ (c2 : Pt) (env3 : Env) (σ3 : L2.St), c.Le c2 → SR S.K S.cl c2 → ER S.K c2 env3 σ3 → ve env3 c2.h (fun x h4 => h4[a1.h.length]? = some (.lst acc) ∧ acc.length < sizeLine ∧
        walkC w.guard a1.h.length (fun d h2 K => bndE (tg.put d (wipeD env own)) fun env2 => if isNil cond = true then ve env2 h2 (fun x h3 => K (some x) h3) (fun _ _ => False)
        else (sem (S.pg.g (S.pg.run n)) cond).tst env2 h2 (fun b h3 => if b = true then ve env2 h3 (fun x h4 => K (some x) h4) (fun _ _ => False) else K none h3) (fun _ _ => False))
        (fun h2 => Qd (.ref a1.h.length) h2) (w.items.drop (i + 1)) (acc ++ [x]) (h4.set a1.h.length (.lst (acc ++ [x])))) (fun _ _ => False) →
        tE S (fun _ _ _ _ => False) ve σ3 c2.H fun y H4 => ∃ ac, H4 Da = some (.lst ac) ∧ ac.length < sizeLine ∧ (fun H' => ∃ (b : Pt) (acc : List D), b.H = H' ∧ (a1.lay Da (.lst []) (.lst [])).Le b ∧ SR S.K S.cl b ∧ walkC w.guard a1.h.length (fun d h2 K => bndE (tg.put d (wipeD env own)) fun env2 => if isNil cond = true then ve env2 h2 (fun x h3 => K (some x) h3) (fun _ _ => False)
        else (sem (S.pg.g (S.pg.run n)) cond).tst env2 h2 (fun b h3 => if b = true then ve env2 h3 (fun x h4 => K (some x) h4) (fun _ _ => False) else K none h3) (fun _ _ => False))
        (fun h2 => Qd (.ref a1.h.length) h2) (w.items.drop (i + 1)) acc b.h) (upd H4 Da (.lst (ac ++ [y]))) := fun c2 env3 σ3 l3 s3 er3 q3 => by
      refine ⟨c2, env3, _, _, rfl, s3, er3, q3, fun c4 x4 y4 l4 s4 v4 q4 => ?_, fun _ _ _ _ _ _ _ z => z.elim⟩
      obtain ⟨q5, q6, q7⟩ := q4
      have lb4 : b.Le c4 := (lc.trans l3).trans l4
      obtain ⟨vs, g1, g2⟩ := s4.obj _ _ q5
      have hn4 : a1.h.length < c4.h.length := Nat.lt_of_lt_of_le hn lb4.n
      have e4 := hρ c4 lb4
      have l5 : c4.Le (c4.put a1.h.length (.lst (acc ++ [x4])) (.lst (vs ++ [y4]))) := Pt.put_le s4 q5
      have s5 := s4.put (o := .lst (acc ++ [x4])) (u := .lst (vs ++ [y4])) q5 ⟨_, upd_same, (g2.append (.cons v4 .nil)).mono l5⟩
      refine ⟨vs, by rw [← e4]; exact g1, by rw [← g2.length]; exact q6, c4.put a1.h.length (.lst (acc ++ [x4])) (.lst (vs ++ [y4])), acc ++ [x4], ?_, (lb.trans lb4).trans l5, s5, q7⟩
      show upd c4.H (c4.ρ a1.h.length) _ = _
      rw [e4]
    by_cases hc : isNil cond = true
    · rw [if_pos hc] at htt
      subst htt
      have q : (if isNil cond = true then _ else _) := q
      rw [if_pos hc] at q
      show tYes σ2 c.H _
      simp only [tYes, ↓reduceIte]
      exact fin c env2 σ2 Pt.Le.rfl sc' er2 q
    · rw [if_neg hc] at htt
      subst htt
      have q : (if isNil cond = true then _ else _) := q
      rw [if_neg hc] at q
      refine ⟨c, env2, _, _, rfl, sc', er2, q, fun c3 k l3 s3 q3 => ?_, fun _ _ _ _ _ _ _ z => z.elim⟩
      cases k with
      | true =>
        rw [if_pos rfl]
        rw [if_pos rfl] at q3
        exact fin c3 env2 σ2 l3 s3 (er2.mono l3) q3
      | false =>
        rw [if_neg (by decide)]
        rw [if_neg (by decide)] at q3
        exact ⟨c3, acc, rfl, (lb.trans lc).trans l3, s3, q3.2⟩
  · have e : i = w.items.length := by omega
    subst e
    rw [List.drop_length] at hwk
    obtain ⟨hgd, hk⟩ := hwk
    refine .inl ⟨(wr b la1b sb hgd).1, ?_⟩
    have v : VR S.K b (.ref a1.h.length) (.ref Da) := by
      have := VR.ref (K := S.K) (a := b) hn
      rwa [hρ b Pt.Le.rfl] at this
    exact kq b _ _ (l1.trans la1b) sb v hk
end
end Z

set_option Elab.async false
set_option linter.all false
set_option maxRecDepth 100000
/-! Z, part I: every expression's meaning is the text's. -/
namespace Z
open PySem PySem.Spec PyProof.Rows L2
variable {S : Stat}

/-- a list, a tuple or a text that is walked -/
noncomputable def iAny (K : PySem.W.Frag) (tl : TE) : TI := fun σ H R => tl σ H fun x H1 =>
  (∃ p, x = .ref p ∧ (∃ xs, SqL K H1 p xs) ∧ R (Itl K p) H1) ∨ (∃ p, x = .ref p ∧ (∃ xs, SqT K H1 p xs) ∧ R (Itt K p) H1) ∨ ∃ z, x = .str z ∧ R (Its z) H1
theorem pi_any {X : Cx} {tg e : Expr} {te : TE} (he : PE X e te) : PI X tg e (iAny X.K te) := by
  refine ⟨fun pins s σ H R I h => thn (he.run pins s σ H _ I h) ?_⟩
  rintro v s1 ⟨x, H1, I1, r1, q1⟩
  rcases q1 with ⟨p, rfl, ⟨xs, hq⟩, q⟩ | ⟨p, rfl, ⟨xs, hq⟩, q⟩ | ⟨z, rfl, q⟩
  · cases r1
    obtain ⟨its, rv, hp, hz⟩ := I1.list hq
    refine wpAny_pyIter_list hp.isList ?_
    exact pi_one (tk := s1.toks) I1 _ (turn_list p _) ⟨_, Heap.get?_push_size _ rfl, rfl, rfl⟩ q
  · cases r1
    obtain ⟨its, rv, hp, hz⟩ := I1.tuple hq
    refine wpAny_pyIter_tuple (show s1.heap.IsTuple p its.toArray from hp) ?_
    exact pi_one (tk := s1.toks) I1 _ (turn_tuple p _) ⟨_, Heap.get?_push_size _ rfl, rfl, rfl⟩ q
  · obtain ⟨t, rfl⟩ := r1
    cases ha : z.cps.all (· < 128)
    · refine wpAny_pyIter_wide ha ?_
      exact pi_one (tk := s1.toks) I1 _ (turn_str _ z t "str_iterator" (.inr rfl)) ⟨_, Heap.get?_push_size _ rfl, rfl, rfl⟩ q
    · refine wpAny_pyIter_ascii ha ?_
      exact pi_one (tk := s1.toks) I1 _ (turn_str _ z t "str_ascii_iterator" (.inl rfl)) ⟨_, Heap.get?_push_size _ rfl, rfl, rfl⟩ q
section
variable {n : Nat} {sc : Scope} {X : Cx} {W : WX}
/-- a value that is walked -/
theorem itr_val (o : XOk S n sc X W) {tg ex : Expr} {val : Env → Hh → KD → KX → Prop} (h : PE X ex (tE S W val)) : PI X tg ex (tI S W (ofVal val).itr) := by
  refine impI (pi_any h) fun σ H R ⟨a, env, Qd, Xd, eH, sr, er, hb, kq, kx⟩ => ?_
  refine ⟨a, env, _, Xd, eH, sr, er, hb, fun b d v l s r q => ?_, kx⟩
  rw [o.K]
  cases r with
  | tup t rr => exact .inr (.inl ⟨_, rfl, ⟨_, t.sq⟩, kq b _ _ l s (walk_pure_tup t rr) q⟩)
  | str z => exact .inr (.inr ⟨z, rfl, kq b _ _ l s walk_str' q⟩)
  | ref hn =>
    rename_i m
    have q : bndW (match b.h[m]? with
      | some (.lst ds) => some (.ofL m ds)
      | some (.fro ds) => some (.ofL m ds)
      | _ => none) Qd b.h := q
    split at q
    · rename_i ds e
      obtain ⟨vs, h1, _⟩ := s.seq (.inl e)
      exact .inl ⟨_, rfl, ⟨vs, h1⟩, kq b _ _ l s (walk_ofL hn) q⟩
    · rename_i ds e
      obtain ⟨vs, h1, _⟩ := s.seq (.inr e)
      exact .inl ⟨_, rfl, ⟨vs, h1⟩, kq b _ _ l s (walk_ofL hn) q⟩
    · exact q.elim
  | _ => exact q.elim
theorem prt_val {ex : Expr} {val : Env → Hh → KD → KX → Prop} (h : PE X ex (tE S W val)) : PO X (some ex) (tP S W (ofVal val).prt) := by
  refine impO (po_some h) fun σ H Q ⟨a, env, Qd, Xd, eH, sr, er, hb, kq, kx⟩ => ?_
  refine ⟨a, env, _, Xd, eH, sr, er, hb, fun b d v l s r q => ?_, kx⟩
  cases r with
  | int i => exact ⟨i, rfl, kq b _ l s q⟩
  | _ => exact q.elim
/-- a value that is a truth -/
theorem tst_imp {val : Env → Hh → KD → KX → Prop} {σ : L2.St} {H : Hp} {Q : Bool → Hp → Prop} (h : tT S W (ofVal val).tst σ H Q) : tE S W val σ H fun x H1 => ∃ k, x = .bl k ∧ Q k H1 := by
  obtain ⟨a, env, Qd, Xd, eH, sr, er, hb, kq, kx⟩ := h
  refine ⟨a, env, _, Xd, eH, sr, er, hb, fun b d v l s r q => ?_, kx⟩
  cases r with
  | bl k => exact ⟨k, rfl, kq b k l s q⟩
  | _ => exact q.elim
theorem tst_val {ex : Expr} {val : Env → Hh → KD → KX → Prop} (h : PE X ex (tE S W val)) (hd : ∀ whole, isTrue ex X.env whole = (do let v ← whole; standAt ex.pos; holding [v] (truthy v))) : PT X ex (tT S W (ofVal val).tst) :=
  impT (pt_val h hd) fun _ _ _ q => tst_imp q
/-- two values, and what is done with them -/
theorem two_imp {r : R2} {va vb : Env → Hh → KD → KX → Prop} {F : D → D → Hh → KD → Prop} (hr : ∀ (a : Pt) x y v u Qd Q, SR S.K S.cl a → VR S.K a x v → VR S.K a y u → F x y a.h Qd → KQ S.K S.cl a Qd Q → r v u a.H Q) {σ : L2.St} {H : Hp} {Q : VK}
    (h : tE S W (fun env h Q X => va env h (fun x h1 => vb env h1 (fun y h2 => F x y h2 Q) X) X) σ H Q) : tOp r (tE S W va) (tE S W vb) σ H Q := by
  obtain ⟨a, env, Qd, Xd, eH, sr, er, hb, kq, kx⟩ := h
  refine ⟨a, env, _, Xd, eH, sr, er, hb, fun b x v l s rx q => ?_, kx⟩
  refine ⟨b, env, _, Xd, rfl, s, er.mono l, q, fun c y u l2 s2 ry q2 => ?_, kx.mono l⟩
  exact hr c x y v u Qd Q s2 (rx.mono l2) ry q2 (kq.mono (l.trans l2))
/-- one value, and what is done with it -/
theorem one_imp {r : V → Hp → VK → Prop} {va : Env → Hh → KD → KX → Prop} {F : D → Hh → KD → Prop} (hr : ∀ (a : Pt) x v Qd Q, SR S.K S.cl a → VR S.K a x v → F x a.h Qd → KQ S.K S.cl a Qd Q → r v a.H Q) {σ : L2.St} {H : Hp} {Q : VK}
    (h : tE S W (fun env h Q X => va env h (fun x h1 => F x h1 Q) X) σ H Q) : tE S W va σ H fun x H1 => r x H1 Q := by
  obtain ⟨a, env, Qd, Xd, eH, sr, er, hb, kq, kx⟩ := h
  exact ⟨a, env, _, Xd, eH, sr, er, hb, fun b x v l s rx q => hr b x v Qd Q s rx q (kq.mono l), kx⟩
/-- an argument list, and what is done with it -/
theorem arg_imp {r : List V → Hp → VK → Prop} {va : Env → Hh → (List D → Hh → Prop) → KX → Prop} {F : List D → Hh → KD → Prop} (hr : ∀ (a : Pt) ds vs Qd Q, SR S.K S.cl a → VRs S.K a ds vs → F ds a.h Qd → KQ S.K S.cl a Qd Q → r vs a.H Q) {σ : L2.St} {H : Hp} {Q : VK}
    (h : tE S W (fun env h Q X => va env h (fun x h1 => F x h1 Q) X) σ H Q) : tA S W va σ H fun xs H1 => r xs H1 Q := by
  obtain ⟨a, env, Qd, Xd, eH, sr, er, hb, kq, kx⟩ := h
  exact ⟨a, env, _, Xd, eH, sr, er, hb, fun b x v l s rx q => hr b x v Qd Q s rx q (kq.mono l), kx⟩
end

/-- from a value alone -/
theorem Snd.ofVal {q : E} {val : Nat → Env → Hh → KD → KX → Prop} (hs : ∀ n, sem (S.pg.g (S.pg.run n)) q = Z.ofVal (val n))
    (hk : ∀ N, (∀ sc es, (ck S.nm N q).a sc es = false) ∧ (∀ sc tg e, (ck S.nm N q).i sc tg e = (ck S.nm N q).e sc e) ∧ (∀ sc o, (ck S.nm N q).p sc o = match o with | some e => (ck S.nm N q).e sc e | none => false))
    (hb : ∀ N sc op es pos, (ck S.nm N q).e sc (.BoolOp op es pos) = false)
    (he : ∀ n sc X W ex, XOk S n sc X W → (ck S.nm X.N q).e sc ex = true → PE X ex (tE S W (val n)))
    (ht : ∀ n sc X W ex, XOk S n sc X W → (ck S.nm X.N q).e sc ex = true → PT X ex (tT S W (Z.ofVal (val n)).tst)) : Snd S q where
  e n sc X W ex o c := by rw [hs n]; exact he n sc X W ex o c
  t n sc X W ex o c := by rw [hs n]; exact ht n sc X W ex o c
  w n sc X W op es pos o c := by rw [hb] at c; cases c
  a n sc X W es o c := by rw [(hk X.N).1] at c; cases c
  i n sc X W tg ex o c := by
    rw [(hk X.N).2.1] at c
    rw [hs n]
    exact itr_val o (he n sc X W ex o c)
  p n sc X W ob o c := by
    rw [(hk X.N).2.2] at c
    cases ob with
    | none => cases c
    | some ex =>
      rw [hs n]
      exact prt_val (he n sc X W ex o c)
/-- .. the truth of which is its value's -/
theorem Snd.ofVal' {q : E} {val : Nat → Env → Hh → KD → KX → Prop} (hs : ∀ n, sem (S.pg.g (S.pg.run n)) q = Z.ofVal (val n))
    (hk : ∀ N, (∀ sc es, (ck S.nm N q).a sc es = false) ∧ (∀ sc tg e, (ck S.nm N q).i sc tg e = (ck S.nm N q).e sc e) ∧ (∀ sc o, (ck S.nm N q).p sc o = match o with | some e => (ck S.nm N q).e sc e | none => false))
    (hb : ∀ N sc op es pos, (ck S.nm N q).e sc (.BoolOp op es pos) = false)
    (hd : ∀ N sc ex (env : PySem.Env), (ck S.nm N q).e sc ex = true → ∀ whole, isTrue ex env whole = (do let v ← whole; standAt ex.pos; holding [v] (truthy v)))
    (he : ∀ n sc X W ex, XOk S n sc X W → (ck S.nm X.N q).e sc ex = true → PE X ex (tE S W (val n))) : Snd S q :=
  Snd.ofVal hs hk hb he fun n sc X W ex o c => tst_val (he n sc X W ex o c) (hd X.N sc ex X.env c)

theorem snd_v (i : Nat) : Snd S (.v i) := by
  refine Snd.ofVal' (fun _ => rfl) (fun _ => ⟨fun _ _ => rfl, fun _ _ _ => rfl, fun _ o => by cases o <;> rfl⟩) (fun _ _ _ _ _ => rfl) (fun N sc ex env c w => ?_) (fun n sc X W ex o c => ?_)
  · cases ex <;> first | rfl | cases c
  · cases ex with
    | Name x p =>
      obtain ⟨h1, h2, h3, h4⟩ := o.slot c
      refine impE (pe_var (i := i) h1 h2 h3 h4) fun σ H Q ⟨a, env, Qd, Xd, eH, sr, er, hb, kq, kx⟩ => ?_
      subst eH
      obtain ⟨d, h', e, hq⟩ := bndE1 hb
      obtain ⟨d', e1, e2⟩ := Option.map_eq_some_iff.mp e
      cases e2
      have e3 : env[i]? = some (some d) := by
        unfold vget at e1
        cases h : env[i]? with
        | none => rw [h] at e1; cases e1
        | some z => rw [h] at e1; cases z with
          | none => cases e1
          | some y => cases e1; rfl
      obtain ⟨v, h5, h6⟩ := er.2 i d e3
      exact ⟨v, h5, kq.same sr h6 hq⟩
    | _ => cases c
theorem snd_gc (k : Nat) : Snd S (.gc k) := by
  refine Snd.ofVal' (fun _ => rfl) (fun _ => ⟨fun _ _ => rfl, fun _ _ _ => rfl, fun _ o => by cases o <;> rfl⟩) (fun _ _ _ _ _ => rfl) (fun N sc ex env c w => ?_) (fun n sc X W ex o c => ?_)
  · cases ex <;> first | rfl | cases c
  · cases ex with
    | Name x p =>
      have c : (decide (S.nm.con[k]? = some x) && isGl sc x) = true := c
      rw [Bool.and_eq_true, decide_eq_true_eq] at c
      obtain ⟨h1, h2⟩ := o.gl c.2
      refine ⟨fun pins s σ H Q I ⟨a, env, Qd, Xd, eH, sr, er, hb, kq, kx⟩ => ?_⟩
      subst eH
      obtain ⟨d, h', e, hq⟩ := bndE1 hb
      obtain ⟨d', e1, e2⟩ := Option.map_eq_some_iff.mp e
      cases e2
      obtain ⟨x', u, v, g1, g2, g3, g4, g5⟩ := (o.cons k d e1).ok
      rw [c.1] at g1
      cases g1
      exact (pe_glob h1 (by rw [o.mg]; exact g3) g4 h2).run pins s σ a.H Q I (kq.same sr (g5 a) hq)
    | _ => cases c
theorem snd_ci (k : Int) : Snd S (.ci k) := by
  refine Snd.ofVal' (fun _ => rfl) (fun _ => ⟨fun _ _ => rfl, fun _ _ _ => rfl, fun _ o => by cases o <;> rfl⟩) (fun _ _ _ _ _ => rfl) (fun N sc ex env c w => ?_) (fun n sc X W ex o c => ?_)
  · cases ex <;> first | rfl | cases c
  · cases ex with
    | Constant x j p =>
      cases x with
      | int m =>
        obtain rfl : k = m := of_decide_eq_true c
        refine impE pe_int fun σ H Q ⟨a, env, Qd, Xd, eH, sr, er, hb, kq, kx⟩ => ?_
        subst eH
        exact kq.same sr (.int k) hb
      | _ => cases c
    | _ => cases c
theorem snd_cb (k : Bool) : Snd S (.cb k) := by
  refine Snd.ofVal' (fun _ => rfl) (fun _ => ⟨fun _ _ => rfl, fun _ _ _ => rfl, fun _ o => by cases o <;> rfl⟩) (fun _ _ _ _ _ => rfl) (fun N sc ex env c w => ?_) (fun n sc X W ex o c => ?_)
  · cases ex <;> first | rfl | cases c
  · cases ex with
    | Constant x j p =>
      cases x with
      | bool m =>
        obtain rfl : k = m := eq_of_beq c
        refine impE pe_bl fun σ H Q ⟨a, env, Qd, Xd, eH, sr, er, hb, kq, kx⟩ => ?_
        subst eH
        exact kq.same sr (.bl k) hb
      | _ => cases c
    | _ => cases c
theorem snd_cn : Snd S .cn := by
  refine Snd.ofVal' (fun _ => rfl) (fun _ => ⟨fun _ _ => rfl, fun _ _ _ => rfl, fun _ o => by cases o <;> rfl⟩) (fun _ _ _ _ _ => rfl) (fun N sc ex env c w => ?_) (fun n sc X W ex o c => ?_)
  · cases ex <;> first | rfl | cases c
  · cases ex with
    | Constant x j p =>
      cases x with
      | none =>
        refine impE pe_non fun σ H Q ⟨a, env, Qd, Xd, eH, sr, er, hb, kq, kx⟩ => ?_
        subst eH
        exact kq.same sr .non hb
      | _ => cases c
    | _ => cases c
theorem snd_cs (k : Str) : Snd S (.cs k) := by
  refine Snd.ofVal' (fun _ => rfl) (fun _ => ⟨fun _ _ => rfl, fun _ _ _ => rfl, fun _ o => by cases o <;> rfl⟩) (fun _ _ _ _ _ => rfl) (fun N sc ex env c w => ?_) (fun n sc X W ex o c => ?_)
  · cases ex <;> first | rfl | cases c
  · cases ex with
    | Constant x j p =>
      cases x with
      | str m =>
        obtain rfl : k = m := of_decide_eq_true c
        refine impE pe_str fun σ H Q ⟨a, env, Qd, Xd, eH, sr, er, hb, kq, kx⟩ => ?_
        subst eH
        exact kq.same sr (.str k) hb
      | _ => cases c
    | _ => cases c
theorem snd_bin {op : Operator} {a b : E} (ha : Snd S a) (hb : Snd S b) : Snd S (.bin op a b) := by
  refine Snd.ofVal' (fun _ => rfl) (fun _ => ⟨fun _ _ => rfl, fun _ _ _ => rfl, fun _ o => by cases o <;> rfl⟩) (fun _ _ _ _ _ => rfl) (fun N sc ex env c w => ?_) (fun n sc X W ex o c => ?_)
  · cases ex <;> first | rfl | cases c
  · cases ex with
    | BinOp x op' y p =>
      have c : (decide (op = op') && (ck S.nm X.N a).e sc x && (ck S.nm X.N b).e sc y) = true := c
      simp only [Bool.and_eq_true, decide_eq_true_eq] at c
      obtain ⟨⟨rfl, c1⟩, c2⟩ := c
      have r := op_bin (X := X) (cl := S.cl) op
      rw [o.K] at r
      refine impE (pe_op r (ha.e n sc X W x o c1) (hb.e n sc X W y o c2)) fun σ H Q q => two_imp (fun a x y v u Qd Q sr rx ry h kq => ⟨a, x, y, Qd, rfl, sr, rx, ry, h, kq⟩) q
    | _ => cases c
theorem snd_cmp {op : CmpOp} {a b : E} (ha : Snd S a) (hb : Snd S b) : Snd S (.cmp op a b) := by
  have key : ∀ n sc X W x op' y p, XOk S n sc X W → (ck S.nm X.N (.cmp op a b)).e sc (.Compare x [op'] [y] p) = true → op' = op ∧ OpR X (compareOp op) (rC S.K S.cl op) ∧ PE X x (tE S W (sem (S.pg.g (S.pg.run n)) a).val) ∧
      PE X y (tE S W (sem (S.pg.g (S.pg.run n)) b).val) ∧ behindInMarks op y = false := fun n sc X W x op' y p o c => by
    have c : (decide (op = op') && (ck S.nm X.N a).e sc x && (ck S.nm X.N b).e sc y && !behindInMarks op' y) = true := c
    simp only [Bool.and_eq_true, decide_eq_true_eq, Bool.not_eq_true'] at c
    obtain ⟨⟨⟨rfl, c1⟩, c2⟩, c3⟩ := c
    have r := op_cmp (X := X) (cl := S.cl) op o.hu (by have := o.room.un; omega)
    rw [o.K] at r
    exact ⟨rfl, r, ha.e n sc X W x o c1, hb.e n sc X W y o c2, c3⟩
  have shp : ∀ N sc ex, (ck S.nm N (.cmp op a b)).e sc ex = true → ∃ x op' y p, ex = .Compare x [op'] [y] p := fun N sc ex c => by
    cases ex with
    | Compare x ops ys p =>
      cases ops with
      | nil => cases c
      | cons op' r =>
        cases r with
        | cons _ _ => cases c
        | nil =>
          cases ys with
          | nil => cases c
          | cons y r =>
            cases r with
            | cons _ _ => cases c
            | nil => exact ⟨_, _, _, _, rfl⟩
    | _ => cases c
  refine Snd.ofVal (fun _ => rfl) (fun _ => ⟨fun _ _ => rfl, fun _ _ _ => rfl, fun _ o => by cases o <;> rfl⟩) (fun _ _ _ _ _ => rfl) (fun n sc X W ex o c => ?_) (fun n sc X W ex o c => ?_)
  · obtain ⟨x, op', y, p, rfl⟩ := shp _ _ _ c
    obtain ⟨rfl, r, h1, h2, h3⟩ := key n sc X W x op' y p o c
    exact impE (pe_cmpR r h1 h2 h3) fun σ H Q q => two_imp (fun a x y v u Qd Q sr rx ry h kq => ⟨a, x, y, Qd, rfl, sr, rx, ry, h, kq⟩) q
  · obtain ⟨x, op', y, p, rfl⟩ := shp _ _ _ c
    obtain ⟨rfl, r, h1, h2, h3⟩ := key n sc X W x op' y p o c
    exact impT (pt_cmpR r h1 h2 h3) fun σ H Q q => two_imp (fun a x y v u Qd Q sr rx ry h kq => ⟨a, x, y, Qd, rfl, sr, rx, ry, h, kq⟩) (tst_imp q)
theorem chn_imp {n : Nat} {W : WX} {op op' : CmpOp} {va vb vc : Env → Hh → KD → KX → Prop} {σ : L2.St} {H : Hp} {Q : VK}
    (h : tE S W (fun env h Q X => va env h (fun x h1 => vb env h1 (fun y h2 => bndB (cmpD op x y h2) (asB fun k h3 =>
      if k = true then vc env h3 (fun z h4 => bndB (cmpD op' y z h4) Q h4) X else Q (.bl false) h3) h2) X) X) σ H Q) :
    tChain (rC S.K S.cl op) (rC S.K S.cl op') (tE S W va) (tE S W vb) (tE S W vc) σ H Q := by
  obtain ⟨a, env, Qd, Xd, eH, sr, er, hb, kq, kx⟩ := h
  refine ⟨a, env, _, Xd, eH, sr, er, hb, fun b x v l s rx q => ?_, kx⟩
  refine ⟨b, env, _, Xd, rfl, s, er.mono l, q, fun c y u l2 s2 ry q2 => ?_, kx.mono l⟩
  refine ⟨c, x, y, _, rfl, s2, rx.mono l2, ry, q2, fun e d w l3 s3 rw3 q3 => ?_⟩
  cases rw3 with
  | bl k =>
    refine ⟨k, rfl, ?_⟩
    have q3 : (if k = true then vc env e.h (fun z h4 => bndB (cmpD op' y z h4) Qd h4) Xd else Qd (.bl false) e.h) := q3
    cases k with
    | true =>
      simp only [↓reduceIte] at q3 ⊢
      refine ⟨e, env, _, Xd, rfl, s3, er.mono ((l.trans l2).trans l3), q3, fun g z w l4 s4 rz q4 => ?_, kx.mono ((l.trans l2).trans l3)⟩
      exact ⟨g, y, z, Qd, rfl, s4, ry.mono (l3.trans l4), rz, q4, kq.mono (((l.trans l2).trans l3).trans l4)⟩
    | false =>
      simp only [Bool.false_eq_true, ↓reduceIte] at q3 ⊢
      exact kq _ _ _ ((l.trans l2).trans l3) s3 (.bl false) q3
  | _ => exact q3.elim
theorem snd_chn {op op2 : CmpOp} {a b d : E} (ha : Snd S a) (hb : Snd S b) (hd : Snd S d) : Snd S (.chn op op2 a b d) := by
  have key : ∀ n sc X W x op' op2' y z p, XOk S n sc X W → (ck S.nm X.N (.chn op op2 a b d)).e sc (.Compare x [op', op2'] [y, z] p) = true → op' = op ∧ op2' = op2 ∧ OpR X (compareOp op) (rC S.K S.cl op) ∧ OpR X (compareOp op2) (rC S.K S.cl op2) ∧
      PE X x (tE S W (sem (S.pg.g (S.pg.run n)) a).val) ∧ PE X y (tE S W (sem (S.pg.g (S.pg.run n)) b).val) ∧ PE X z (tE S W (sem (S.pg.g (S.pg.run n)) d).val) ∧ lastMarks [op, op2] [y, z] = false := fun n sc X W x op' op2' y z p o c => by
    have c : (decide (op = op') && decide (op2 = op2') && (ck S.nm X.N a).e sc x && (ck S.nm X.N b).e sc y && (ck S.nm X.N d).e sc z && !lastMarks [op', op2'] [y, z]) = true := c
    simp only [Bool.and_eq_true, decide_eq_true_eq, Bool.not_eq_true'] at c
    obtain ⟨⟨⟨⟨⟨rfl, rfl⟩, c1⟩, c2⟩, c3⟩, c4⟩ := c
    have r := op_cmp (X := X) (cl := S.cl) op o.hu (by have := o.room.un; omega)
    have r2 := op_cmp (X := X) (cl := S.cl) op2 o.hu (by have := o.room.un; omega)
    rw [o.K] at r r2
    exact ⟨rfl, rfl, r, r2, ha.e n sc X W x o c1, hb.e n sc X W y o c2, hd.e n sc X W z o c3, c4⟩
  have shp : ∀ N sc ex, (ck S.nm N (.chn op op2 a b d)).e sc ex = true → ∃ x op' op2' y z p, ex = .Compare x [op', op2'] [y, z] p := fun N sc ex c => by
    cases ex with
    | Compare x ops ys p =>
      match ops, ys, c with
      | [_, _], [_, _], _ => exact ⟨_, _, _, _, _, _, rfl⟩
      | [], _, c => cases c
      | [_], _, c => cases c
      | _ :: _ :: _ :: _, _, c => cases c
      | [_, _], [], c => cases c
      | [_, _], [_], c => cases c
      | [_, _], _ :: _ :: _ :: _, c => cases c
    | _ => cases c
  refine Snd.ofVal (fun _ => rfl) (fun _ => ⟨fun _ _ => rfl, fun _ _ _ => rfl, fun _ o => by cases o <;> rfl⟩) (fun _ _ _ _ _ => rfl) (fun n sc X W ex o c => ?_) (fun n sc X W ex o c => ?_)
  · obtain ⟨x, op', op2', y, z, p, rfl⟩ := shp _ _ _ c
    obtain ⟨rfl, rfl, r, r2, h1, h2, h3, h4⟩ := key n sc X W x op' op2' y z p o c
    exact impE (pe_chain r r2 h1 h2 h3 h4) fun σ H Q q => chn_imp (n := n) q
  · obtain ⟨x, op', op2', y, z, p, rfl⟩ := shp _ _ _ c
    obtain ⟨rfl, rfl, r, r2, h1, h2, h3, h4⟩ := key n sc X W x op' op2' y z p o c
    exact impT (pt_chain r r2 h1 h2 h3 h4) fun σ H Q q => chn_imp (n := n) (tst_imp q)
end Z

set_option Elab.async false
set_option linter.all false
set_option maxRecDepth 100000
set_option maxHeartbeats 4000000
/-! Z, part U: sorted(set(..)) of whole numbers. -/
namespace Z
open PySem PySem.Spec PyProof.Rows L2
section
variable {P : Program} {w : World} {A : Around} {E : Value → Shared → Prop} {s : Shared}
/-- a new set -/
abbrev nulS (w : World) : Obj := { cls := .type "set", dict := none, data := .set #[] 0 (.fresh 0 0 (!w.params.followText "set-order")) }
abbrev nulH (w : World) (h : Heap) : Heap := h.push (nulS w)
theorem ints_val {items : Array Value} {ns : List Int} (hit : IntsAre items.toList ns) (i : Nat) (v : Value) (hv : items[i]? = some v) : ∃ k t, ns[i]? = some k ∧ v = .int k t := by
  obtain ⟨t, e⟩ := PyProof.Rows.IntsAre.int_at hit i v (by rw [Array.getElem?_toList]; exact hv)
  have hsz := (Array.getElem?_eq_some_iff.mp hv).1
  have hi : i < ns.length := by have := IntsAre.length hit; rw [Array.length_toList] at this; omega
  exact ⟨ns[i], t, List.getElem?_eq_getElem hi, by rw [e, List.getD_eq_getElem?_getD, List.getElem?_eq_getElem hi]; rfl⟩
/-- what the set's making promises -/
noncomputable def madeS (w : World) (s : Shared) (ns : List Int) (r : Value) (s2 : Shared) : Prop := r = .none ∧ ∃ h' tk c, s2 = { s with heap := h', toks := tk } ∧ SetR w h' s.heap.objs.size (fun j => decide (j ∈ ns)) c ∧ c ≤ ns.length ∧ ∀ b o, s.heap.get? b = some o → h'.get? b = some o
theorem set_of_list {l : Addr} {items : Array Value} {ns : List Int} {Q : Value → Shared → Prop} (hA : A.handled = none) (hl : s.heap.IsList l items) (hit : IntsAre items.toList ns) (hb : ns.length + 1 < scanBound)
    (fin : ∀ s2, madeS w s ns .none s2 → Q (.ref s.heap.objs.size) s2) : wpAny (model P w) A (call (.type "set") [.ref l]) Q E s := by
  have ⟨cm, tm, kmro⟩ := PySem.F.called_set.mro
  have kmade := PySem.F.called_set.made
  have ksub := PySem.F.called_set.sub
  refine wpAny_call (codeAny_of_tree ?_)
  show wpAny _ _ (callAny (.type "set") _) _ _ _
  refine wpAny_pure ⟨Code.quiet_builtin _ (by decide +kernel), codeAny_builtin PySem.F.entry_type_call ?_⟩
  rw [Around.under_plain (weight_type_call_type "set" [.ref l] []) rfl]
  have k1 := PySem.F.called_set.notType
  have k2 := PySem.F.called_set.canCreate
  have k3 := PySem.F.typeCall_set_1 (.ref l)
  repeat (any_goals (first | assumption | wp_step))
  refine codeAny_mono (code_set_led1 (Q₁ := fun v s1 => v = .ref s.heap.objs.size ∧ s1 = { s with heap := nulH w s.heap }) (.ref l) (E := E) ⟨rfl, rfl⟩) fun out s1 ho => ?_
  match out, ho with
  | .error _, ho => exact ho
  | .ok (.ret v), ho =>
    obtain ⟨rfl, rfl⟩ := ho
    have hS : (nulH w s.heap).get? s.heap.objs.size = some (nulS w) := Heap.get?_push_size _ rfl
    have hT : Shared.TypeIs { s with heap := nulH w s.heap } (.ref s.heap.objs.size) "set" := ⟨_, hS, rfl⟩
    have k4 := PySem.F.called_set.init.lookup
    have k5 := PySem.F.called_set.init.bind (.ref s.heap.objs.size)
    repeat (any_goals (first | assumption | wp_step))
    refine codeAny_mono (codeAny_call_builtin (R := wants (madeS w s ns) E) PySem.F.called_set.init.plain PySem.F.entry_set_init (check_set_init_1 hT ?_)) fun o2 s2 h2 => ?_
    · have hn : items.size = ns.length := by have := IntsAre.length hit; rwa [Array.length_toList] at this
      have ⟨⟨oc, od, odt, osl⟩, ho, hc, nl, hd⟩ := hl
      simp only at hc hd
      subst hc hd
      have hlt : l < s.heap.objs.size := Heap.lt_size ho
      have g1 : (nulH w s.heap).get? l = some _ := Heap.get?_push_of_some _ ho
      have gl : (nulH w s.heap).IsList l items := ⟨_, g1, rfl, nl, rfl⟩
      have q1 := PySem.F.sub_list_set
      have q2 := PySem.F.sub_list_frozenset
      have q3 : (Value.type "list" == Value.type "dict") = false := by decide
      unfold Builtin.«set.__init__» noKeywords Builtin.Frozenset.updateFrom
      generalize hPI : pyIter = PI
      wp_walk
      subst hPI
      refine wpAny_pyIter_list gl (wpAny_bind (wpAny_runValue ?_))
      have hz : (nulH w s.heap).objs.size = s.heap.objs.size + 1 := Heap.size_push ..
      have hnI : l ≠ (nulH w s.heap).objs.size := hz ▸ Nat.ne_of_lt (Nat.lt_succ_of_lt hlt)
      have hnS : s.heap.objs.size ∉ [(nulH w s.heap).objs.size, l] := by
        intro z
        rcases List.mem_cons.mp z with z | z
        · exact absurd (z.trans hz) (Nat.ne_of_lt (Nat.lt_succ_self _))
        · exact absurd (List.mem_singleton.mp z).symm (Nat.ne_of_lt hlt)
      refine set_update_ints (Walks.list (by simp [hA]) _ l hnI items).toS s.heap.objs.size hnS ns hn hb (ints_val hit) (items.size - 0) 0 _ (by omega) (Nat.zero_le _)
        ⟨⟨_, Heap.get?_push_size _ rfl, rfl, rfl⟩, gl.push _⟩ ⟨0, Nat.le_refl 0, setR_new_at (Heap.get?_push_of_some _ hS)⟩ fun s' c' hm hc' hS' => ?_
      obtain ⟨h', gs', d', tk', os'⟩ := s'
      obtain rfl : gs' = s.gens := hm.gens
      obtain rfl : d' = s.drawn := hm.drawn
      obtain rfl : os' = s.os := hm.os
      show wpAny _ _ _ _ _ _
      refine wpAny_pure ?_
      show wpAny _ _ (ret Value.none) _ _ _
      refine wpAny_pure ⟨rfl, h', tk', c', rfl, hS', by omega, fun b o e => ?_⟩
      have hb0 := Heap.lt_size e
      refine hm.heap b o (fun z => ?_) (Heap.get?_push_of_some _ (Heap.get?_push_of_some _ e))
      rcases List.mem_cons.mp z with z | z
      · exact absurd z (Nat.ne_of_lt hb0)
      · exact absurd ((List.mem_singleton.mp z).trans hz) (Nat.ne_of_lt (Nat.lt_succ_of_lt hb0))
    · match o2, h2 with
      | .error _, h2 => exact h2
      | .ok (.ret v), h2 =>
        have hv : v = .none := h2.1
        subst hv
        repeat (any_goals (first | assumption | wp_step))
        exact fin _ h2
end
section
variable {X : Cx}
/-- set(a list or a tuple of whole numbers) -/
noncomputable def rSetI (K : PySem.W.Frag) (w : World) : List V → Hp → VK → Prop := fun xs H Q => ∃ (l : Addr) (ns : List Int), xs = [V.ref l] ∧ (SqL K H l (ns.map V.int) ∨ SqT K H l (ns.map V.int)) ∧ ns.length ≤ 1000 ∧
  ∀ p c, H p = none → c ≤ ns.length → Q (.ref p) (upd H p (SetO w p (fun j => decide (j ∈ ns)) c))
theorem cr_setI (hc : X.calm = true) : CallR X (.type "set") (rSetI X.K X.w) := by
  intro pins s σ H xs us Q I r ⟨l, ns, e, hl, hn, q⟩
  subst e
  rw [Vals.ref1 r]
  have fin : ∀ s2, madeS X.w s ns .none s2 → (EP X pins σ Q) (.ref s.heap.objs.size) s2 := by
    rintro s2 ⟨_, h', tk, c, rfl, hS, hcn, hk⟩
    have hf : H s.heap.objs.size = none := I.hok.fresh (Nat.le_refl _)
    exact ⟨.ref _, upd H s.heap.objs.size (SetO X.w s.heap.objs.size (fun j => decide (j ∈ ns)) c), I.laid (t' := tk) (fun b u e => hk b u e) (Nat.le_refl _) (setO_new hS), rfl, q _ c hf hcn⟩
  rcases hl with hl | hl
  · obtain ⟨its, rv, pl, hz⟩ := I.list hl
    exact set_of_list (I.ok.hd hc) pl.isList (ints_of_vals (by simpa using rv)) (by unfold scanBound; omega) fin
  · obtain ⟨its, rv, pl, hz⟩ := I.tuple hl
    exact call_set_tupI ns (I.ok.hd hc) pl (ints_of_vals (by simpa using rv)) (by unfold scanBound; omega) fun h' tk c hS hcn hk => fin _ ⟨rfl, h', tk, c, rfl, hS, hcn, hk⟩
end
end Z

set_option Elab.async false
set_option linter.all false
set_option maxRecDepth 100000
set_option maxHeartbeats 4000000
/-! Z, part UK: len(set(..)) of texts or whole numbers. -/
namespace Z
open PySem PySem.Spec PyProof.Rows L2
theorem hasK_iff {zs : List DKey} {z : DKey} : hasK zs z = true ↔ z ∈ zs := by
  unfold hasK
  rw [List.any_eq_true]
  exact ⟨fun ⟨y, h, e⟩ => of_decide_eq_true e ▸ h, fun h => ⟨z, h, decide_eq_true rfl⟩⟩
theorem mem_insK {zs : List DKey} {z y : DKey} : y ∈ insK zs z ↔ y ∈ zs ∨ y = z := by
  unfold insK
  split
  · rename_i h
    exact ⟨.inl, fun e => e.elim id fun e => e ▸ hasK_iff.mp h⟩
  · rw [List.mem_append, List.mem_singleton]
theorem insK_len {zs : List DKey} {z : DKey} : (insK zs z).length = if hasK zs z = true then zs.length else zs.length + 1 := by
  unfold insK
  split
  · rfl
  · rw [List.length_append, List.length_singleton]
theorem uniqK_snoc {zs : List DKey} {z : DKey} : uniqK (zs ++ [z]) = insK (uniqK zs) z := by unfold uniqK; rw [List.foldl_append]; rfl
theorem mem_foldK {y : DKey} : ∀ {zs acc : List DKey}, y ∈ zs.foldl insK acc ↔ y ∈ acc ∨ y ∈ zs
  | [], acc => by simp
  | z :: zs, acc => by rw [List.foldl_cons, mem_foldK, mem_insK, List.mem_cons, or_assoc]
theorem mem_uniqK {y : DKey} {zs : List DKey} : y ∈ uniqK zs ↔ y ∈ zs := by unfold uniqK; rw [mem_foldK]; simp
theorem foldK_le : ∀ {zs acc : List DKey}, (zs.foldl insK acc).length ≤ acc.length + zs.length
  | [], acc => Nat.le_refl _
  | z :: zs, acc => by
    rw [List.foldl_cons, List.length_cons]
    have h1 := foldK_le (zs := zs) (acc := insK acc z)
    have h2 := insK_len (zs := acc) (z := z)
    split at h2 <;> omega
theorem uniqK_le {zs : List DKey} : (uniqK zs).length ≤ zs.length := by
  have := foldK_le (zs := zs) (acc := [])
  simpa [uniqK] using this
section
variable {P : Program} {w : World} {A : Around} {E : Value → Shared → Prop} {s : Shared}
theorem setOf_same {h : Heap} {T : Addr} {f g : Key → Bool} {n m : Nat} (R : h.SetOf (mixKind P w) T f n) (e : ∀ k, f k = g k) (en : n = m) : h.SetOf (mixKind P w) T g m := by
  obtain rfl : f = g := funext e
  exact en ▸ R
theorem set_update_keys {I : Addr} {fp wr : List Addr} {G : Array GenState → Array GenState → Prop} {n : Nat} {Pv : Nat → Value → Prop} {St : Nat → Shared → Prop} {R : Result → Shared → Prop}
    (W : WalksS P w A.in1 I fp wr G n Pv St) (T : Addr) (hT : T ∉ fp) (ks : List Key) (hn : n = ks.length) (hb : ks.length + 1 < scanBound) (hval : ∀ i v, Pv i v → ∃ k, ks[i]? = some k ∧ RelV (kV k) v)
    (hfin : ∀ s', (∃ s0, Moved (T :: wr) G s0 s') → True) :
    ∀ (todo i : Nat) (s : Shared), n - i = todo → i ≤ n → St i s → s.heap.SetOf (mixKind P w) T (hasK (ks.take i)) (uniqK (ks.take i)).length →
      (∀ s', Moved (T :: wr) G s s' → s'.heap.SetOf (mixKind P w) T (hasK ks) (uniqK ks).length → R (.ok (.ret .none)) s') →
      codeAny (model P w) A (.builtin "set.update.loop" ⟨[.ref T, .ref I], []⟩) R s := by
  have offW : T ∉ wr := fun z => hT (W.sub _ z)
  have sub1 : ∀ b ∈ wr, b ∈ T :: wr := fun b q => .tail _ q
  intro todo
  induction todo with
  | zero =>
    intro i s ht hi hst R0 fin
    obtain rfl : i = n := by omega
    refine codeAny_builtin PyProof.Rows.F.entry_set_update_loop ?_
    rw [Around.under_plainId PyProof.Rows.F.plain_set_update_loop _]
    refine wpAny_bind (W.done s _ _ hst fun s1 m1 => wpAny_pure (fin s1 (m1.mono sub1) ?_))
    have R1 := setOf_at R0 fun o e => m1.heap T o offW e
    rw [List.take_of_length_le (show ks.length ≤ i by omega)] at R1
    exact R1
  | succ todo ih =>
    intro i s ht hi hst R0 fin
    have lt1 : i < n := by omega
    refine codeAny_builtin PyProof.Rows.F.entry_set_update_loop ?_
    rw [Around.under_plainId PyProof.Rows.F.plain_set_update_loop _]
    refine wpAny_bind (W.item i s _ _ lt1 hst fun v s1 hv st1 m1 => ?_)
    obtain ⟨k, hk, rv⟩ := hval i v hv
    have R1 := setOf_at R0 fun o e => m1.heap T o offW e
    refine wpAny_bind (wpAny_holding ?_)
    unfold setAdd
    refine wpAny_holding (wpAny_bind ((mixKind P w).pyHash (k := k) (kV_is rv) ?_))
    have small : (uniqK (ks.take i)).length + 1 < scanBound := by
      have a := uniqK_le (zs := ks.take i)
      have b := List.length_take_le i ks
      have c : (ks.take i).length ≤ ks.length := by rw [List.length_take]; omega
      omega
    refine wpAny_setAddHashed_of (s := { s1 with toks := s1.toks + 1 }) (kV_is rv) (key_scan rv) R1 small fun h2 sb2 R2 => ?_
    have R3 : h2.SetOf (mixKind P w) T (hasK (ks.take (i + 1))) (uniqK (ks.take (i + 1))).length := by
      have et : ks.take (i + 1) = ks.take i ++ [k] := by rw [List.take_add_one, hk]; rfl
      refine setOf_same R2 (fun j => ?_) ?_
      · rw [et, Bool.eq_iff_iff, Bool.or_eq_true, hasK_iff, hasK_iff, decide_eq_true_eq, List.mem_append, List.mem_singleton]
      · have : hasK (ks.take i) k = hasK (uniqK (ks.take i)) k := by rw [Bool.eq_iff_iff, hasK_iff, hasK_iff, mem_uniqK]
        rw [et, uniqK_snoc, insK_len, this]
    have keep2 : ∀ b : Addr, b ≠ T → h2.get? b = s1.heap.get? b := fun b nb => sb2.2 b nb
    refine wpAny_pure ⟨plainId_quiet PyProof.Rows.F.plain_set_update_loop _, ih (i + 1) _ (by omega) lt1 (W.frame _ s1 _ _ st1 (Nat.le_succ _) fun b hb o e => ?_) R3 fun s3 m3 R4 => ?_⟩
    · exact (keep2 b fun z => hT (z ▸ hb)).trans e
    · exact fin s3 (Moved.trans W.gtrans ((m1.mono sub1).then_heap (Nat.le_succ _) fun b o nb e => (keep2 b fun z => nb (z ▸ List.mem_cons_self)).trans e) m3) R4
/-- what the set's making promises -/
noncomputable def madeK (P : Program) (w : World) (s : Shared) (ks : List Key) (r : Value) (s2 : Shared) : Prop := r = .none ∧ ∃ h' tk, s2 = { s with heap := h', toks := tk } ∧ h'.SetOf (mixKind P w) s.heap.objs.size (hasK ks) (uniqK ks).length ∧ ∀ b o, s.heap.get? b = some o → h'.get? b = some o
theorem setOf_none {h : Heap} {T : Addr} {ks : List Key} (e : h.get? T = some (nulS w)) : h.SetOf (mixKind P w) T (hasK (ks.take 0)) (uniqK (ks.take 0)).length :=
  ⟨_, #[], 0, .fresh 0 0 (!w.params.followText "set-order"), e, ⟨rfl, rfl, rfl⟩, rfl, (fun e he => by simp at he), (fun k => by simp [hasK]), (by decide), (by rfl), rfl⟩
theorem set_of_listK {l : Addr} {items : Array Value} {ks : List Key} {Q : Value → Shared → Prop} (hA : A.handled = none) (hl : s.heap.IsList l items) (hn : items.size = ks.length) (hval : ∀ (i : Nat) (v : Value), items[i]? = some v → ∃ k : Key, ks[i]? = some k ∧ RelV (kV k) v) (hb : ks.length + 1 < scanBound)
    (fin : ∀ s2, madeK P w s ks .none s2 → Q (.ref s.heap.objs.size) s2) : wpAny (model P w) A (call (.type "set") [.ref l]) Q E s := by
  have ⟨cm, tm, kmro⟩ := PySem.F.called_set.mro
  have kmade := PySem.F.called_set.made
  have ksub := PySem.F.called_set.sub
  refine wpAny_call (codeAny_of_tree ?_)
  show wpAny _ _ (callAny (.type "set") _) _ _ _
  refine wpAny_pure ⟨Code.quiet_builtin _ (by decide +kernel), codeAny_builtin PySem.F.entry_type_call ?_⟩
  rw [Around.under_plain (weight_type_call_type "set" [.ref l] []) rfl]
  have k1 := PySem.F.called_set.notType
  have k2 := PySem.F.called_set.canCreate
  have k3 := PySem.F.typeCall_set_1 (.ref l)
  repeat (any_goals (first | assumption | wp_step))
  refine codeAny_mono (code_set_led1 (Q₁ := fun v s1 => v = .ref s.heap.objs.size ∧ s1 = { s with heap := nulH w s.heap }) (.ref l) (E := E) ⟨rfl, rfl⟩) fun out s1 ho => ?_
  match out, ho with
  | .error _, ho => exact ho
  | .ok (.ret v), ho =>
    obtain ⟨rfl, rfl⟩ := ho
    have hS : (nulH w s.heap).get? s.heap.objs.size = some (nulS w) := Heap.get?_push_size _ rfl
    have hT : Shared.TypeIs { s with heap := nulH w s.heap } (.ref s.heap.objs.size) "set" := ⟨_, hS, rfl⟩
    have k4 := PySem.F.called_set.init.lookup
    have k5 := PySem.F.called_set.init.bind (.ref s.heap.objs.size)
    repeat (any_goals (first | assumption | wp_step))
    refine codeAny_mono (codeAny_call_builtin (R := wants (madeK P w s ks) E) PySem.F.called_set.init.plain PySem.F.entry_set_init (check_set_init_1 hT ?_)) fun o2 s2 h2 => ?_
    · have ⟨⟨oc, od, odt, osl⟩, ho, hc, nl, hd⟩ := hl
      simp only at hc hd
      subst hc hd
      have hlt : l < s.heap.objs.size := Heap.lt_size ho
      have g1 : (nulH w s.heap).get? l = some _ := Heap.get?_push_of_some _ ho
      have gl : (nulH w s.heap).IsList l items := ⟨_, g1, rfl, nl, rfl⟩
      have q1 := PySem.F.sub_list_set
      have q2 := PySem.F.sub_list_frozenset
      have q3 : (Value.type "list" == Value.type "dict") = false := by decide
      unfold Builtin.«set.__init__» noKeywords Builtin.Frozenset.updateFrom
      generalize hPI : pyIter = PI
      wp_walk
      subst hPI
      refine wpAny_pyIter_list gl (wpAny_bind (wpAny_runValue ?_))
      have hz : (nulH w s.heap).objs.size = s.heap.objs.size + 1 := Heap.size_push ..
      have hnI : l ≠ (nulH w s.heap).objs.size := hz ▸ Nat.ne_of_lt (Nat.lt_succ_of_lt hlt)
      have hnS : s.heap.objs.size ∉ [(nulH w s.heap).objs.size, l] := by
        intro z
        rcases List.mem_cons.mp z with z | z
        · exact absurd (z.trans hz) (Nat.ne_of_lt (Nat.lt_succ_self _))
        · exact absurd (List.mem_singleton.mp z).symm (Nat.ne_of_lt hlt)
      refine set_update_keys (Walks.list (by simp [hA]) _ l hnI items).toS s.heap.objs.size hnS ks hn hb hval (fun _ _ => trivial) (items.size - 0) 0 _ (by omega) (Nat.zero_le _)
        ⟨⟨_, Heap.get?_push_size _ rfl, rfl, rfl⟩, gl.push _⟩ (setOf_none (Heap.get?_push_of_some _ hS)) fun s' hm hS' => ?_
      obtain ⟨h', gs', d', tk', os'⟩ := s'
      obtain rfl : gs' = s.gens := hm.gens
      obtain rfl : d' = s.drawn := hm.drawn
      obtain rfl : os' = s.os := hm.os
      show wpAny _ _ _ _ _ _
      refine wpAny_pure ?_
      show wpAny _ _ (ret Value.none) _ _ _
      refine wpAny_pure ⟨rfl, h', tk', rfl, hS', fun b o e => ?_⟩
      have hb0 := Heap.lt_size e
      refine hm.heap b o (fun z => ?_) (Heap.get?_push_of_some _ (Heap.get?_push_of_some _ e))
      rcases List.mem_cons.mp z with z | z
      · exact absurd z (Nat.ne_of_lt hb0)
      · exact absurd ((List.mem_singleton.mp z).trans hz) (Nat.ne_of_lt (Nat.lt_succ_of_lt hb0))
    · match o2, h2 with
      | .error _, h2 => exact h2
      | .ok (.ret v), h2 =>
        have hv : v = .none := h2.1
        subst hv
        repeat (any_goals (first | assumption | wp_step))
        exact fin _ h2
end
section
variable {X : Cx}
/-- set(a list of texts or whole numbers) -/
noncomputable def rSetK (K : PySem.W.Frag) (P : Program) (w : World) : List V → Hp → VK → Prop := fun xs H Q => ∃ (l : Addr) (ks : List Key), xs = [V.ref l] ∧ SqL K H l (ks.map kV) ∧ ks.length ≤ 1000 ∧
  ∀ p, H p = none → Q (.ref p) (upd H p (SetK P w p (hasK ks) (uniqK ks).length))
theorem keys_at {ks : List Key} {its : List Value} (r : Vals (ks.map kV) its) (i : Nat) (v : Value) (hv : its[i]? = some v) : ∃ k, ks[i]? = some k ∧ RelV (kV k) v := by
  have hi : i < its.length := (List.getElem?_eq_some_iff.mp hv).1
  have hl := r.length
  rw [List.length_map] at hl
  have hk : i < ks.length := by omega
  obtain ⟨u, hu, rv⟩ := r.get (i := i) (x := kV ks[i]) (by rw [List.getElem?_map, List.getElem?_eq_getElem hk]; rfl)
  rw [hv] at hu
  cases hu
  exact ⟨ks[i], List.getElem?_eq_getElem hk, rv⟩
theorem cr_setK (hc : X.calm = true) : CallR X (.type "set") (rSetK X.K X.prog X.w) := by
  intro pins s σ H xs us Q I r ⟨l, ks, e, hl, hn, q⟩
  subst e
  rw [Vals.ref1 r]
  obtain ⟨its, rv, pl, hz⟩ := I.list hl
  have hsz : its.toArray.size = ks.length := by rw [List.size_toArray, ← rv.length, List.length_map]
  refine set_of_listK (ks := ks) (I.ok.hd hc) pl.isList hsz (fun i v hv => keys_at rv i v (by simpa using hv)) (by unfold scanBound; omega) ?_
  rintro s2 ⟨_, h', tk, rfl, hS, hk⟩
  have hf : H s.heap.objs.size = none := I.hok.fresh (Nat.le_refl _)
  exact ⟨.ref _, upd H s.heap.objs.size (SetK X.prog X.w s.heap.objs.size (hasK ks) (uniqK ks).length), I.laid (t' := tk) (fun b u e => hk b u e) (Nat.le_refl _) (setK_new hS), rfl, q _ hf⟩
/-- len(the set) -/
noncomputable def rLenK (P : Program) (w : World) : List V → Hp → VK → Prop := fun xs H Q => ∃ (p : Addr) (f : Key → Bool) (n : Nat), xs = [V.ref p] ∧ H p = some (SetK P w p f n) ∧ n ≤ 1000 ∧ Q (.int (n : Nat)) H
theorem cr_lenK : CallR X (.builtin "len") (rLenK X.prog X.w) := by
  intro pins s σ H xs us Q I r ⟨p, f, n, e, hp, hn, q⟩
  subst e
  rw [Vals.ref1 r]
  obtain ⟨o, es, ep, t, ho, hex, hd, _, _, _, hf, hz⟩ := setK_get I hp
  exact call_len_set ho hex hd hf (by rw [hz]; omega) ⟨.int (n : Nat), H, I.tok _, ⟨_, by rw [hz]⟩, q⟩
end
end Z

set_option Elab.async false
set_option linter.all false
set_option maxRecDepth 100000
set_option maxHeartbeats 4000000
/-! Z, part US: sorted(set(..)) of a list of texts. -/
namespace Z
open PySem PySem.Spec PyProof.Rows L2
theorem insT_len {zs : List Str} {z : Str} : (insT zs z).length ≤ zs.length + 1 := by
  unfold insT
  split
  · omega
  · rw [List.length_cons]; omega
theorem uniqT_snoc {zs : List Str} {z : Str} : uniqT (zs ++ [z]) = insT (uniqT zs) z := by unfold uniqT; rw [List.foldl_append]; rfl
theorem foldT_le : ∀ {zs acc : List Str}, (zs.foldl insT acc).length ≤ acc.length + zs.length
  | [], acc => Nat.le_refl _
  | z :: zs, acc => by
    rw [List.foldl_cons, List.length_cons]
    have h1 := foldT_le (zs := zs) (acc := insT acc z)
    have h2 := insT_len (zs := acc) (z := z)
    omega
theorem uniqT_le {zs : List Str} : (uniqT zs).length ≤ zs.length := by
  have := foldT_le (zs := zs) (acc := [])
  simpa [uniqT] using this
/-- an entry's text -/
noncomputable def txtE (e : Int × Value) : Str := match e.2 with
  | .str x _ => x
  | _ => Str.empty
noncomputable def GoodT (w : World) (e : Int × Value) : Prop := ∃ x t, e.2 = Value.str x t ∧ e.1 = hashStr w x
/-- a set of texts that can be walked -/
noncomputable def TxS (w : World) (h : Heap) (a : Addr) (zs : List Str) : Prop :=
  ∃ o es ep t, h.get? a = some o ∧ o.ExactSet ∧ o.data = .set es ep t ∧ (∀ e ∈ es.toList, GoodT w e) ∧ (es.toList.map txtE).Perm zs ∧ zs.Nodup ∧ es.size < scanBound ∧ t.fits es.size = true ∧ Ris t.place.toList ∧ (w.params.followText "set-order" = true ∨ t.led = true)
section
variable {P : Program} {w : World} {A : Around} {E : Value → Shared → Prop} {s : Shared}
theorem TxS.at {h h' : Heap} {a : Addr} {zs : List Str} (R : TxS w h a zs) (k : ∀ o, h.get? a = some o → h'.get? a = some o) : TxS w h' a zs := by
  obtain ⟨o, es, ep, t, ho, r⟩ := R
  exact ⟨o, es, ep, t, k o ho, r⟩
theorem goodT_elems {l : List (Int × Value)} (g : ∀ e ∈ l, GoodT w e) : ElemsOf (PySem.strKind P w) l := fun e he => by
  obtain ⟨k, tk, h1, h2⟩ := g e he
  exact ⟨⟨k, by rw [h1]; exact strKind_is P w k tk, h2⟩, by rw [h1]; rfl⟩
theorem goodT_is {e : Int × Value} (g : GoodT w e) (k : Str) : (PySem.strKind P w).is k e.2 = true ↔ txtE e = k := by
  obtain ⟨k0, tk, h1, _⟩ := g
  unfold txtE
  rw [h1]
  show (Value.isStrOf k (Value.str k0 tk)) = true ↔ k0 = k
  constructor
  · intro z
    obtain ⟨t, e⟩ := Value.isStrOf_shape z
    cases e; rfl
  · rintro rfl
    exact strKind_is P w k0 tk
theorem tx_tail {g : Bool → PySem.Sem Unit} (hg : ∀ (b : Bool) (s₁ : Shared) (Q' : Unit → Shared → Prop), Q' () s₁ → wpAny (model P w) A (g b) Q' E s₁) {a : Addr}
    {o : Obj} {es : Array (Int × Value)} {ep : Nat} {t : SetTable} (ho : s.heap.get? a = some o) (hex : o.ExactSet) (hd : o.data = .set es ep t)
    {es1 : Array (Int × Value)} {t2 : SetTable} {zs : List Str} (g1 : ∀ e ∈ es1.toList, GoodT w e) (pm1 : (es1.toList.map txtE).Perm zs) (nd1 : zs.Nodup)
    (hb1 : es1.size < scanBound) (hf2 : t2.fits es1.size = true) (hr : Ris t2.place.toList) (hl : w.params.followText "set-order" = true ∨ t2.led = true) {wasDummy : Bool} {R : Option Bool → Shared → Prop}
    (hR : ∀ h', Heap.SameBut a s.heap h' → TxS w h' a zs → R (some true) { s with heap := h' }) :
    wpAny (model P w) A (do
        storeSet a es1 t2
        if (!wasDummy && t2.tooFull) = true then do
            g (relayAll t2 es1 (SetTable.grown es1.size)).2.2
            storeSet a (relayAll t2 es1 (SetTable.grown es1.size)).1 (relayAll t2 es1 (SetTable.grown es1.size)).2.1
            pure (some true)
          else pure (some true)) R E s := by
  have st1 := store_at (es' := es1) (t' := t2) ho hd
  have c1 := Heap.SameBut.update s.heap a (Obj.putSet es1 t2)
  refine wpAny_bind (wpAny_storeSet_of ho hd ?_ (fits_of_scanBound hb1))
  by_cases full : (!wasDummy && t2.tooFull) = true
  · rw [if_pos full]
    obtain ⟨Z, hZ⟩ : ∃ Z, Z = relayAll t2 es1 (SetTable.grown es1.size) := ⟨_, rfl⟩
    have pm := hZ ▸ relayAll_perm t2 es1 (SetTable.grown es1.size)
    have f3 := hZ ▸ relayAll_fits t2 es1 (SetTable.grown es1.size)
    have r3 := hZ ▸ relayAll_ris t2 es1 (SetTable.grown es1.size)
    have l3 := hZ ▸ relayAll_led t2 es1 (SetTable.grown es1.size)
    rw [← hZ]
    have b2 : Z.1.size < scanBound := by
      have z : Z.1.size = es1.size := by rw [← Array.length_toList, pm.length_eq, Array.length_toList]
      omega
    have st2 := store_at (es' := Z.1) (t' := Z.2.1) st1 rfl
    refine wpAny_bind (hg _ _ _ (wpAny_bind (wpAny_storeSet_of st1 rfl ?_ (fits_of_scanBound b2))))
    exact wpAny_pure (hR _ (c1.trans (Heap.SameBut.update _ a _)) ⟨_, Z.1, _, Z.2.1, st2, hex, rfl, fun e he => g1 e (pm.mem_iff.mp he), (pm.map txtE).trans pm1, nd1, b2, f3, r3, hl.imp id fun z => l3.trans z⟩)
  · rw [if_neg full]
    exact wpAny_pure (hR _ c1 ⟨_, es1, _, t2, st1, hex, rfl, g1, pm1, nd1, hb1, hf2, hr, hl⟩)
theorem tx_add {a : Addr} {zs : List Str} {k : Str} {tk : Tok} {Q : Bool → Shared → Prop} (R : TxS w s.heap a zs) (room : zs.length + 1 < scanBound)
    (hQ : ∀ (b : Bool) h', Heap.SameBut a s.heap h' → TxS w h' a (insT zs k) → Q b { s with heap := h' }) :
    wpAny (model P w) A (setAddHashed a (.str k tk) (hashStr w k)) Q E s := by
  obtain ⟨o, es, ep, t, ho, hex, hd, g, pz, nz, hb, hf, hr, hl⟩ := R
  have isk : (PySem.strKind P w).is k (.str k tk) = true := strKind_is P w k tk
  have sc : (Value.str k tk).scannable = true := rfl
  have el : ElemsOf (PySem.strKind P w) es.toList := goodT_elems g
  unfold setAddHashed setAddHashedIn
  refine wpAny_holding (wpAny_bind (wpAny_setState_of ho hd hf ?_))
  dsimp only
  rw [byScan_of sc hb el]
  simp only [↓reduceIte]
  unfold setAddByScan
  refine wpAny_bind (wpAny_bind (wpAny_rule (wpAny_bind (wpAny_setScan_of isk ho hd hf el ?_))))
  have has : ∀ e ∈ es.toList, txtE e ∈ zs := fun e he => pz.mem_iff.mp (List.mem_map_of_mem he)
  cases hfi : List.findIdx? (fun e => (PySem.strKind P w).is k e.2) es.toList with
  | some j =>
    dsimp only
    obtain ⟨hj, pj, _⟩ := List.findIdx?_eq_some_iff_getElem.mp hfi
    have hk : k ∈ zs := (goodT_is (P := P) (g _ (List.getElem_mem hj)) k).mp pj ▸ has _ (List.getElem_mem hj)
    have e1 : insT zs k = zs := if_pos hk
    exact wpAny_pure (wpAny_pure (hQ _ s.heap (Heap.SameBut.refl a s.heap) (by rw [e1]; exact ⟨o, es, ep, t, ho, hex, hd, g, pz, nz, hb, hf, hr, hl⟩)))
  | none =>
    dsimp only
    have hk : k ∉ zs := fun z => by
      obtain ⟨e, he, q⟩ := List.mem_map.mp (pz.mem_iff.mpr z)
      have c := List.findIdx?_eq_none_iff.mp hfi e he
      rw [(goodT_is (P := P) (g e he) k).mpr q] at c
      cases c
    have e1 : insT zs k = k :: zs := if_neg hk
    rw [e1] at hQ
    have gw : ∀ (b : Bool) {s₁ : Shared} {Q' : Unit → Shared → Prop}, Q' () s₁ → wpAny (model P w) A (match b with | true => rule "set.scan.the-table-gave-way" | false => pure ()) Q' E s₁ :=
      fun b s₁ Q' q => by cases b <;> first | exact wpAny_pure q | exact wpAny_rule q
    show wpAny _ _ _ _ _ _
    have pm := layNew_perm t es (hashStr w k) (.str k tk)
    have f1 := layNew_fits t es (hashStr w k) (.str k tk)
    have r1 := layNew_ris t es (hashStr w k) (.str k tk) hr
    have l1 := layNew_led t es (hashStr w k) (.str k tk)
    generalize layNew t es (hashStr w k) (.str k tk) = Z at pm f1 r1 l1 ⊢
    obtain ⟨es1, t1, wasDummy, gave⟩ := Z
    dsimp only at pm f1 r1 l1 ⊢
    rw [Array.toList_push] at pm
    have pc : es1.toList.Perm ((hashStr w k, Value.str k tk) :: es.toList) := pm.trans (List.perm_append_singleton _ _)
    have pk : (es1.toList.map txtE).Perm (k :: zs) := (pc.map txtE).trans (pz.cons k)
    have g1 : ∀ e ∈ es1.toList, GoodT w e := fun e he => by
      rcases List.mem_cons.mp (pc.mem_iff.mp he) with z | z
      · rw [z]; exact ⟨k, tk, rfl, rfl⟩
      · exact g e z
    have n1 : (k :: zs).Nodup := List.nodup_cons.mpr ⟨hk, nz⟩
    have b1 : es1.size < scanBound := by
      have z := pk.length_eq
      rw [List.length_map, Array.length_toList, List.length_cons] at z
      omega
    have led : w.params.followText "set-order" = true ∨ t1.led = true := hl.imp id fun z => l1.trans z
    refine wpAny_bind (gw _ ?_)
    split
    · refine wpAny_bind ?_
      rw [hashByValue_scannable 8 sc]
      refine wpAny_pure (tx_tail ?_ ho hex hd g1 pk n1 b1 ?_ ?_ ?_ ?_)
      · intro b s₁ Q' q; cases b <;> first | exact wpAny_pure q | exact wpAny_rule q
      · first | (split <;> first | exact f1 | exact SetTable.fits_plain_off f1) | exact f1
      · first | (split <;> exact r1) | exact r1
      · first | (split <;> exact led) | exact led
      · intro h' sb r; dsimp only; exact wpAny_pure (hQ _ h' sb r)
    · refine wpAny_bind (wpAny_pure ?_)
      simp only [↓reduceIte]
      refine tx_tail ?_ ho hex hd g1 pk n1 b1 f1 r1 led ?_
      · intro b s₁ Q' q; cases b <;> first | exact wpAny_pure q | exact wpAny_rule q
      · intro h' sb r; dsimp only; exact wpAny_pure (hQ _ h' sb r)
theorem set_update_txts {I : Addr} {fp wr : List Addr} {G : Array GenState → Array GenState → Prop} {n : Nat} {Pv : Nat → Value → Prop} {St : Nat → Shared → Prop} {R : Result → Shared → Prop}
    (W : WalksS P w A.in1 I fp wr G n Pv St) (T : Addr) (hT : T ∉ fp) (ks : List Str) (hn : n = ks.length) (hb : ks.length + 1 < scanBound) (hval : ∀ i v, Pv i v → ∃ k, ks[i]? = some k ∧ ∃ t, v = Value.str k t)
    (hfin : ∀ s', (∃ s0, Moved (T :: wr) G s0 s') → True) :
    ∀ (todo i : Nat) (s : Shared), n - i = todo → i ≤ n → St i s → TxS w s.heap T (uniqT (ks.take i)) →
      (∀ s', Moved (T :: wr) G s s' → TxS w s'.heap T (uniqT ks) → R (.ok (.ret .none)) s') →
      codeAny (model P w) A (.builtin "set.update.loop" ⟨[.ref T, .ref I], []⟩) R s := by
  have offW : T ∉ wr := fun z => hT (W.sub _ z)
  have sub1 : ∀ b ∈ wr, b ∈ T :: wr := fun b q => .tail _ q
  intro todo
  induction todo with
  | zero =>
    intro i s ht hi hst R0 fin
    obtain rfl : i = n := by omega
    refine codeAny_builtin PyProof.Rows.F.entry_set_update_loop ?_
    rw [Around.under_plainId PyProof.Rows.F.plain_set_update_loop _]
    refine wpAny_bind (W.done s _ _ hst fun s1 m1 => wpAny_pure (fin s1 (m1.mono sub1) ?_))
    have R1 := R0.at fun o e => m1.heap T o offW e
    rw [List.take_of_length_le (show ks.length ≤ i by omega)] at R1
    exact R1
  | succ todo ih =>
    intro i s ht hi hst R0 fin
    have lt1 : i < n := by omega
    refine codeAny_builtin PyProof.Rows.F.entry_set_update_loop ?_
    rw [Around.under_plainId PyProof.Rows.F.plain_set_update_loop _]
    refine wpAny_bind (W.item i s _ _ lt1 hst fun v s1 hv st1 m1 => ?_)
    obtain ⟨k, hk, t, rfl⟩ := hval i v hv
    have R1 := R0.at fun o e => m1.heap T o offW e
    refine wpAny_bind (wpAny_holding ?_)
    unfold setAdd
    refine wpAny_holding (wpAny_bind ((PySem.strKind P w).pyHash (k := k) (strKind_is P w k t) ?_))
    have small : (uniqT (ks.take i)).length + 1 < scanBound := by
      have a := uniqT_le (zs := ks.take i)
      have c : (ks.take i).length ≤ ks.length := by rw [List.length_take]; omega
      omega
    refine tx_add (s := { s1 with toks := s1.toks + 1 }) R1 small fun b h2 sb2 R2 => ?_
    have R3 : TxS w h2 T (uniqT (ks.take (i + 1))) := by
      have et : ks.take (i + 1) = ks.take i ++ [k] := by rw [List.take_add_one, hk]; rfl
      rw [et, uniqT_snoc]; exact R2
    have keep2 : ∀ b : Addr, b ≠ T → h2.get? b = s1.heap.get? b := fun b nb => sb2.2 b nb
    refine wpAny_pure ⟨plainId_quiet PyProof.Rows.F.plain_set_update_loop _, ih (i + 1) _ (by omega) lt1 (W.frame _ s1 _ _ st1 (Nat.le_succ _) fun b hb o e => ?_) R3 fun s3 m3 R4 => ?_⟩
    · exact (keep2 b fun z => hT (z ▸ hb)).trans e
    · exact fin s3 (Moved.trans W.gtrans ((m1.mono sub1).then_heap (Nat.le_succ _) fun b o nb e => (keep2 b fun z => nb (z ▸ List.mem_cons_self)).trans e) m3) R4
/-- what the set's making promises -/
noncomputable def madeT (P : Program) (w : World) (s : Shared) (ks : List Str) (r : Value) (s2 : Shared) : Prop := r = .none ∧ ∃ h' tk, s2 = { s with heap := h', toks := tk } ∧ TxS w h' s.heap.objs.size (uniqT ks) ∧ ∀ b o, s.heap.get? b = some o → h'.get? b = some o
theorem txS_none {h : Heap} {T : Addr} {ks : List Str} (e : h.get? T = some (nulS w)) : TxS w h T (uniqT (ks.take 0)) :=
  ⟨_, #[], 0, .fresh 0 0 (!w.params.followText "set-order"), e, ⟨rfl, rfl, rfl⟩, rfl, (fun e he => by simp at he), List.Perm.refl _, List.nodup_nil, (by decide), (by rfl), .nil, by
    show w.params.followText "set-order" = true ∨ (!w.params.followText "set-order") = true
    cases w.params.followText "set-order" <;> simp⟩
theorem set_of_listT {l : Addr} {items : Array Value} {ks : List Str} {Q : Value → Shared → Prop} (hA : A.handled = none) (hl : s.heap.IsList l items) (hn : items.size = ks.length) (hval : ∀ (i : Nat) (v : Value), items[i]? = some v → ∃ k : Str, ks[i]? = some k ∧ ∃ t, v = Value.str k t) (hb : ks.length + 1 < scanBound)
    (fin : ∀ s2, madeT P w s ks .none s2 → Q (.ref s.heap.objs.size) s2) : wpAny (model P w) A (call (.type "set") [.ref l]) Q E s := by
  have ⟨cm, tm, kmro⟩ := PySem.F.called_set.mro
  have kmade := PySem.F.called_set.made
  have ksub := PySem.F.called_set.sub
  refine wpAny_call (codeAny_of_tree ?_)
  show wpAny _ _ (callAny (.type "set") _) _ _ _
  refine wpAny_pure ⟨Code.quiet_builtin _ (by decide +kernel), codeAny_builtin PySem.F.entry_type_call ?_⟩
  rw [Around.under_plain (weight_type_call_type "set" [.ref l] []) rfl]
  have k1 := PySem.F.called_set.notType
  have k2 := PySem.F.called_set.canCreate
  have k3 := PySem.F.typeCall_set_1 (.ref l)
  repeat (any_goals (first | assumption | wp_step))
  refine codeAny_mono (code_set_led1 (Q₁ := fun v s1 => v = .ref s.heap.objs.size ∧ s1 = { s with heap := nulH w s.heap }) (.ref l) (E := E) ⟨rfl, rfl⟩) fun out s1 ho => ?_
  match out, ho with
  | .error _, ho => exact ho
  | .ok (.ret v), ho =>
    obtain ⟨rfl, rfl⟩ := ho
    have hS : (nulH w s.heap).get? s.heap.objs.size = some (nulS w) := Heap.get?_push_size _ rfl
    have hT : Shared.TypeIs { s with heap := nulH w s.heap } (.ref s.heap.objs.size) "set" := ⟨_, hS, rfl⟩
    have k4 := PySem.F.called_set.init.lookup
    have k5 := PySem.F.called_set.init.bind (.ref s.heap.objs.size)
    repeat (any_goals (first | assumption | wp_step))
    refine codeAny_mono (codeAny_call_builtin (R := wants (madeT P w s ks) E) PySem.F.called_set.init.plain PySem.F.entry_set_init (check_set_init_1 hT ?_)) fun o2 s2 h2 => ?_
    · have ⟨⟨oc, od, odt, osl⟩, ho, hc, nl, hd⟩ := hl
      simp only at hc hd
      subst hc hd
      have hlt : l < s.heap.objs.size := Heap.lt_size ho
      have g1 : (nulH w s.heap).get? l = some _ := Heap.get?_push_of_some _ ho
      have gl : (nulH w s.heap).IsList l items := ⟨_, g1, rfl, nl, rfl⟩
      have q1 := PySem.F.sub_list_set
      have q2 := PySem.F.sub_list_frozenset
      have q3 : (Value.type "list" == Value.type "dict") = false := by decide
      unfold Builtin.«set.__init__» noKeywords Builtin.Frozenset.updateFrom
      generalize hPI : pyIter = PI
      wp_walk
      subst hPI
      refine wpAny_pyIter_list gl (wpAny_bind (wpAny_runValue ?_))
      have hz : (nulH w s.heap).objs.size = s.heap.objs.size + 1 := Heap.size_push ..
      have hnI : l ≠ (nulH w s.heap).objs.size := hz ▸ Nat.ne_of_lt (Nat.lt_succ_of_lt hlt)
      have hnS : s.heap.objs.size ∉ [(nulH w s.heap).objs.size, l] := by
        intro z
        rcases List.mem_cons.mp z with z | z
        · exact absurd (z.trans hz) (Nat.ne_of_lt (Nat.lt_succ_self _))
        · exact absurd (List.mem_singleton.mp z).symm (Nat.ne_of_lt hlt)
      refine set_update_txts (Walks.list (by simp [hA]) _ l hnI items).toS s.heap.objs.size hnS ks hn hb hval (fun _ _ => trivial) (items.size - 0) 0 _ (by omega) (Nat.zero_le _)
        ⟨⟨_, Heap.get?_push_size _ rfl, rfl, rfl⟩, gl.push _⟩ (txS_none (Heap.get?_push_of_some _ hS)) fun s' hm hS' => ?_
      obtain ⟨h', gs', d', tk', os'⟩ := s'
      obtain rfl : gs' = s.gens := hm.gens
      obtain rfl : d' = s.drawn := hm.drawn
      obtain rfl : os' = s.os := hm.os
      show wpAny _ _ _ _ _ _
      refine wpAny_pure ?_
      show wpAny _ _ (ret Value.none) _ _ _
      refine wpAny_pure ⟨rfl, h', tk', rfl, hS', fun b o e => ?_⟩
      have hb0 := Heap.lt_size e
      refine hm.heap b o (fun z => ?_) (Heap.get?_push_of_some _ (Heap.get?_push_of_some _ e))
      rcases List.mem_cons.mp z with z | z
      · exact absurd z (Nat.ne_of_lt hb0)
      · exact absurd ((List.mem_singleton.mp z).trans hz) (Nat.ne_of_lt (Nat.lt_succ_of_lt hb0))
    · match o2, h2 with
      | .error _, h2 => exact h2
      | .ok (.ret v), h2 =>
        have hv : v = .none := h2.1
        subst hv
        repeat (any_goals (first | assumption | wp_step))
        exact fin _ h2
end
/-- the set of texts at a, to be walked -/
noncomputable def SetTx (w : World) (a : Addr) (zs : List Str) : HO := .ext fun h => TxS w h a zs
section
variable {X : Cx}
theorem setTx_new {w : World} {P : Program} {H : Hp} {h : Heap} {a : Addr} {zs : List Str} (R : TxS w h a zs) : ObjOk P w H h a (SetTx w a zs) := by
  have ⟨o, _, _, _, ho, _⟩ := R
  exact ⟨R, ⟨o, ho⟩, fun h1 h2 p k => TxS.at p k⟩
theorem strs_get {ks : List Str} {its : List Value} (r : Vals (ks.map V.str) its) (i : Nat) (v : Value) (hv : its[i]? = some v) : ∃ k, ks[i]? = some k ∧ ∃ t, v = Value.str k t := by
  have hi : i < its.length := (List.getElem?_eq_some_iff.mp hv).1
  have hl := r.length
  rw [List.length_map] at hl
  have hk : i < ks.length := by omega
  obtain ⟨u, hu, rv⟩ := r.get (i := i) (x := V.str ks[i]) (by rw [List.getElem?_map, List.getElem?_eq_getElem hk]; rfl)
  rw [hv] at hu
  cases hu
  exact ⟨ks[i], List.getElem?_eq_getElem hk, rv⟩
/-- set(a list of texts) -/
noncomputable def rSetTx (K : PySem.W.Frag) (w : World) : List V → Hp → VK → Prop := fun xs H Q => ∃ (l : Addr) (ks : List Str), xs = [V.ref l] ∧ SqL K H l (ks.map V.str) ∧ ks.length ≤ 1000 ∧
  ∀ p, H p = none → Q (.ref p) (upd H p (SetTx w p (uniqT ks)))
theorem cr_setTx (hc : X.calm = true) : CallR X (.type "set") (rSetTx X.K X.w) := by
  intro pins s σ H xs us Q I r ⟨l, ks, e, hl, hn, q⟩
  subst e
  rw [Vals.ref1 r]
  obtain ⟨its, rv, pl, hz⟩ := I.list hl
  have hsz : its.toArray.size = ks.length := by rw [List.size_toArray, ← rv.length, List.length_map]
  refine set_of_listT (ks := ks) (I.ok.hd hc) pl.isList hsz (fun i v hv => strs_get rv i v (by simpa using hv)) (by unfold scanBound; omega) ?_
  rintro s2 ⟨_, h', tk, rfl, hS, hk⟩
  have hf : H s.heap.objs.size = none := I.hok.fresh (Nat.le_refl _)
  exact ⟨.ref _, upd H s.heap.objs.size (SetTx X.w s.heap.objs.size (uniqT ks)), I.laid (t' := tk) (fun b u e => hk b u e) (Nat.le_refl _) (setTx_new hS), rfl, q _ hf⟩
theorem strs_vals : ∀ {vs : List Value} {l : List (Int × Value)}, (∀ v ∈ vs, ∃ x t, v = Value.str x t) → StrsAre vs (vs.map fun v => txtE (0, v))
  | [], _, _ => .nil
  | v :: vs, l, h => by
    obtain ⟨x, t, rfl⟩ := h v List.mem_cons_self
    exact .cons _ _ (strs_vals (l := l) fun u hu => h u (List.mem_cons_of_mem _ hu))
/-- sorted(the set) -/
noncomputable def rSrtTx (w : World) : List V → Hp → VK → Prop := fun xs H Q => ∃ (a : Addr) (zs : List Str), xs = [V.ref a] ∧ H a = some (SetTx w a zs) ∧ zs.length < 64 ∧
  ∀ ys p, ys.Perm zs → sortedS ys = true → H p = none → Q (.ref p) (upd H p (.lst (ys.map V.str)))
theorem cr_srtTx (hc : X.calm = true) : CallR X (.builtin "sorted") (rSrtTx X.w) := by
  intro pins s σ H xs us Q I r ⟨a, zs, e, ha, h64, q⟩
  subst e
  rw [Vals.ref1 r]
  obtain ⟨o, es, ep, t, ho, hex, hd, g, pz, nz, hb, hf, hr, hl⟩ := (show TxS X.w s.heap a zs from (I.hok a _ ha).1)
  refine Calls.call_function_entry PyProof.Rows.kind_sorted PyProof.Rows.plain_sorted PyProof.Rows.entry_sorted (PyProof.Rows.args_sorted1 _) ?_
  unfold Builtin.«sorted»
  refine wpAny_bind (m := checkCount "sorted" 1 1 _) (wpAny_pure ?_)
  refine wpAny_bind (collect_set (A := X.A.in1) (I.ok.hd hc) ⟨o, ho, hex.1, hd⟩ hf hb hr hl fun s1 vs k1 hz g1 o1 pm => ?_)
  have hvs : ∀ v ∈ vs, ∃ x t, v = Value.str x t := fun v hv => by
    obtain ⟨e, he, q⟩ := List.mem_map.mp (pm.mem_iff.mp hv)
    obtain ⟨k, tk, h1, _⟩ := g e he
    exact ⟨k, tk, by rw [← q]; exact h1⟩
  have hS := strs_vals (l := []) hvs
  have pk : (vs.map fun v => txtE (0, v)).Perm zs := by
    have q := pm.map fun v => txtE (0, v)
    rw [List.map_map] at q
    exact q.trans pz
  have hvl : vs.length < 64 := by
    have := pk.length_eq
    rw [List.length_map] at this
    omega
  have e1 : s1 = { s with heap := s1.heap, drawn := s1.drawn, toks := s1.toks } := by
    obtain ⟨h', gs', d', tk', os'⟩ := s1
    cases g1; cases o1; rfl
  have nb : H s1.heap.objs.size = none := I.hok.fresh hz
  refine wpAny_bind (wpAny_newList ?_ (by rw [sizeLine_eq]; omega))
  have hoL : (s1.heap.push (seqObj "list" vs.toArray 0)).get? s1.heap.objs.size = some (seqObj "list" vs.toArray 0) := Heap.get?_push_size _ rfl
  show wpAny _ _ _ _ _ { s1 with heap := s1.heap.push (seqObj "list" vs.toArray 0) }
  refine wpAny_bind (wpAny_holding (wpAny_call_entry PyProof.Rows.slot_list_sort ⟨_, hoL, rfl⟩ PyProof.Rows.entry_list_sort
    (list_sort_treeK strKind_oneLt (s := { s1 with heap := s1.heap.push (seqObj "list" vs.toArray 0) }) hoL hS.keysOf (fun v₁ v₂ rest e => keyKind_strs (by rw [← e]; exact hS)) hvl fun st' hp hs => ⟨_, rfl, ?_⟩)
    (PyProof.Rows.args_list_sort _)))
  obtain ⟨ys, f1, f2, f3⟩ := sorted_out_str hS hp hs
  obtain ⟨e', he'⟩ := PyProof.Rows.sortedHeap_at (vs := vs) (out := (arrOf st').map (·.2)) hoL
  have hlen : (ys.map V.str).length ≤ sizeLine := by
    rw [List.length_map, f2.length_eq, List.length_map, sizeLine_eq]
    omega
  have hkp : ∀ b u, s.heap.get? b = some u → (sortedHeap (s1.heap.push (seqObj "list" vs.toArray 0)) s1.heap.objs.size vs ((arrOf st').map (·.2))).get? b = some u := fun b u e => by
    have e2 := k1 b u e
    have hb : b < s1.heap.objs.size := Heap.lt_size e2
    rw [PyProof.Rows.sortedHeap_old (Nat.ne_of_lt hb) (by rw [size_push']; exact Nat.lt_succ_of_lt hb)]
    exact Heap.get?_push_of_some _ e2
  have J : Inv X pins σ (upd H s1.heap.objs.size (.lst (ys.map V.str))) { s with heap := sortedHeap (s1.heap.push (seqObj "list" vs.toArray 0)) s1.heap.objs.size vs ((arrOf st').map (·.2)), gens := s1.gens, drawn := s1.drawn, toks := s1.toks } :=
    I.call (ch := []) (Un.laid hkp hz nb) (I.hok.laid hkp hz (show ObjOk X.prog X.w _ _ _ (.lst (ys.map V.str)) from ⟨hlen, ((arrOf st').map (·.2)).toList, e', vals_of_strs f1, by rw [Array.toArray_toList]; exact he'⟩)) (by rw [g1]; exact I.bare) (fun _ z => nomatch z)
  have es : ({ s1 with heap := sortedHeap (s1.heap.push (seqObj "list" vs.toArray 0)) s1.heap.objs.size vs ((arrOf st').map (·.2)) } : Shared) = { s with heap := sortedHeap (s1.heap.push (seqObj "list" vs.toArray 0)) s1.heap.objs.size vs ((arrOf st').map (·.2)), gens := s1.gens, drawn := s1.drawn, toks := s1.toks } := by
    obtain ⟨h', gs', d', tk', os'⟩ := s1
    cases o1; rfl
  refine wpAny_pure ⟨_, rfl, .ref s1.heap.objs.size, upd H s1.heap.objs.size (.lst (ys.map V.str)), ?_, rfl, q ys _ (f2.trans pk) f3 nb⟩
  show Inv X pins σ _ { s1 with heap := sortedHeap (s1.heap.push (seqObj "list" vs.toArray 0)) s1.heap.objs.size vs ((arrOf st').map (·.2)) }
  rw [es]
  exact J
end
end Z

set_option Elab.async false
set_option linter.all false
set_option maxRecDepth 100000
set_option maxHeartbeats 4000000
/-! Z, part LR: list(reversed(..)) of a list. -/
namespace Z
open PySem PySem.Spec PyProof.Rows L2
section
variable {P : Program} {w : World} {A : Around} {E : Value → Shared → Prop} {s : Shared}
/-- a list is lengthened by what a reversed list gives -/
theorem extend_rev {it l S : Addr} {items : Array Value} {res : Value} {c0 : Nat} {R : Result → Shared → Prop} (hh : A.handled = none) (hit : s.heap.IsRevIter it l ((items.size : Int) - 1)) (hl : s.heap.IsList l items) (hne : l ≠ it) (hn : items.size ≤ sizeLine)
    (hSi : S ≠ it) (hSl : S ≠ l) (hS : s.heap.get? S = some { cls := .type "list", data := .seq #[] c0 })
    (fin : ∀ (h' : Heap) (tk : Nat) (acc : Array Value) (c' : Nat), (∀ b o, b ≠ it → b ≠ S → s.heap.get? b = some o → h'.get? b = some o) → h'.get? S = some { cls := .type "list", dict := none, data := .seq acc c', slots := #[] } →
      ItemsOf (fun i v => items[items.size - 1 - i]? = some v) acc items.size → R (.ok (.ret res)) { s with heap := h', toks := tk }) :
    wpAny (model P w) A.in1 (Builtin.List.listExtendWith (.ref S) (.ref it) res) (fun out s' => match out with | .done f => R (.ok f) s' | .again c' => c'.quiet = true ∧ codeAny (model P w) A c' R s') (fun e s' => R (.error e) s') s := by
  have W := (Walks.listRev (prog := P) (w := w) (A := A.in1) hh it l hne items).toS
  have hSf : S ∉ [it, l] := fun z => by
    rcases List.mem_cons.mp z with z | z
    · exact hSi z
    · exact hSl (List.mem_singleton.mp z)
  have tyI : s.TypeIs (.ref it) "list_reverseiterator" := hit.typeIs
  have same : Builtin.List.listSameRef (.ref S) (.ref it) = false := by simp [Builtin.List.listSameRef, hSi]
  unfold Builtin.List.listExtendWith
  refine wpAny_bind (wpAny_typeOf tyI ?_)
  rw [if_neg (by rw [same]; decide)]
  refine wpAny_bind (wpAny_pyIter_revIter hit (wpAny_bind (wpAny_holding ?_)))
  unfold Builtin.List.listLengthHint
  refine wpAny_bind (wpAny_specialOf tyI RT.nolen_lri ?_)
  show wpAny _ A.in1 (specialOf (Value.ref it) (Str.ofString "__length_hint__") >>= _) _ _ s
  refine wpAny_bind (wpAny_specialOf tyI RT.hint_lri ?_)
  generalize hid : ("list_reverseiterator.__length_hint__" : String) = name
  wp_delta
  rw [show splitId name = some ("list_reverseiterator", "__length_hint__") from by subst hid; decide +kernel]
  subst hid
  refine wpAny_bind (wpAny_isInstance (b := true) tyI (by rw [isSubtype_type]; kernel_rfl) (wpAny_pure ?_))
  rw [if_neg (by decide)]
  have e0 : ((items.size : Nat) : Int) - 1 - ((0 : Nat) : Int) = (items.size : Int) - 1 := by omega
  refine wpAny_pure ⟨plainId_quiet PySem.F.plain_extend_loop _, codeAny_extend_loopS W hn S hSf res items.size 0 s #[] c0 rfl (Nat.zero_le _) ⟨Nat.zero_le _, by rw [e0]; exact hit, hl⟩ hS (ItemsOf.nil _) fun s' acc c' mv hS' ha => ?_⟩
  rw [Moved.eq_with mv]
  refine fin s'.heap s'.toks acc c' (fun b o n1 n2 e => mv.heap b o (fun z => ?_) e) hS' ha
  rcases List.mem_cons.mp z with z | z
  · exact n2 z
  · exact n1 (List.mem_singleton.mp z)
theorem list_of_rev {it l : Addr} {items : Array Value} {Q : Value → Shared → Prop} (hh : A.handled = none) (hit : s.heap.IsRevIter it l ((items.size : Int) - 1)) (hl : s.heap.IsList l items) (hne : l ≠ it) (hn : items.size ≤ sizeLine)
    (fin : ∀ (h' : Heap) (tk : Nat) (acc : Array Value) (c' : Nat), (∀ b o, b ≠ it → s.heap.get? b = some o → h'.get? b = some o) → h'.get? s.heap.objs.size = some { cls := .type "list", dict := none, data := .seq acc c', slots := #[] } →
      ItemsOf (fun i v => items[items.size - 1 - i]? = some v) acc items.size → Q (.ref s.heap.objs.size) { s with heap := h', toks := tk }) :
    wpAny (model P w) A (call (.type "list") [.ref it]) Q E s := by
  obtain ⟨oi, hoi, _⟩ := id hit
  obtain ⟨ol, hol, _⟩ := id hl
  have hSi : s.heap.objs.size ≠ it := Nat.ne_of_gt (Heap.lt_size hoi)
  have hSl : s.heap.objs.size ≠ l := Nat.ne_of_gt (Heap.lt_size hol)
  refine callType_codes (Q₁ := fun obj s1 => obj = .ref s.heap.objs.size ∧ s1 = { s with heap := s.heap.push { cls := .type "list", data := .seq #[] } }) PySem.F.called_list (PySem.F.typeCall_list_1 _) PySem.F.entry_list_init (code_list_new _ ⟨rfl, rfl⟩) fun obj s1 h1 => ?_
  obtain ⟨rfl, rfl⟩ := h1
  have hS0 : (s.heap.push { cls := .type "list", data := .seq #[] }).get? s.heap.objs.size = some { cls := .type "list", data := .seq #[] } := Heap.get?_push_size _ rfl
  refine ⟨⟨_, hS0, rfl⟩, PySem.F.args_list_init_2 _ _, ?_⟩
  show wpAny _ A.in1.in1 (do let old ← Builtin.List.listItems (.ref s.heap.objs.size); Builtin.List.listUpdate (.ref s.heap.objs.size) (fun _ => #[]); letGo old.toList.reverse; Builtin.List.listExtendWith (.ref s.heap.objs.size) (.ref it) .none) _ _ _
  refine wpAny_bind ?_
  unfold Builtin.List.listItems
  refine wpAny_bind (wpAny_seqItems hS0 rfl (wpAny_pure ?_))
  show wpAny _ A.in1.in1 (updateSeq s.heap.objs.size (fun _ => #[]) >>= fun _ => letGo (#[] : Array Value).toList.reverse >>= fun _ => Builtin.List.listExtendWith (.ref s.heap.objs.size) (.ref it) .none) _ _ _
  refine wpAny_bind (wpAny_updateSeq hS0 rfl ?_)
  have hS1 := Heap.get?_update_self (Obj.mapSeq (fun _ => (#[] : Array Value))) hS0 rfl
  have keep : ∀ b o, b ≠ s.heap.objs.size → s.heap.get? b = some o → ((s.heap.push { cls := .type "list", data := .seq #[] }).update s.heap.objs.size (Obj.mapSeq (fun _ => (#[] : Array Value)))).get? b = some o :=
    fun b o nb e => (Heap.get?_update_other _ _ (Ne.symm nb)).trans (Heap.get?_push_of_some _ e)
  refine wpAny_bind (wpAny_letGo ?_)
  refine extend_rev (A := A.in1) (s := { s with heap := (s.heap.push { cls := .type "list", data := .seq #[] }).update s.heap.objs.size (Obj.mapSeq (fun _ => (#[] : Array Value))) }) hh (hit.at fun o e => keep it o hSi.symm e) (hl.at fun o e => keep l o hSl.symm e) hne hn hSi hSl hS1 fun h' tk acc c' k2 hS2 ha => ?_
  refine ⟨rfl, fin h' tk acc c' (fun b o nb e => k2 b o nb (Nat.ne_of_lt (Heap.lt_size e)) (keep b o (Nat.ne_of_lt (Heap.lt_size e)) e)) hS2 ha⟩
end
section
variable {X : Cx}
/-- list(reversed(x)), x a list: a new list -/
noncomputable def tLstRev (K : PySem.W.Frag) (te : TE) : TE := fun σ H Q => te σ H fun v H1 => ∃ (a : Addr) (xs : List V), v = .ref a ∧ SqL K H1 a xs ∧ ∀ q, H1 q = none → Q (.ref q) (upd H1 q (.lst xs.reverse))
theorem pe_lstRev {e : Expr} {te : TE} {p p2 pos pos2 : Pos} (hc : X.calm = true) (hg : Gl X "list") (hm : X.mg "list" = none) (hg2 : Gl X "reversed") (hm2 : X.mg "reversed" = none) (he : PE X e te)
    (hs : starEach [e] X.env = (false, eval e X.env) :: starEach [] X.env)
    (hs2 : starEach [.Call (.Name "reversed" p2) [e] [] pos2] X.env = (false, eval (.Call (.Name "reversed" p2) [e] [] pos2) X.env) :: starEach [] X.env := by rfl) :
    PE X (.Call (.Name "list" p) [.Call (.Name "reversed" p2) [e] [] pos2] [] pos) (tLstRev X.K te) := by
  refine ⟨fun pins s σ H Q I h => ?_⟩
  refine Call_ (ld_blt I hg hm boot_list (PyProof.Rows.callWith_type1 (args_cons (Call_ (ld_blt I hg2 hm2 PyProof.Rows.boot_reversed (PyProof.Rows.callWith_type1 (args_cons (thn (he.run pins s σ H _ I h) fun u s1 ⟨v, H1, I1, r1, q1⟩ => args_nil ?_) hs) hs rfl))) hs2) hs2 rfl))
  obtain ⟨a, xs, rfl, hq, q⟩ := q1
  obtain rfl : u = Value.ref a := r1
  obtain ⟨its, rv, pl, hz⟩ := I1.list hq
  refine call_reversed_list pl.isList (args_nil ?_)
  have k0 : ∀ b o, s1.heap.get? b = some o → (s1.heap.push (revObj a ((its.toArray.size : Int) - 1))).get? b = some o := fun b o e => Heap.get?_push_of_some _ e
  have I2 : Inv X pins σ H1 { s1 with heap := s1.heap.push (revObj a ((its.toArray.size : Int) - 1)) } := I1.kept (t' := s1.toks) k0
  obtain ⟨f0, f1, f2, f3, f4, f5⟩ := I1.fpOk (H' := H1) (b := s1.heap.objs.size) (Nat.le_refl _) (I1.hok.fresh (Nat.le_refl _))
  have hl := pl.isList
  obtain ⟨ol, hol, _⟩ := id hl
  have hne : a ≠ s1.heap.objs.size := Nat.ne_of_lt (Heap.lt_size hol)
  have hn : its.toArray.size ≤ sizeLine := by rw [List.size_toArray, ← rv.length]; exact hz
  refine list_of_rev (s := { s1 with heap := s1.heap.push (revObj a ((its.toArray.size : Int) - 1)) }) (I1.ok.hd hc) ⟨_, Heap.get?_push_size _ rfl, rfl, rfl⟩ (hl.push _) hne hn fun h' tk acc c' hk hS ha => ?_
  have k1 : ∀ b o, s1.heap.get? b = some o → h'.get? b = some o := fun b o e => hk b o (Nat.ne_of_lt (Heap.lt_size e)) (k0 b o e)
  have le1 : s1.heap.objs.size ≤ (s1.heap.push (revObj a ((its.toArray.size : Int) - 1))).objs.size := by rw [Heap.size_push]; exact Nat.le_succ _
  refine ⟨.ref _, _, I1.laid (t' := tk) k1 le1 (show ObjOk X.prog X.w _ h' _ (.lst xs.reverse) from ⟨by rw [List.length_reverse]; exact hz, acc.toList, c', RT.vals_rev rv ha, ?_⟩), rfl, q _ (I1.hok.fresh le1)⟩
  rw [Array.toArray_toList]
  exact hS
end
end Z

set_option Elab.async false
set_option linter.all false
set_option maxRecDepth 100000
set_option maxHeartbeats 4000000
/-! Z, part DZ: dict(zip(a, b)) of two lists. -/
namespace Z
open PySem PySem.Spec PyProof.Rows L2
section
variable {X : Cx}
theorem kv_zip : ∀ {ks : List Key} {ys : List V} {its : List Value}, Vals ys its → KV (ks.zip ys) (ks.zip its)
  | [], _, _, _ => .nil
  | _ :: _, [], _, r => by cases r; exact .nil
  | k :: ks, y :: ys, _, r => by
    cases r with
    | cons r1 r2 => exact .cons ⟨rfl, r1⟩ (kv_zip r2)
noncomputable def tDictZip (K : PySem.W.Frag) (ta : TA) : TE := fun σ H Q => ta σ H fun vs H1 => ∃ (a b : Addr) (ks : List Key) (ys : List V), vs = [.ref a, .ref b] ∧ SqL K H1 a (ks.map kV) ∧ SqL K H1 b ys ∧ ∀ p, H1 p = none → Q (.ref p) (upd H1 p (.dK (mergeK [] (ks.zip ys))))
theorem pe_dictZip {e e2 : Expr} {ta : TA} {p p2 pos pos2 : Pos} (hc : X.calm = true) (hg : Gl X "dict") (hm : X.mg "dict" = none) (hg2 : Gl X "zip") (hm2 : X.mg "zip" = none) (ha : PA X [e, e2] ta)
    (hs : starEach [e, e2] X.env = (false, eval e X.env) :: starEach [e2] X.env) (hpl : (backTo pos2 (starEach [e2] X.env)).any (·.1) = false)
    (hs2 : starEach [.Call (.Name "zip" p2) [e, e2] [] pos2] X.env = (false, eval (.Call (.Name "zip" p2) [e, e2] [] pos2) X.env) :: starEach [] X.env := by rfl) :
    PE X (.Call (.Name "dict" p) [.Call (.Name "zip" p2) [e, e2] [] pos2] [] pos) (tDictZip X.K ta) := by
  refine ⟨fun pins s σ H Q I h => ?_⟩
  refine Call_ (ld_blt I hg hm boot_dict (PyProof.Rows.callWith_type1 (args_cons (Call_ (ld_blt I hg2 hm2 PyProof.Rows.boot_zip (PyProof.Rows.callWith_type1 (thn (ha.run pos2 pins s σ H _ I h) fun us s1 ⟨vs, H1, I1, r1, q1⟩ => ?_) hs hpl))) hs2) hs2 rfl))
  obtain ⟨a, b, ks, ys, rfl, hqx, hqy, q⟩ := q1
  cases r1 with
  | cons r rr =>
    cases rr with
    | cons r' rr =>
      cases rr
      cases r
      cases r'
      obtain ⟨its, rv, p1, z1⟩ := I1.list hqx
      obtain ⟨its2, rv2, p2', z2⟩ := I1.list hqy
      have la : a < s1.heap.objs.size := p1.lt
      have lb : b < s1.heap.objs.size := p2'.lt
      refine call_zip_2 p1.isList p2'.isList fun h' hz hTI hTO h1 h2 hsz hk => args_nil ?_
      have hl1 := p1.isList
      have hl2 := p2'.isList
      have e1 : its.length = ks.length := by rw [← rv.length, List.length_map]
      have e2 : its2.length = ys.length := rv2.length.symm
      have big := I1.big
      refine call_dict_pairs (knd := mixKind X.prog X.w) (kvs := ks.zip its2) (PairArg.zip _ _ _ _ _ a b (PySem.W.ktu_apart s1.heap.objs.size a b la lb) its.toArray its2.toArray) (I1.ok.hd hc) ⟨hz, hTI, ⟨_, _, hTO⟩, h1, h2, hl1.at fun o e => hk _ o e, hl2.at fun o e => hk _ o e⟩ ⟨?_, ?_⟩ ?_ fun h3 tk hd3 k3 => ?_
      · rw [List.length_zip, List.size_toArray, List.size_toArray, e1]
      · rintro i key v ⟨x1, x2⟩
        have x1 : its[i]? = some key := by simpa using x1
        have x2 : its2[i]? = some v := by simpa using x2
        obtain ⟨k, y1, y2⟩ := keys_at rv i key x1
        refine ⟨k, ?_, kV_is y2⟩
        rw [List.getElem?_zip_eq_some]
        exact ⟨y1, x2⟩
      · rw [List.size_toArray, List.size_toArray]
        have : its.length ≤ sizeLine := by rw [← rv.length]; exact z1
        exact Nat.le_trans (Nat.min_le_left _ _) this
      · have hm3 : (h'.objs.size == sysModules) = false := beq_eq_false_iff_ne.mpr (Nat.ne_of_gt (Nat.lt_of_lt_of_le big (by rw [hsz]; omega)))
        have hlen : (mergeK [] (ks.zip ys)).length ≤ sizeLine := by
          refine Nat.le_trans (length_mergeK (ks.zip ys) []) ?_
          rw [List.length_nil, Nat.zero_add, List.length_zip]
          rw [List.length_map] at z1
          exact Nat.le_trans (Nat.min_le_left _ _) z1
        have k1 : ∀ b o, s1.heap.get? b = some o → h3.get? b = some o := fun c o e => k3 c o (fun z => by
          have lt := Heap.lt_size e
          simp only [List.mem_cons, List.not_mem_nil, or_false] at z
          rcases z with z | z | z | z <;> rw [z] at lt <;> exact absurd lt (Nat.not_lt_of_le (by first | exact Nat.le_add_right _ _ | exact Nat.le_refl _))) (hk c o e)
        have le1 : s1.heap.objs.size ≤ h'.objs.size := by rw [hsz]; omega
        exact ⟨.ref _, _, I1.laid (t' := tk) k1 le1 (show ObjOk X.prog X.w _ _ _ (.dK (mergeK [] (ks.zip ys))) from ⟨hlen, hm3, merged [] (ks.zip its2), KV.merge (kv_zip rv2) .nil, hd3⟩), rfl, q _ (I1.hok.fresh le1)⟩
end
end Z

set_option Elab.async false
set_option linter.all false
set_option maxRecDepth 100000
set_option maxHeartbeats 4000000
/-! Z, part LZ: list(zip(a, b)) of two lists, the first of keys. -/
namespace Z
open PySem PySem.Spec PyProof.Rows L2
open PySem.W (KdxG)
theorem lz_no_len : typeLookup (.type "zip") "__len__" = pure none := by rw [typeLookup_type, builtinLookup_eq_fast]; kernel_rfl
theorem lz_no_hint : typeLookup (.type "zip") "__length_hint__" = pure none := by rw [typeLookup_type, builtinLookup_eq_fast]; kernel_rfl
/-- a zip under way: nothing given yet, or the first tuple is still out -/
noncomputable def LzSt (h : Heap) (z TI TO i1 i2 l1 l2 S : Addr) (xs ys : Array Value) (i : Nat) : Prop :=
  IsPair h TI (.ref i1) (.ref i2) ∧ h.IsListIter i1 l1 i ∧ h.IsListIter i2 l2 i ∧ h.IsList l1 xs ∧ h.IsList l2 ys ∧
  ((IsZip h z TI TO .none ∧ ∃ a b, IsPair h TO a b) ∨ ∃ T f oT, IsZipHeld h z TI TO T f ∧ h.get? T = some oT ∧ T ≠ z ∧ T ≠ i1 ∧ T ≠ i2 ∧ T ≠ TO ∧ T ≠ S)
section
variable {P : Program} {w : World} {A : Around} {E : Value → Shared → Prop} {s : Shared} {z TI TO i1 i2 l1 l2 S : Addr} {xs ys : Array Value} {i : Nat}
theorem LzSt.keep {h h' : Heap} (x : LzSt h z TI TO i1 i2 l1 l2 S xs ys i) (hk : ∀ b o, b ≠ S → h.get? b = some o → h'.get? b = some o) (n : z ≠ S ∧ TI ≠ S ∧ TO ≠ S ∧ i1 ≠ S ∧ i2 ≠ S ∧ l1 ≠ S ∧ l2 ≠ S) : LzSt h' z TI TO i1 i2 l1 l2 S xs ys i := by
  obtain ⟨x1, x2, x3, x4, x5, x6⟩ := x
  obtain ⟨n1, n2, n3, n4, n5, n6, n7⟩ := n
  refine ⟨hk _ _ n2 x1, x2.at fun o e => hk _ o n4 e, x3.at fun o e => hk _ o n5 e, x4.at fun o e => hk _ o n6 e, x5.at fun o e => hk _ o n7 e, ?_⟩
  rcases x6 with ⟨y1, a, b, y2⟩ | ⟨T, f, oT, y1, y2, y3, y4, y5, y6, y7⟩
  · exact .inl ⟨hk _ _ n1 y1, a, b, hk _ _ n3 y2⟩
  · exact .inr ⟨T, f, oT, hk _ _ n1 y1, hk _ _ y7 y2, y3, y4, y5, y6, y7⟩
theorem lz_item {x y : Value} {Q : Option Value → Shared → Prop} (D : ZipApart z TI TO i1 i2 l1 l2) (hst : LzSt s.heap z TI TO i1 i2 l1 l2 S xs ys i) (hS : S < s.heap.objs.size) (hx : xs[i]? = some x) (hy : ys[i]? = some y)
    (hQ : ∀ h', LzSt h' z TI TO i1 i2 l1 l2 S xs ys (i + 1) → h'.get? s.heap.objs.size = some { cls := .type "tuple", data := .seq #[x, y] } → h'.objs.size = s.heap.objs.size + 1 →
      (∀ c o, c ≠ z → c ≠ TO → c ≠ i1 → c ≠ i2 → s.heap.get? c = some o → h'.get? c = some o) → Q (some (.ref s.heap.objs.size)) { s with heap := h' }) :
    wpAny (model P w) A (pyNext (.ref z)) Q E s := by
  obtain ⟨x1, x2, x3, x4, x5, x6⟩ := hst
  have keepL : ∀ {l : Addr} {vs : Array Value} {h' : Heap}, l ≠ z → l ≠ TO → l ≠ i1 → l ≠ i2 → s.heap.IsList l vs → (∀ c o, c ≠ z → c ≠ TO → c ≠ i1 → c ≠ i2 → s.heap.get? c = some o → h'.get? c = some o) → h'.IsList l vs := fun a b c d hl hk => hl.at fun o e => hk _ o a b c d e
  rcases x6 with ⟨y1, a, b, y2⟩ | ⟨T, f, oT, y1, y2, y3, y4, y5, y6, y7⟩
  · have a2 : s.heap.objs.size ≠ i1 := by obtain ⟨o, e, _⟩ := x2; exact Nat.ne_of_gt (Heap.lt_size e)
    have a3 : s.heap.objs.size ≠ i2 := by obtain ⟨o, e, _⟩ := x3; exact Nat.ne_of_gt (Heap.lt_size e)
    refine wpAny_pyNext_zip_item D y1 x1 y2 x2 x3 x4 x5 hx hy fun h' b1 b2 b3 b4 b5 b6 hk => hQ h' ⟨hk _ _ D.TIz D.TITO D.TIi1 D.TIi2 x1, b3, b4, keepL D.l1z D.l1TO D.l1i1 D.l1i2 x4 hk, keepL D.l2z D.l2TO D.l2i1 D.l2i2 x5 hk, .inr ⟨_, false, _, b1, b5, ?_, a2, a3, ?_, Nat.ne_of_gt hS⟩⟩ b5 b6 hk
    · exact Nat.ne_of_gt (Heap.lt_size y1)
    · exact Nat.ne_of_gt (Heap.lt_size y2)
  · refine wpAny_pyNext_zip_item_held D y1 y2 x1 x2 x3 x4 x5 hx hy fun h' b1 b3 b4 b5 b6 hk => ?_
    have hk' : ∀ c o, c ≠ z → c ≠ TO → c ≠ i1 → c ≠ i2 → s.heap.get? c = some o → h'.get? c = some o := fun c o c1 _ c3 c4 e => hk c o c1 c3 c4 e
    exact hQ h' ⟨hk _ _ D.TIz D.TIi1 D.TIi2 x1, b3, b4, keepL D.l1z D.l1TO D.l1i1 D.l1i2 x4 hk', keepL D.l2z D.l2TO D.l2i1 D.l2i2 x5 hk', .inr ⟨T, true, oT, b1, hk _ _ y3 y4 y5 y2, y3, y4, y5, y6, y7⟩⟩ b5 b6 hk'
theorem lz_done {Q : Option Value → Shared → Prop} (hh : A.handled = none) (D : ZipApart z TI TO i1 i2 l1 l2) (hst : LzSt s.heap z TI TO i1 i2 l1 l2 S xs ys i) (hend : xs[i]? = none ∨ ys[i]? = none)
    (hQ : ∀ h', (∀ c o, c ≠ z → c ≠ TO → c ≠ i1 → c ≠ i2 → s.heap.get? c = some o → h'.get? c = some o) → Q none { s with heap := h' }) : wpAny (model P w) A (pyNext (.ref z)) Q E s := by
  obtain ⟨x1, x2, x3, x4, x5, x6⟩ := hst
  rcases x6 with ⟨y1, a, b, y2⟩ | ⟨T, f, oT, y1, y2, y3, y4, y5, y6, y7⟩
  · exact wpAny_pyNext_zip_end hh D y1 x1 y2 x2 x3 x4 x5 hend hQ
  · exact wpAny_pyNext_zip_end_held hh D y1 y2 x1 x2 x3 x4 x5 hend fun h' hk => hQ h' fun c o c1 _ c3 c4 e => hk c o c1 c3 c4 e
end
section
variable {P : Program} {w : World} {K : Type} [DecidableEq K] {knd : KeyKind P w K} {A : Around} {s : Shared} {R : Result → Shared → Prop} {kvs : List (K × Value)} {z TI TO i1 i2 l1 l2 S : Addr} {xs ys : Array Value}
theorem lz_loop (hh : A.handled = none) (D : ZipApart z TI TO i1 i2 l1 l2) (hn : kvs.length ≤ sizeLine) (hlen : kvs.length = min xs.size ys.size)
    (hxy : ∀ (i : Nat) (x y : Value), xs[i]? = some x → ys[i]? = some y → ∃ k, kvs[i]? = some (k, y) ∧ knd.is k x = true) (res : Value) {h₁ : Heap} {lo : Addr}
    (nS : z ≠ S ∧ TI ≠ S ∧ TO ≠ S ∧ i1 ≠ S ∧ i2 ≠ S ∧ l1 ≠ S ∧ l2 ≠ S) (los : z < lo ∧ TO < lo ∧ i1 < lo ∧ i2 < lo ∧ S ≤ lo)
    (hR : ∀ h' tk acc c as, (∀ b o, b ≠ S → b ≠ z → b ≠ TO → b ≠ i1 → b ≠ i2 → h₁.get? b = some o → h'.get? b = some o) → h'.get? S = some { cls := .type "list", dict := none, data := .seq acc c, slots := #[] } → as.length = kvs.length → KdxG knd kvs lo h' as →
      acc.toList = as.map Value.ref → R (.ok (.ret res)) { s with heap := h', toks := tk }) :
    ∀ (k i : Nat) (h : Heap) (tk c : Nat) (acc : Array Value) (as : List Addr), kvs.length - i = k → i ≤ kvs.length → LzSt h z TI TO i1 i2 l1 l2 S xs ys i → (∀ b o, b ≠ S → b ≠ z → b ≠ TO → b ≠ i1 → b ≠ i2 → h₁.get? b = some o → h.get? b = some o) →
      h.get? S = some { cls := .type "list", dict := none, data := .seq acc c, slots := #[] } → acc.toList = as.map Value.ref → as.length = i → KdxG knd kvs lo h as → lo < h.objs.size →
      codeAny (model P w) A (.builtin "list.extend.loop" ⟨[.ref S, .ref z, res], []⟩) R { s with heap := h, toks := tk } := by
  obtain ⟨q1, q2, q3, q4, q5⟩ := los
  intro k
  induction k with
  | zero =>
    intro i h tk c acc as hk hi hst hkeep hS hacc hal hG hIs
    have hin : i = kvs.length := by omega
    refine codeAny_builtin PySem.F.entry_extend_loop ?_
    rw [Around.under_plainId PySem.F.plain_extend_loop _]
    show wpAny _ A.in1 (pyNext (.ref z) >>= _) _ _ _
    refine wpAny_bind (lz_done (s := { s with heap := h, toks := tk }) (A := A.in1) hh D hst (by
      rw [hin, hlen]
      rcases Nat.le_total xs.size ys.size with a | a
      · exact .inl (Array.getElem?_eq_none (by omega))
      · exact .inr (Array.getElem?_eq_none (by omega))) fun h' he => ?_)
    refine wpAny_pure (hR h' tk acc c as (fun b o h1 h2 h3 h4 h5 e => he b o h2 h3 h4 h5 (hkeep b o h1 h2 h3 h4 h5 e)) (he S _ nS.1.symm nS.2.2.1.symm nS.2.2.2.1.symm nS.2.2.2.2.1.symm hS) (by omega) ⟨hG.rise, hG.above, fun j a hj => ?_⟩ hacc)
    obtain ⟨key, kk, x, e1, e2, e3⟩ := hG.pairs j a hj
    have ha := hG.above a (List.mem_of_getElem? hj)
    exact ⟨key, kk, x, e1, e2, he a _ (Nat.ne_of_gt (Nat.lt_trans q1 ha)) (Nat.ne_of_gt (Nat.lt_trans q2 ha)) (Nat.ne_of_gt (Nat.lt_trans q3 ha)) (Nat.ne_of_gt (Nat.lt_trans q4 ha)) e3⟩
  | succ k ih =>
    intro i h tk c acc as hk hi hst hkeep hS hacc hal hG hIs
    have hlt : i < kvs.length := by omega
    have hx : xs[i]? = some (xs[i]'(by omega)) := Array.getElem?_eq_getElem _
    have hy : ys[i]? = some (ys[i]'(by omega)) := Array.getElem?_eq_getElem _
    generalize xs[i]'(by omega) = x at hx
    generalize ys[i]'(by omega) = y at hy
    obtain ⟨kk, hkv, hkey⟩ := hxy i x y hx hy
    have hsz : acc.size = i := by rw [← Array.length_toList, hacc, List.length_map, hal]
    refine codeAny_builtin PySem.F.entry_extend_loop ?_
    rw [Around.under_plainId PySem.F.plain_extend_loop _]
    show wpAny _ A.in1 (pyNext (.ref z) >>= _) _ _ _
    have hSl : S < h.objs.size := Heap.lt_size hS
    refine wpAny_bind (lz_item (s := { s with heap := h, toks := tk }) (S := S) D hst hSl hx hy fun h' hst' ht hz hkp => ?_)
    dsimp only at ht hz hkp ⊢
    have hS' := hkp S _ nS.1.symm nS.2.2.1.symm nS.2.2.2.1.symm nS.2.2.2.2.1.symm hS
    have up : ∀ b o, b ≠ S → h'.get? b = some o → (h'.update S (Obj.mapSeq (·.push (Value.ref h.objs.size)))).get? b = some o := fun b o hb e => (Heap.get?_update_other _ _ (Ne.symm hb)).trans e
    have over : ∀ b o, lo < b → h.get? b = some o → (h'.update S (Obj.mapSeq (·.push (Value.ref h.objs.size)))).get? b = some o := fun b o hb e =>
      up b o (Nat.ne_of_gt (Nat.lt_of_le_of_lt q5 hb)) (hkp b o (Nat.ne_of_gt (Nat.lt_trans q1 hb)) (Nat.ne_of_gt (Nat.lt_trans q2 hb)) (Nat.ne_of_gt (Nat.lt_trans q3 hb)) (Nat.ne_of_gt (Nat.lt_trans q4 hb)) e)
    show wpAny _ A.in1 (updateSeq S (·.push (Value.ref h.objs.size)) >>= _) _ _ _
    refine wpAny_bind ?_
    refine wpAny_updateSeq hS' rfl (wpAny_pure ⟨plainId_quiet PySem.F.plain_extend_loop _, ih (i + 1) _ tk _ (acc.push (Value.ref h.objs.size)) (as ++ [h.objs.size]) (by omega) hlt (hst'.keep up nS)
      (fun b o h1 h2 h3 h4 h5 e => up b o h1 (hkp b o h2 h3 h4 h5 (hkeep b o h1 h2 h3 h4 h5 e))) (Heap.get?_update_self _ hS' rfl) (by rw [Array.toList_push, hacc, List.map_append]; rfl) (by rw [List.length_append, hal]; rfl) ⟨?_, ?_, ?_⟩ ?_⟩) (by rw [hsz]; omega) (by show (acc.push (Value.ref h.objs.size)).size ≤ sizeLine + 1; rw [Array.size_push, hsz]; omega)
    · refine List.pairwise_append.mpr ⟨hG.rise, List.pairwise_singleton _ _, fun a ha b hb => ?_⟩
      rw [List.mem_singleton.mp hb]
      exact hG.there ha
    · intro a ha
      rcases List.mem_append.mp ha with ha | ha
      · exact hG.above a ha
      · rw [List.mem_singleton.mp ha]; exact hIs
    · intro j b hj
      rcases Nat.lt_trichotomy j as.length with h1 | h1 | h1
      · rw [List.getElem?_append_left h1] at hj
        obtain ⟨key', k', x', e1, e2, e3⟩ := hG.pairs j b hj
        have hb := hG.above b (List.mem_of_getElem? hj)
        exact ⟨key', k', x', e1, e2, over b _ hb e3⟩
      · subst h1
        have hb : h.objs.size = b := by simpa using hj
        subst hb
        exact ⟨x, kk, y, by rw [hal]; exact hkv, hkey, up _ _ (Nat.ne_of_gt hSl) ht⟩
      · have hnone : (as ++ [h.objs.size])[j]? = none := List.getElem?_eq_none (by rw [List.length_append, List.length_singleton]; omega)
        rw [hnone] at hj; cases hj
    · have e : (h'.update S (Obj.mapSeq (·.push (Value.ref h.objs.size)))).get? h.objs.size = _ := up _ _ (Nat.ne_of_gt hSl) ht
      exact Nat.lt_trans hIs (Heap.lt_size e)
/-- list(z), z a zip that has given nothing -/
theorem list_of_zip {Q : Value → Shared → Prop} {E : Value → Shared → Prop} (hh : A.handled = none) (D : ZipApart z TI TO i1 i2 l1 l2) (hn : kvs.length ≤ sizeLine) (hlen : kvs.length = min xs.size ys.size)
    (hxy : ∀ (i : Nat) (x y : Value), xs[i]? = some x → ys[i]? = some y → ∃ k, kvs[i]? = some (k, y) ∧ knd.is k x = true)
    (hz : IsZip s.heap z TI TO .none) (hTI : IsPair s.heap TI (.ref i1) (.ref i2)) (hTO : ∃ a b, IsPair s.heap TO a b) (h1 : s.heap.IsListIter i1 l1 0) (h2 : s.heap.IsListIter i2 l2 0) (hl1 : s.heap.IsList l1 xs) (hl2 : s.heap.IsList l2 ys)
    (fin : ∀ h' tk acc c as, (∀ b o, b ≠ z → b ≠ TO → b ≠ i1 → b ≠ i2 → s.heap.get? b = some o → h'.get? b = some o) → h'.get? s.heap.objs.size = some { cls := .type "list", dict := none, data := .seq acc c, slots := #[] } → as.length = kvs.length → KdxG knd kvs s.heap.objs.size h' as →
      acc.toList = as.map Value.ref → Q (.ref s.heap.objs.size) { s with heap := h', toks := tk }) :
    wpAny (model P w) A (call (.type "list") [.ref z]) Q E s := by
  have lz : z < s.heap.objs.size := Heap.lt_size hz
  have lTI : TI < s.heap.objs.size := Heap.lt_size hTI
  have lTO : TO < s.heap.objs.size := by obtain ⟨a, b, e⟩ := hTO; exact Heap.lt_size e
  have li1 : i1 < s.heap.objs.size := by obtain ⟨o, e, _⟩ := h1; exact Heap.lt_size e
  have li2 : i2 < s.heap.objs.size := by obtain ⟨o, e, _⟩ := h2; exact Heap.lt_size e
  have ll1 : l1 < s.heap.objs.size := by obtain ⟨o, e, _⟩ := hl1; exact Heap.lt_size e
  have ll2 : l2 < s.heap.objs.size := by obtain ⟨o, e, _⟩ := hl2; exact Heap.lt_size e
  refine callType_codes (Q₁ := fun obj s1 => obj = .ref s.heap.objs.size ∧ s1 = { s with heap := s.heap.push { cls := .type "list", data := .seq #[] } }) PySem.F.called_list (PySem.F.typeCall_list_1 _) PySem.F.entry_list_init (code_list_new _ ⟨rfl, rfl⟩) fun obj s1 h1' => ?_
  obtain ⟨rfl, rfl⟩ := h1'
  have hS0 : (s.heap.push { cls := .type "list", data := .seq #[] }).get? s.heap.objs.size = some { cls := .type "list", data := .seq #[] } := Heap.get?_push_size _ rfl
  refine ⟨⟨_, hS0, rfl⟩, PySem.F.args_list_init_2 _ _, ?_⟩
  show wpAny _ A.in1.in1 (do let old ← Builtin.List.listItems (.ref s.heap.objs.size); Builtin.List.listUpdate (.ref s.heap.objs.size) (fun _ => #[]); letGo old.toList.reverse; Builtin.List.listExtendWith (.ref s.heap.objs.size) (.ref z) .none) _ _ _
  refine wpAny_bind ?_
  unfold Builtin.List.listItems
  refine wpAny_bind (wpAny_seqItems hS0 rfl (wpAny_pure ?_))
  show wpAny _ A.in1.in1 (updateSeq s.heap.objs.size (fun _ => #[]) >>= fun _ => letGo (#[] : Array Value).toList.reverse >>= fun _ => Builtin.List.listExtendWith (.ref s.heap.objs.size) (.ref z) .none) _ _ _
  refine wpAny_bind (wpAny_updateSeq hS0 rfl ?_)
  have hS1 := Heap.get?_update_self (Obj.mapSeq (fun _ => (#[] : Array Value))) hS0 rfl
  have keep : ∀ b o, b ≠ s.heap.objs.size → s.heap.get? b = some o → ((s.heap.push { cls := .type "list", data := .seq #[] }).update s.heap.objs.size (Obj.mapSeq (fun _ => (#[] : Array Value)))).get? b = some o :=
    fun b o nb e => (Heap.get?_update_other _ _ (Ne.symm nb)).trans (Heap.get?_push_of_some _ e)
  refine wpAny_bind (wpAny_letGo ?_)
  generalize hH : (s.heap.push { cls := .type "list", data := .seq #[] }).update s.heap.objs.size (Obj.mapSeq (fun _ => (#[] : Array Value))) = H1 at *
  have nS : z ≠ s.heap.objs.size ∧ TI ≠ s.heap.objs.size ∧ TO ≠ s.heap.objs.size ∧ i1 ≠ s.heap.objs.size ∧ i2 ≠ s.heap.objs.size ∧ l1 ≠ s.heap.objs.size ∧ l2 ≠ s.heap.objs.size := ⟨Nat.ne_of_lt lz, Nat.ne_of_lt lTI, Nat.ne_of_lt lTO, Nat.ne_of_lt li1, Nat.ne_of_lt li2, Nat.ne_of_lt ll1, Nat.ne_of_lt ll2⟩
  have hz1 : IsZip H1 z TI TO .none := keep _ _ nS.1 hz
  have st0 : LzSt H1 z TI TO i1 i2 l1 l2 s.heap.objs.size xs ys 0 := ⟨keep _ _ nS.2.1 hTI, h1.at fun o e => keep _ o nS.2.2.2.1 e, h2.at fun o e => keep _ o nS.2.2.2.2.1 e, hl1.at fun o e => keep _ o nS.2.2.2.2.2.1 e, hl2.at fun o e => keep _ o nS.2.2.2.2.2.2 e, .inl ⟨hz1, by obtain ⟨a, b, e⟩ := hTO; exact ⟨a, b, keep _ _ nS.2.2.1 e⟩⟩⟩
  have hT : ∀ tk, ({ s with heap := H1, toks := tk } : Shared).TypeIs (.ref z) "zip" := fun tk => ⟨_, hz1, rfl⟩
  have h1s : Builtin.List.listSameRef (.ref s.heap.objs.size) (.ref z) = false := by simp [Builtin.List.listSameRef, nS.1.symm]
  have h2s : (Value.type "zip" == Value.type "list") = false := by decide
  have h3s : (Value.type "zip" == Value.type "tuple") = false := by decide
  have lS : s.heap.objs.size < H1.objs.size := Heap.lt_size hS1
  unfold Builtin.List.listExtendWith
  refine wpAny_bind (wpAny_typeOf (T := "zip") (hT _) ?_)
  simp only [h1s, h2s, h3s, Bool.or_false, Bool.false_eq_true, if_false]
  refine wpAny_bind (wpAny_pyIter_zip hz1 ?_)
  refine wpAny_bind (wpAny_holding ?_)
  unfold Builtin.List.listLengthHint
  refine wpAny_bind (wpAny_specialOf (hT _) lz_no_len ?_)
  show wpAny _ A.in1.in1 (specialOf (Value.ref z) (Str.ofString "__length_hint__") >>= _) _ _ _
  refine wpAny_bind (wpAny_specialOf (hT _) lz_no_hint ?_)
  refine wpAny_pure ?_
  show wpAny _ A.in1.in1 (rule "list.extend.makes-room" >>= fun _ => Builtin.List.listTouch (.ref s.heap.objs.size) >>= fun _ =>
    again (.builtin "list.extend.loop" ⟨[.ref s.heap.objs.size, .ref z, .none], []⟩)) _ _ _
  refine wpAny_bind (wpAny_rule ?_)
  refine wpAny_bind ?_
  show wpAny _ _ (updateSeq s.heap.objs.size (·.push .none) >>= fun _ => updateSeq s.heap.objs.size (·.pop)) _ _ _
  refine wpAny_bind (wpAny_updateSeq hS1 rfl ?_)
  have hS2 := Heap.get?_update_self (Obj.mapSeq (·.push Value.none)) hS1 rfl
  refine wpAny_updateSeq (hz := by seq_fits) hS2 rfl ?_
  have hS3 := Heap.get?_update_self (Obj.mapSeq (·.pop)) hS2 rfl
  have oth : ∀ b o, b ≠ s.heap.objs.size → H1.get? b = some o → ((H1.update s.heap.objs.size (Obj.mapSeq (·.push Value.none))).update s.heap.objs.size (Obj.mapSeq (·.pop))).get? b = some o :=
    fun b o hb e => (Heap.get?_update_other _ _ (Ne.symm hb)).trans ((Heap.get?_update_other _ _ (Ne.symm hb)).trans e)
  refine wpAny_pure ⟨plainId_quiet PySem.F.plain_extend_loop _, ?_⟩
  refine lz_loop (knd := knd) (kvs := kvs) (s := s) (A := A.in1) (h₁ := s.heap) (lo := s.heap.objs.size) hh D hn hlen hxy .none nS ⟨lz, lTO, li1, li2, Nat.le_refl _⟩ (fun h' tk acc c as k1 k2 k3 k4 k5 => ?_) kvs.length 0 _ s.toks _ #[] [] (Nat.sub_zero _) (Nat.zero_le _) (st0.keep oth nS) (fun b o b1 b2 b3 b4 b5 e => oth b o b1 (keep b o b1 e)) hS3 rfl rfl ⟨List.Pairwise.nil, (fun _ ha => nomatch ha), (fun j a hj => by simp at hj)⟩ ?_
  · exact ⟨rfl, fin h' tk acc c as (fun b o b1 b2 b3 b4 e => k1 b o (Nat.ne_of_lt (Heap.lt_size e)) b1 b2 b3 b4 e) k2 k3 k4 k5⟩
  · exact Heap.lt_size hS3
end
section
variable {X : Cx}
/-- a list and its tuples, laid above what stood there -/
theorem lz_laid {pins : List (Addr × Obj)} {σ : L2.St} {H : Hp} {s : Shared} {h3 : Heap} {tk : Nat} {kvs : List (Key × V)} {vs : List (Key × Value)} {acc : Array Value} {c : Nat} {as : List Addr} {S : Addr} (I : Inv X pins σ H s) (hz : kvs.length ≤ sizeLine) (kv : KV kvs vs) (hSs : s.heap.objs.size ≤ S)
    (keep : ∀ b o, s.heap.get? b = some o → h3.get? b = some o) (atS : h3.get? S = some { cls := .type "list", dict := none, data := .seq acc c, slots := #[] }) (hl : as.length = vs.length) (hG : KdxG (mixKind X.prog X.w) vs S h3 as) (hacc : acc.toList = as.map Value.ref) :
    ∃ H2 : Hp, (∀ b o, H b = some o → H2 b = some o) ∧ H S = none ∧ (∀ t ∈ as, H t = none) ∧ S ∉ as ∧ H2 S = some (.lst (as.map V.ref)) ∧ Paired (fun (t : Addr) (q : Key × V) => H2 t = some (.tup [kV q.1, q.2])) as kvs ∧ Inv X pins σ H2 { s with heap := h3, toks := tk } := by
  have lk := Paired.length kv
  have big : ∀ t ∈ as, s.heap.objs.size < t := fun t ht => Nat.lt_of_le_of_lt hSs (hG.above t ht)
  have notin : S ∉ as := fun q => Nat.lt_irrefl _ (hG.above _ q)
  have fresh : ∀ t ∈ as, H t = none := fun t ht => I.hok.fresh (Nat.le_of_lt (big t ht))
  have freshS : H S = none := I.hok.fresh hSs
  obtain ⟨G, hGd⟩ : ∃ G : Hp, G = upd H S (.lst (as.map V.ref)) := ⟨_, rfl⟩
  have pAt := LiI.putT_at as kvs G (by omega) (List.Pairwise.imp (fun {a b} (q : a < b) => Nat.ne_of_lt q) hG.rise)
  have out : ∀ b, b ∉ as → b ≠ S → LiI.putT G as kvs b = H b := fun b q1 q2 => by
    rw [LiI.putT_off as kvs G q1, hGd, upd_ne q2]
  have old : ∀ b o, s.heap.get? b = some o → b ∉ as ∧ b ≠ S := fun b o e => by
    have lt := Heap.lt_size e
    exact ⟨fun q => absurd (big b q) (Nat.not_lt.mpr (Nat.le_of_lt lt)), Nat.ne_of_lt (Nat.lt_of_lt_of_le lt hSs)⟩
  have up : ∀ b u, H b = some u → LiI.putT G as kvs b = some u := fun b u e => by
    rw [out b (fun q => by rw [fresh b q] at e; cases e) (fun q => by rw [q, freshS] at e; cases e), e]
  have eS : LiI.putT G as kvs S = some (.lst (as.map V.ref)) := by
    rw [LiI.putT_off as kvs G notin, hGd, upd_same]
  refine ⟨LiI.putT G as kvs, up, freshS, fresh, notin, eS, pAt, I.call' (ch := []) rfl ⟨fun b o q _ _ _ => keep b o q, fun b o q _ _ _ => ⟨o.slots, keep b o q⟩, fun b o q n _ => ?_, fun b o q _ => ⟨o, keep b o q⟩, fun b xs q => up b _ q, fun b o u q => up b _ q, fun b ps q => ⟨#[], by rw [up b _ q]; simp⟩⟩ (fun b u q => ?_) I.bare fun b q => by simp at q⟩
  · obtain ⟨o1, o2⟩ := old b o q
    rw [out b o1 o2, n]
  · by_cases c1 : b ∈ as
    · obtain ⟨j, pk, e1, e2, e3⟩ := LiI.paired_ix pAt c1
      rw [e3] at q
      cases q
      obtain ⟨key, k, x, f1, f2, f3⟩ := hG.pairs j b e1
      obtain ⟨qv, g1, g2, g3⟩ := LiI.paired_get kv e2
      rw [f1] at g1
      cases g1
      refine ⟨by show 2 ≤ sizeLine; decide, [key, x], .cons ?_ (.cons g3 .nil), ⟨_, f3, rfl, _, rfl⟩⟩
      rw [g2]
      exact relV_key (show keyIs k key = true from f2)
    · by_cases c2 : b = S
      · subst c2
        rw [eS] at q
        cases q
        refine ⟨by rw [List.length_map]; omega, acc.toList, c, by rw [hacc]; exact LiI.vals_refs as, ?_⟩
        rw [Array.toArray_toList, atS]
      · rw [out b c1 c2] at q
        exact (I.hok b u q).stay (fun d v _ y => keep d v y) (fun d y => up d _ y) fun d xs y => up d _ y
end
section
variable {X : Cx}
noncomputable def tListZip (K : PySem.W.Frag) (ta : TA) : TE := fun σ H Q => ta σ H fun vs H1 => ∃ (a b : Addr) (ks : List Key) (ys : List V), vs = [.ref a, .ref b] ∧ SqL K H1 a (ks.map kV) ∧ SqL K H1 b ys ∧
  ∀ (H' : Hp) (p : Addr) (ts : List Addr), (∀ b o, H1 b = some o → H' b = some o) → H1 p = none → (∀ t ∈ ts, H1 t = none) → p ∉ ts → H' p = some (.lst (ts.map V.ref)) → Paired (fun (t : Addr) (q : Key × V) => H' t = some (.tup [kV q.1, q.2])) ts (ks.zip ys) → Q (.ref p) H'
theorem pe_listZip {e e2 : Expr} {ta : TA} {p p2 pos pos2 : Pos} (hc : X.calm = true) (hg : Gl X "list") (hm : X.mg "list" = none) (hg2 : Gl X "zip") (hm2 : X.mg "zip" = none) (ha : PA X [e, e2] ta)
    (hs : starEach [e, e2] X.env = (false, eval e X.env) :: starEach [e2] X.env) (hpl : (backTo pos2 (starEach [e2] X.env)).any (·.1) = false)
    (hs2 : starEach [.Call (.Name "zip" p2) [e, e2] [] pos2] X.env = (false, eval (.Call (.Name "zip" p2) [e, e2] [] pos2) X.env) :: starEach [] X.env := by rfl) :
    PE X (.Call (.Name "list" p) [.Call (.Name "zip" p2) [e, e2] [] pos2] [] pos) (tListZip X.K ta) := by
  refine ⟨fun pins s σ H Q I h => ?_⟩
  refine Call_ (ld_blt I hg hm boot_list (PyProof.Rows.callWith_type1 (args_cons (Call_ (ld_blt I hg2 hm2 PyProof.Rows.boot_zip (PyProof.Rows.callWith_type1 (thn (ha.run pos2 pins s σ H _ I h) fun us s1 ⟨vs, H1, I1, r1, q1⟩ => ?_) hs hpl))) hs2) hs2 rfl))
  obtain ⟨a, b, ks, ys, rfl, hqx, hqy, q⟩ := q1
  cases r1 with
  | cons r rr =>
    cases rr with
    | cons r' rr =>
      cases rr
      cases r
      cases r'
      obtain ⟨its, rv, p1, z1⟩ := I1.list hqx
      obtain ⟨its2, rv2, p2', z2⟩ := I1.list hqy
      have la : a < s1.heap.objs.size := p1.lt
      have lb : b < s1.heap.objs.size := p2'.lt
      refine call_zip_2 p1.isList p2'.isList fun h' hz hTI hTO h1 h2 hsz hk => args_nil ?_
      have hl1 := p1.isList
      have hl2 := p2'.isList
      have e1 : its.length = ks.length := by rw [← rv.length, List.length_map]
      have e2 : its2.length = ys.length := rv2.length.symm
      have hlen : (ks.zip ys).length ≤ sizeLine := by
        rw [List.length_zip]
        rw [List.length_map] at z1
        exact Nat.le_trans (Nat.min_le_left _ _) z1
      have hlz : (ks.zip its2).length = (ks.zip ys).length := by rw [List.length_zip, List.length_zip, e2]
      have le1 : s1.heap.objs.size ≤ h'.objs.size := by rw [hsz]; omega
      have I2 : Inv X pins σ H1 { s1 with heap := h' } := I1.kept (t' := s1.toks) hk
      refine list_of_zip (knd := mixKind X.prog X.w) (kvs := ks.zip its2) (s := { s1 with heap := h' }) (I1.ok.hd hc) (PySem.W.ktu_apart s1.heap.objs.size a b la lb) (xs := its.toArray) (ys := its2.toArray) (by rw [hlz]; exact hlen) ?_ ?_ hz hTI ⟨_, _, hTO⟩ h1 h2 (hl1.at fun o e => hk _ o e) (hl2.at fun o e => hk _ o e) fun h3 tk acc c as k1 k2 k3 k4 k5 => ?_
      · rw [List.length_zip, List.size_toArray, List.size_toArray, e1]
      · rintro i key v x1 x2
        have x1 : its[i]? = some key := by simpa using x1
        have x2 : its2[i]? = some v := by simpa using x2
        obtain ⟨k, y1, y2⟩ := keys_at rv i key x1
        refine ⟨k, ?_, kV_is y2⟩
        rw [List.getElem?_zip_eq_some]
        exact ⟨y1, x2⟩
      · have keep : ∀ b o, s1.heap.get? b = some o → h3.get? b = some o := fun b o e => by
          have lt := Heap.lt_size e
          exact k1 b o (Nat.ne_of_lt (Nat.lt_of_lt_of_le lt (Nat.le_add_right _ _))) (Nat.ne_of_lt (Nat.lt_of_lt_of_le lt (Nat.le_add_right _ _))) (Nat.ne_of_lt lt) (Nat.ne_of_lt (Nat.lt_of_lt_of_le lt (Nat.le_add_right _ _))) (hk _ _ e)
        obtain ⟨H2, m1, m2, m3, m4, m5, m6, J⟩ := lz_laid (tk := tk) I1 hlen (kv_zip rv2) le1 keep k2 k3 k4 k5
        exact ⟨.ref _, H2, J, rfl, q H2 _ as m1 m2 m3 m4 m5 m6⟩
end
end Z

set_option Elab.async false
set_option linter.all false
set_option maxRecDepth 100000
set_option maxHeartbeats 2000000
/-! Z, part S: dicts: their values at once, what is walked. -/
namespace Z
open PySem PySem.Spec PyProof.Rows L2
theorem preSum_take (is : List Int) : ∀ n, n ≤ is.length → preSum (fun i => is.getD i 0) n = (is.take n).sum
  | 0, _ => by simp [preSum]
  | n + 1, h => by
    have hn : n < is.length := by omega
    show preSum _ n + is.getD n 0 = _
    rw [preSum_take is n (by omega), List.take_succ, List.getElem?_eq_getElem hn, List.sum_append, List.getD_eq_getElem?_getD, List.getElem?_eq_getElem hn]
    simp
theorem vals_snd : ∀ {kvs : List (Key × V)} {vs : List (Key × Value)}, KV kvs vs → Vals (kvs.map (·.2)) (vs.map (·.2))
  | _, _, .nil => .nil
  | _, _, .cons h t => .cons h.2 (vals_snd t)
section
variable {X : Cx} {o : Expr} {p pos apos mpos : Pos} {td : TE}
/-- sum(o.values()) -/
noncomputable def tSumVals (td : TE) : TE := fun σ H Q => td σ H fun x H1 => ∃ (a : Addr) (kvs : List (Key × V)) (is : List Int), x = V.ref a ∧ Rd H1 a (.dK kvs) ∧ kvs.map (·.2) = is.map V.int ∧ Q (.int is.sum) H1
theorem pe_sumVals (hc : X.calm = true) (hg : Gl X "sum") (hm : X.mg "sum" = none) (hd : PE X o td) (hbase : attributeBase o "values" X.env (eval o X.env) = eval o X.env) (hline : (apos.endLine == mpos.line) = true) :
    PE X (.Call (.Name "sum" p) [.Call (.Attribute o "values" apos) [] [] mpos] [] pos) (tSumVals td) := by
  have hse : starEach [Expr.Call (.Attribute o "values" apos) [] [] mpos] X.env = [(false, eval (Expr.Call (.Attribute o "values" apos) [] [] mpos) X.env)] := rfl
  refine ⟨fun pins s σ H Q I h => ?_⟩
  refine wpAny_Call_Name_kw (ld_blt I hg hm (u := .builtin "sum") (by first | rfl | decide +kernel) ?_ (by first | decide +kernel | decide) (by first | decide +kernel | decide))
  rw [hse]
  refine PySem.callWith_builtin1 (wpAny_Call_method0_late hbase hline (thn (hd.run pins s σ H _ I h) fun v s1 ⟨x, H1, I1, r1, a, kvs, is, ex, ha, hv, q⟩ => ?_))
  subst ex
  obtain rfl : v = Value.ref a := r1
  obtain ⟨_, hsys, vs, rel, dof⟩ := dk_rd I1.hok ha
  obtain ⟨ep, dat⟩ := dof.dictAt
  have dat' := dat
  obtain ⟨ob, es, ho, ex, hdat, hko, hpr, hnd⟩ := dat'
  refine ⟨"dict", "dict.values", F.plainAttrs_dict, F.slot_dict_values, F.type_dict_values, ⟨ob, ho, ex.1⟩, fun b e => ?_, Calls.callWith_builtin rfl (PySem.evalArgs_none ?_)⟩
  · cases e
    exact ⟨ob, ho, ex.2.1⟩
  refine call_meetsIn F.slot_dict_values ⟨ob, ho, ex.1⟩ F.entry_dict_values (F.args_dict_values_1 _) (meets_dict_values (mixKind X.prog X.w) a hsys) ⟨⟨vs, dof⟩, ?_⟩
  have k1 : ∀ b u, s1.heap.get? b = some u → (s1.heap.push { cls := .type "dict_values", data := .fields #[.ref a] }).get? b = some u := fun b u e => Heap.get?_push_of_some _ e
  have dat1 : (s1.heap.push { cls := .type "dict_values", data := .fields #[.ref a] }).DictAt (mixKind X.prog X.w) a vs ep := dat.keep k1
  have hlv : vs.length = is.length := by
    have e1 := congrArg List.length hv
    rw [List.length_map, List.length_map] at e1
    rw [← e1]
    exact (KV.length rel).symm
  have hval : ∀ (i : Nat) (v : Value), (∃ k, vs[i]? = some (k, v)) → ∃ t, v = Value.int (is.getD i 0) t := fun i v ⟨k, hk⟩ => by
    obtain ⟨x, h1, h2⟩ := KV.at' rel hk
    have e1 : (kvs.map (·.2))[i]? = some x := by rw [List.getElem?_map, h1] <;> rfl
    rw [hv, List.getElem?_map] at e1
    obtain ⟨j, hj, e2⟩ := Option.map_eq_some_iff.mp e1
    subst e2
    obtain ⟨t, e3⟩ := h2
    refine ⟨t, ?_⟩
    rw [e3, List.getD_eq_getElem?_getD, hj] <;> rfl
  refine call_sum_walkG (wpAny_pyIter_values (v := s1.heap.objs.size) (d := a) ⟨_, Heap.get?_push_size _ rfl, rfl, rfl⟩ dat1 ?_)
  have hlt : a < s1.heap.objs.size := Heap.lt_size ho
  have hsz : (s1.heap.push { cls := .type "dict_values", data := .fields #[.ref a] }).objs.size = s1.heap.objs.size + 1 := Heap.size_push _ _
  refine ⟨_, _, _, _, _, _, fun i => is.getD i 0, rfl, Walks.dictValues (knd := mixKind X.prog X.w) (A := X.A.in1) (I.ok.hd hc) (s1.heap.push { cls := .type "dict_values", data := .fields #[.ref a] }).objs.size a (by rw [hsz]; exact Nat.ne_of_lt (Nat.lt_succ_of_lt hlt)) vs ep,
    ⟨⟨_, Heap.get?_push_size _ rfl, rfl, rfl⟩, dat1.keep fun b u e => Heap.get?_push_of_some _ e⟩, fun b hb => ?_, hval, fun h' tk t' hk => ?_⟩
  · show b < ((s1.heap.push _).push _).objs.size
    rw [Heap.size_push, Heap.size_push]
    rw [hsz] at hb
    rcases List.mem_cons.mp hb with e | hb
    · rw [e]
      exact Nat.lt_succ_self _
    · have e : b = a := List.mem_singleton.mp hb
      rw [e]
      exact Nat.lt_succ_of_lt (Nat.lt_succ_of_lt hlt)
  · have es : preSum (fun i => is.getD i 0) vs.length = is.sum := by rw [hlv, preSum_take is _ (Nat.le_refl _), List.take_length]
    refine ⟨.int is.sum, H1, I1.kept (t' := tk) fun b u e => hk b u (fun hmem => ?_) (Heap.get?_push_of_some _ (k1 b u e)), ⟨t', by rw [es]⟩, q⟩
    have e1 : b = (s1.heap.push { cls := .type "dict_values", data := .fields #[.ref a] }).objs.size := List.mem_singleton.mp hmem
    have e2 := Heap.lt_size e
    rw [hsz] at e1
    rw [e1] at e2
    exact absurd e2 (Nat.not_lt.mpr (Nat.le_succ _))
/-- list(o.values()) -/
noncomputable def tListVals (td : TE) : TE := fun σ H Q => td σ H fun x H1 => ∃ (a : Addr) (kvs : List (Key × V)), x = V.ref a ∧ Rd H1 a (.dK kvs) ∧ ∀ p, H1 p = none → Q (.ref p) (upd H1 p (.lst (kvs.map (·.2))))
theorem pe_listVals (hc : X.calm = true) (hg : Gl X "list") (hm : X.mg "list" = none) (hd : PE X o td) (hbase : attributeBase o "values" X.env (eval o X.env) = eval o X.env) (hline : (apos.endLine == mpos.line) = true) :
    PE X (.Call (.Name "list" p) [.Call (.Attribute o "values" apos) [] [] mpos] [] pos) (tListVals td) := by
  have hse : starEach [Expr.Call (.Attribute o "values" apos) [] [] mpos] X.env = [(false, eval (Expr.Call (.Attribute o "values" apos) [] [] mpos) X.env)] := rfl
  refine ⟨fun pins s σ H Q I h => ?_⟩
  refine wpAny_Call_Name_kw (ld_blt I hg hm (u := .type "list") (by first | rfl | decide +kernel) ?_ (by first | decide +kernel | decide) (by first | decide +kernel | decide))
  refine PyProof.Rows.callWith_type1 (args_cons (wpAny_Call_method0_late hbase hline (thn (hd.run pins s σ H _ I h) fun v s1 ⟨x, H1, I1, r1, a, kvs, ex, ha, q⟩ => ?_)) hse) hse rfl
  subst ex
  obtain rfl : v = Value.ref a := r1
  obtain ⟨hz, hsys, vs, rel, dof⟩ := dk_rd I1.hok ha
  obtain ⟨ep, dat⟩ := dof.dictAt
  have dat' := dat
  obtain ⟨ob, es, ho, ex, hdat, hko, hpr, hnd⟩ := dat'
  refine ⟨"dict", "dict.values", F.plainAttrs_dict, F.slot_dict_values, F.type_dict_values, ⟨ob, ho, ex.1⟩, fun b e => ?_, Calls.callWith_builtin rfl (PySem.evalArgs_none ?_)⟩
  · cases e
    exact ⟨ob, ho, ex.2.1⟩
  refine call_meetsIn F.slot_dict_values ⟨ob, ho, ex.1⟩ F.entry_dict_values (F.args_dict_values_1 _) (meets_dict_values (mixKind X.prog X.w) a hsys) ⟨⟨vs, dof⟩, ?_⟩
  have k1 : ∀ b u, s1.heap.get? b = some u → (s1.heap.push { cls := .type "dict_values", data := .fields #[.ref a] }).get? b = some u := fun b u e => Heap.get?_push_of_some _ e
  have dat1 : (s1.heap.push { cls := .type "dict_values", data := .fields #[.ref a] }).DictAt (mixKind X.prog X.w) a vs ep := dat.keep k1
  refine args_nil ?_
  refine PySem.W.kdl_call (s := { s1 with heap := s1.heap.push { cls := .type "dict_values", data := .fields #[.ref a] } }) (PySem.W.kdl_values (knd := mixKind X.prog X.w) (r := s1.heap.objs.size) (d := a) (kvs := vs) (ep := ep)) (I.ok.hd hc) ⟨⟨_, Heap.get?_push_size _ rfl, rfl, rfl⟩, dat1⟩ (by rw [← rel.length]; exact hz) fun h' tk acc c' hk hD hacc => ?_
  have I2 : Inv X pins σ H1 { s1 with heap := s1.heap.push { cls := .type "dict_values", data := .fields #[.ref a] } } := I1.kept (t' := s1.toks) k1
  have ev : acc.toList = vs.map (·.2) := PySem.W.kdl_vals_eq acc.toList (by rw [Array.length_toList]; exact hacc.1) fun j v e => hacc.2 j v (by rw [← Array.getElem?_toList]; exact e)
  have hv : Vals (kvs.map (·.2)) acc.toList := by rw [ev]; exact vals_snd rel
  refine ⟨.ref (s1.heap.push { cls := .type "dict_values", data := .fields #[.ref a] }).objs.size, upd H1 (s1.heap.push { cls := .type "dict_values", data := .fields #[.ref a] }).objs.size (.lst (kvs.map (·.2))), I2.laid (t' := tk) hk (Nat.le_refl _)
    (show ObjOk X.prog X.w _ _ _ (.lst (kvs.map (·.2))) from ⟨by rw [List.length_map]; exact hz, acc.toList, c', hv, by rw [Array.toArray_toList]; exact hD⟩), rfl, q _ (I2.hok.fresh (Nat.le_refl _))⟩
end
/-- behind the value, a dict is locked or not -/
theorem pe_then {X : Cx} {e : Expr} {t : TE} (h : PE X e t) : PE X e fun σ H Q => t σ H fun v H1 => Q v H1 ∨ ∃ d u, H1 d = some u ∧ Mut (some u) ∧ ∀ od, Q v (upd H1 d (.frz od u)) := by
  refine ⟨fun pins s σ H Q I hw => ?_⟩
  refine thn (h.run pins s σ H _ I hw) fun v s1 ⟨x, H1, I1, r, q⟩ => ?_
  rcases q with q | ⟨d, u, hd, mu, q⟩
  · exact ⟨x, H1, I1, r, q⟩
  · obtain ⟨od, I2⟩ := I1.lock hd mu
    exact ⟨x, _, I2, r, q od⟩
end Z

set_option Elab.async false
set_option linter.all false
set_option maxRecDepth 100000
/-! Z, part V: what is written in a way of its own. -/
namespace Z
open PySem PySem.Spec PyProof.Rows L2
theorem insS_mem {x y : Int} : ∀ {ys : List Int}, y ∈ insS x ys ↔ y = x ∨ y ∈ ys
  | [] => by simp [insS]
  | z :: zs => by
    unfold insS
    split
    · simp
    · split
      · rename_i h; subst h; simp
      · rw [List.mem_cons, insS_mem, List.mem_cons]
        constructor
        · rintro (h | h | h) <;> simp [h]
        · rintro (h | h | h) <;> simp [h]
theorem insS_pw {x : Int} : ∀ {ys : List Int}, ys.Pairwise (· < ·) → (insS x ys).Pairwise (· < ·)
  | [], _ => by simp [insS]
  | z :: zs, h => by
    rw [List.pairwise_cons] at h
    unfold insS
    split
    · rename_i hx
      rw [List.pairwise_cons]
      refine ⟨fun a ha => ?_, by rw [List.pairwise_cons]; exact h⟩
      rcases List.mem_cons.mp ha with e | e
      · omega
      · have := h.1 a e; omega
    · split
      · rw [List.pairwise_cons]; exact h
      · rw [List.pairwise_cons]
        refine ⟨fun a ha => ?_, insS_pw h.2⟩
        rcases insS_mem.mp ha with e | e
        · omega
        · exact h.1 a e
theorem ssort_mem {y : Int} : ∀ {ns : List Int}, y ∈ ssort ns ↔ y ∈ ns
  | [] => by simp [ssort]
  | n :: ns => by
    show y ∈ insS n (ssort ns) ↔ _
    rw [insS_mem, ssort_mem, List.mem_cons]
theorem ssort_pw : ∀ {ns : List Int}, (ssort ns).Pairwise (· < ·)
  | [] => List.Pairwise.nil
  | n :: ns => insS_pw ssort_pw
theorem pw_eq : ∀ {xs ys : List Int}, xs.Pairwise (· < ·) → ys.Pairwise (· < ·) → (∀ k, k ∈ xs ↔ k ∈ ys) → xs = ys
  | [], [], _, _, _ => rfl
  | [], y :: ys, _, _, h => nomatch (h y).mpr List.mem_cons_self
  | x :: xs, [], _, _, h => nomatch (h x).mp List.mem_cons_self
  | x :: xs, y :: ys, h1, h2, h => by
    rw [List.pairwise_cons] at h1 h2
    have e : x = y := by
      rcases List.mem_cons.mp ((h x).mp List.mem_cons_self) with a | a
      · exact a
      · rcases List.mem_cons.mp ((h y).mpr List.mem_cons_self) with b | b
        · exact b.symm
        · have := h2.1 x a
          have := h1.1 y b
          omega
    subst e
    rw [pw_eq h1.2 h2.2 fun k => ?_]
    constructor
    · intro hk
      rcases List.mem_cons.mp ((h k).mp (List.mem_cons_of_mem _ hk)) with a | a
      · have := h1.1 k hk; omega
      · exact a
    · intro hk
      rcases List.mem_cons.mp ((h k).mpr (List.mem_cons_of_mem _ hk)) with a | a
      · have := h2.1 k hk; omega
      · exact a
theorem VRs.reverse {K : PySem.W.Frag} {a : Pt} : ∀ {ds : List D} {vs : List V}, VRs K a ds vs → VRs K a ds.reverse vs.reverse
  | _, _, .nil => .nil
  | _, _, .cons x r => by
    rw [List.reverse_cons, List.reverse_cons]
    exact VRs.append (VRs.reverse r) (.cons x .nil)
/-! ### t[::-1] of a tuple, xs[::-1] of a list -/
section
open HT PySem PySem.Builtin PyProof.Rows
variable {prog : Program} {w : World} {A : Around} {E : Value → Shared → Prop} {s : Shared}
theorem adjust_rev (n : Nat) : Builtin.Slice.sliceAdjust none none (-1) (n : Int) = ((n : Int) - 1, -1) := by
  unfold Builtin.Slice.sliceAdjust
  rfl
theorem places_rev (n : Nat) : Builtin.Slice.slicePlaces ((n : Int) - 1) (-1) (-1) = n := by
  unfold Builtin.Slice.slicePlaces
  rw [if_neg (by decide)]
  by_cases h : (n : Int) - 1 > -1
  · rw [if_pos h, show (- -1 : Int) = 1 by decide, Int.ediv_one]
    omega
  · rw [if_neg h]
    omega
theorem sliceApplied_rev {sl : Addr} {vl vu vs : Value} {n : Nat} {Q : Int × Int × Nat → Shared → Prop} (hs : s.heap.IsSliceOf sl vl vu vs) (pl : IsPart vl none) (pu : IsPart vu none) (ps : IsPart vs (some (-1)))
    (h : Q ((n : Int) - 1, -1, n) s) : wpAny (model prog w) A (Builtin.Slice.sliceApplied (.ref sl) (pure (n : Int))) Q E s := by
  obtain ⟨os, hos, hcs, hds⟩ := id hs
  unfold Builtin.Slice.sliceApplied Builtin.Slice.sliceFields
  refine wpAny_bind (wpAny_bind (wpAny_field hos hds (x := vl) rfl (wpAny_bind (wpAny_field hos hds (x := vu) rfl (wpAny_bind (wpAny_field hos hds (x := vs) rfl (wpAny_pure ?_)))))))
  refine wpAny_bind (slicePart_ ps ?_)
  show wpAny _ _ (if ((-1 : Int) == 0) = true then _ else _) _ _ s
  rw [if_neg (by decide)]
  refine wpAny_bind (slicePart_ pl (wpAny_bind (slicePart_ pu (wpAny_bind (wpAny_pure ?_)))))
  show wpAny _ _ (match Builtin.Slice.sliceAdjust none none (-1) (n : Int) with | (lo, hi) => pure (lo, (-1 : Int), Builtin.Slice.slicePlaces lo hi (-1))) _ _ s
  rw [adjust_rev]
  show wpAny _ _ (pure ((n : Int) - 1, (-1 : Int), Builtin.Slice.slicePlaces ((n : Int) - 1) (-1) (-1))) _ _ s
  rw [places_rev]
  exact wpAny_pure h
theorem fm_congr {α β : Type} {f g : α → Option β} : ∀ {l : List α}, (∀ k ∈ l, f k = g k) → l.filterMap f = l.filterMap g
  | [], _ => rfl
  | x :: l, h => by rw [List.filterMap_cons, List.filterMap_cons, h x List.mem_cons_self, fm_congr fun k hk => h k (List.mem_cons_of_mem _ hk)]
theorem pick_rev (xs : Array Value) : ((List.range xs.size).filterMap fun (k : Nat) => xs[(((xs.size : Nat) : Int) - 1 + (k : Int) * -1).toNat]?).toArray = xs.toList.reverse.toArray := by
  have e : ((List.range xs.size).filterMap fun (k : Nat) => xs[(((xs.size : Nat) : Int) - 1 + (k : Int) * -1).toNat]?) = ((List.range xs.size).map fun k => xs.size - 1 - k).filterMap (xs[·]?) := by
    rw [List.filterMap_map]
    refine fm_congr fun k hk => ?_
    have := List.mem_range.mp hk
    show _ = xs[xs.size - 1 - k]?
    congr 1
    omega
  rw [e, PySem.W.krv_range, List.filterMap_reverse, PySem.W.krv_all]
theorem getItem_tuple_rev {t sl : Addr} {items : Array Value} {vl vu vs : Value} {Q : Value → Shared → Prop} (ht : IsTup s.heap t items) (hs : s.heap.IsSliceOf sl vl vu vs) (pl : IsPart vl none) (pu : IsPart vu none) (ps : IsPart vs (some (-1)))
    (h : Q (.ref s.heap.objs.size) { s with heap := s.heap.push { cls := .type "tuple", data := .seq items.toList.reverse.toArray } })
    (hsz : items.size ≤ sizeLine) : wpAny (model prog w) A (getItem (.ref t) (.ref sl)) Q E s := by
  have htake : sizeOk (.seq items.toList.reverse.toArray) := by
    show items.toList.reverse.toArray.size ≤ sizeLine
    rw [List.size_toArray, List.length_reverse, Array.length_toList]
    exact hsz
  obtain ⟨os, hos, hcs, hds⟩ := id hs
  have hTs : s.TypeIs (.ref sl) "slice" := ⟨os, hos, hcs⟩
  unfold getItem
  try with_reducible refine wpAny_holding ?_
  first | refine wpAny_bind (wpAny_pure ?_) | skip
  refine wpAny_bind (wpAny_sequenceKey ht.typeIs (by decide) ?_)
  refine wpAny_bind (wpAny_callSpecial?_slot (name := Str.ofString "__getitem__") ht.typeIs PyProof.Rows.slot_tuple_getitem
    (wpAny_call_entry PyProof.Rows.slot_tuple_getitem ht.typeIs PyProof.Rows.entry_tuple_getitem ?_ (PyProof.Rows.args_tuple_getitem _ _)))
  show wpAny _ _ (Builtin.Tuple.tupleItemsOf (.ref t) >>= _) _ _ s
  refine wpAny_bind (tupleItemsOf_ ht ?_)
  refine wpAny_bind (wpAny_typeOf hTs ?_)
  rw [if_pos (by decide)]
  refine wpAny_bind (sliceApplied_rev hs pl pu ps ?_)
  have hno : ¬ (((((items.size : Nat) : Int) - 1 == 0) && (-1 : Int) == 1 && items.size == items.size) = true) := by
    rw [show ((-1 : Int) == 1) = false from rfl, Bool.and_false, Bool.false_and]
    exact Bool.false_ne_true
  show wpAny _ _ (if ((((items.size : Nat) : Int) - 1 == 0) && (-1 : Int) == 1 && items.size == items.size) = true then _ else _) _ _ s
  rw [if_neg hno, pick_rev]
  first
    | exact wpAny_bind (m := Builtin.Tuple.tupleExact _) (wpAny_newObj_type (wpAny_pure ⟨_, rfl, wpAny_pure h⟩) htake)
    | exact wpAny_bind (m := Builtin.Tuple.tupleExact _) (wpAny_newObj_type (wpAny_bind (wpAny_pure (wpAny_pure ⟨_, rfl, wpAny_pure h⟩))) htake)
    | exact wpAny_bind (wpAny_bind (m := Builtin.Tuple.tupleExact _) (wpAny_newObj_type (wpAny_pure (wpAny_pure ⟨_, rfl, wpAny_pure h⟩)) htake))
    | exact wpAny_bind (wpAny_bind (m := Builtin.Tuple.tupleExact _) (wpAny_newObj_type (wpAny_pure ⟨_, rfl, wpAny_pure h⟩) htake))
end
section
variable {X : Cx}
noncomputable def tRev2 (K : PySem.W.Frag) (te : TE) : TE := fun σ H Q => te σ H fun x H1 => ∃ a xs, x = .ref a ∧ (SqL K H1 a xs ∧ (∀ p, H1 p = none → Q (.ref p) (upd H1 p (.lst xs.reverse))) ∨ SqT K H1 a xs ∧ ∀ p, H1 p = none → Q (.ref p) (upd H1 p (.tup xs.reverse)))
theorem pe_rev2 {e : Expr} {te : TE} {k : Nat} {p1 p2 p3 pos : Pos} (he : PE X e te) : PE X (.Subscript e (.Slice none none (some (.UnaryOp .USub (.Constant (.int 1) k p1) p2)) p3) pos) (tRev2 X.K te) := by
  refine ⟨fun pins s σ H Q I h => ?_⟩
  refine Subscript_ (thn (he.run pins s σ H _ I h) fun v s1 ⟨x, H1, I1, r1, q1⟩ => ?_)
  obtain ⟨a, xs, ex, hxq⟩ := q1
  subst ex
  cases r1
  have hst : PO X (some (.UnaryOp .USub (.Constant (.int 1) k p1) p2)) (tPart (tUn (rU fun i => .int (-i)) (tC (.int 1)))) := po_some (pe_un un_neg pe_int)
  refine wpAny_Slice (thn (po_none.run pins s1 σ H1 (fun o H2 => o = none ∧ H2 = H1) I1 ⟨rfl, rfl⟩) fun vl s2 ⟨l, H2, I2, pl, el, e2⟩ => ?_)
  subst el e2
  refine thn (po_none.run pins s2 σ H2 (fun o H3 => o = none ∧ H3 = H2) I2 ⟨rfl, rfl⟩) fun vu s3 ⟨u, H3, I3, pu, eu, e3⟩ => ?_
  subst eu e3
  refine thn (hst.run pins s3 σ H3 (fun o H4 => o = some (-1) ∧ H4 = H3) I3 ⟨1, rfl, -1, rfl, rfl, rfl⟩) fun vs s4 ⟨o, H4, I4, ps, eo, e4⟩ => ?_
  subst eo e4
  have I5 : Inv X pins σ H4 { s4 with heap := s4.heap.push { cls := .type "slice", data := .fields #[vl, vu, vs] } } := I4.kept (t' := s4.toks) fun b ob q => Heap.get?_push_of_some _ q
  show wpAny (model X.prog X.w) X.A (subscriptTail e (.Slice none none (some (.UnaryOp .USub (.Constant (.int 1) k p1) p2)) p3) (.ref a) (.ref s4.heap.objs.size)) (EP X pins σ Q) X.xe { s4 with heap := s4.heap.push { cls := .type "slice", data := .fields #[vl, vu, vs] } }
  rcases hxq with ⟨hx, q⟩ | ⟨hx, q⟩
  · obtain ⟨its, r, ht, hz⟩ := I5.list hx
    have hlen := r.length
    refine tail_any (ops := [.ref a, .ref s4.heap.objs.size]) ht.isList.typeIs (PySem.slot_list_getitem.lookup) ?_ (by with_unfolding_all rfl)
    refine wpAny_getItem_list_slice ht.isList (Heap.IsSliceOf.new _ vl vu vs) pl pu ps (by decide) ?_ (by rw [List.size_toArray]; omega)
    rw [PySem.W.krv_pick]
    refine ⟨.ref _, _, I5.laid (t' := s4.toks) (o := .lst xs.reverse) (fun b ob q => Heap.get?_push_of_some _ q) (Nat.le_refl _) ?_, rfl, q _ (I5.hok.fresh (Nat.le_refl _))⟩
    exact ⟨by rw [List.length_reverse]; exact hz, _, 0, r.reverse, Heap.get?_push_size _ rfl⟩
  · obtain ⟨its, r, ht, hz⟩ := I5.tuple hx
    have hlen := r.length
    refine tail_any (ops := [.ref a, .ref s4.heap.objs.size]) ht.typeIs PyProof.Rows.slot_tuple_getitem.lookup ?_ (by with_unfolding_all rfl)
    refine getItem_tuple_rev ht (Heap.IsSliceOf.new _ vl vu vs) pl pu ps ?_ (by rw [List.size_toArray]; omega)
    refine ⟨.ref _, _, I5.laid (t' := s4.toks) (o := .tup xs.reverse) (fun b ob q => Heap.get?_push_of_some _ q) (Nat.le_refl _) ?_, rfl, q _ (I5.hok.fresh (Nat.le_refl _))⟩
    exact ⟨by rw [List.length_reverse]; exact hz, _, r.reverse, IsTup.new _ _⟩
theorem Vals.pickL {ds : List V} {vs : List Value} (r : Vals ds vs) {i j : Int} : Vals (Z.pickL ds i j) (Z.pickL vs i j) := by
  unfold Z.pickL
  rw [r.length]
  generalize PySem.sliceRange _ _ _ = ks
  induction ks with
  | nil => exact .nil
  | cons k ks ih =>
    rw [List.filterMap_cons, List.filterMap_cons]
    cases e : ds[k]? with
    | none =>
      rw [show vs[k]? = none by rw [List.getElem?_eq_none_iff] at e ⊢; rw [← r.length]; exact e]
      exact ih
    | some d =>
      obtain ⟨v, e2, rv⟩ := r.get e
      rw [e2]
      exact .cons rv ih
theorem pickL_arr {us : Array Value} {i j : Int} : slicePick us (some i) none (some j) = (Z.pickL us.toList i j).toArray := by
  unfold slicePick Z.pickL
  congr 1
  rw [Array.length_toList]
  congr 1
  funext k
  exact (Array.getElem?_toList ..).symm
theorem Vals.pickL_le {ds : List V} {us : List Value} (r : Vals ds us) {i j : Int} : (Z.pickL ds i j).length ≤ ds.length := by
  have h := slicePick_size_le us.toArray (some i) none (some j)
  rw [pickL_arr, List.size_toArray, List.size_toArray] at h
  rw [Vals.length (Vals.pickL r), Vals.length r]
  exact h
noncomputable def tSls (K : PySem.W.Frag) (te tl ts : TE) : TE := fun σ H Q => te σ H fun x H1 => tl σ H1 fun l H2 => ts σ H2 fun c H3 => ∃ a xs i j, x = .ref a ∧ l = .int i ∧ c = .int j ∧ 0 < j ∧ SqL K H3 a xs ∧ ∀ p, H3 p = none → Q (.ref p) (upd H3 p (.lst (Z.pickL xs i j)))
theorem pe_sls {e l c : Expr} {te tl ts : TE} {p3 pos : Pos} (he : PE X e te) (hl : PE X l tl) (hc : PE X c ts) : PE X (.Subscript e (.Slice (some l) none (some c) p3) pos) (tSls X.K te tl ts) := by
  refine ⟨fun pins s σ H Q I h => ?_⟩
  refine Subscript_ (thn (he.run pins s σ H _ I h) fun v s1 ⟨x, H1, I1, r1, q1⟩ => ?_)
  refine wpAny_Slice (thn (hl.run pins s1 σ H1 _ I1 q1) fun vl s2 ⟨xl, H2, I2, rl, q2⟩ => ?_)
  refine thn (po_none.run pins s2 σ H2 (fun o H3 => o = none ∧ H3 = H2) I2 ⟨rfl, rfl⟩) fun vu s3 ⟨u, H3, I3, pu, eu, e3⟩ => ?_
  subst eu e3
  refine thn (hc.run pins s3 σ H3 _ I3 q2) fun vs s4 ⟨xc, H4, I4, rc, a, xs, i, j, ex, el, ec, hj, hx, q⟩ => ?_
  subst ex el ec
  cases r1
  obtain ⟨tk1, rfl⟩ := rl
  obtain ⟨tk2, rfl⟩ := rc
  have pl : IsPart (.int i tk1) (some i) := .int i tk1
  have ps : IsPart (.int j tk2) (some j) := .int j tk2
  have I5 : Inv X pins σ H4 { s4 with heap := s4.heap.push { cls := .type "slice", data := .fields #[.int i tk1, vu, .int j tk2] } } := I4.kept (t' := s4.toks) fun b ob q => Heap.get?_push_of_some _ q
  show wpAny (model X.prog X.w) X.A (subscriptTail e (.Slice (some l) none (some c) p3) (.ref a) (.ref s4.heap.objs.size)) (EP X pins σ Q) X.xe { s4 with heap := s4.heap.push { cls := .type "slice", data := .fields #[.int i tk1, vu, .int j tk2] } }
  obtain ⟨its, r, ht, hz⟩ := I5.list hx
  have hlen := r.length
  refine tail_any (ops := [.ref a, .ref s4.heap.objs.size]) ht.isList.typeIs (PySem.slot_list_getitem.lookup) ?_ (by with_unfolding_all rfl)
  refine wpAny_getItem_list_slice ht.isList (Heap.IsSliceOf.new _ (.int i tk1) vu (.int j tk2)) pl pu ps (fun z => by cases z; omega) ?_ (by rw [List.size_toArray]; omega)
  rw [pickL_arr]
  refine ⟨.ref _, _, I5.laid (t' := s4.toks) (o := .lst (Z.pickL xs i j)) (fun b ob q => Heap.get?_push_of_some _ q) (Nat.le_refl _) ?_, rfl, q _ (I5.hok.fresh (Nat.le_refl _))⟩
  exact ⟨Nat.le_trans (Vals.pickL_le r) hz, _, 0, Vals.pickL r, Heap.get?_push_size _ rfl⟩
end
section
variable {S : Stat}
theorem un_imp {u : U} {W : WX} {va : Env → Hh → KD → KX → Prop} {σ : L2.St} {H : Hp} {Q : VK} {R : V → Hp → VK → Prop}
    (r : ∀ (b : Pt) (d : D) (v : V) (Qd : KD) (Q : VK), SR S.K S.cl b → VR S.K b d v → bnd (unD u d b.h) Qd → KQ S.K S.cl b Qd Q → R v b.H Q)
    (h : tE S W (fun env h Q X => va env h (fun x h1 => bnd (unD u x h1) Q) X) σ H Q) : tE S W va σ H fun v H1 => R v H1 Q := by
  obtain ⟨a1, env, Qd, Xd, eH, sr, er, hb, kq, kx⟩ := h
  exact ⟨a1, env, _, Xd, eH, sr, er, hb, fun b d v l s rv q => r b d v Qd Q s rv q (kq.mono l), kx⟩
theorem kvr_snd {K : PySem.W.Frag} {a : Pt} {κ : Type} : ∀ {kvs : List (κ × D)} {ws : List (κ × V)}, KVR K a kvs ws → VRs K a (kvs.map (·.2)) (ws.map (·.2))
  | _, _, .nil => .nil
  | _, _, .cons r t => .cons r.2 (kvr_snd t)
theorem kvr_fst {K : PySem.W.Frag} {a : Pt} {κ : Type} : ∀ {kvs : List (κ × D)} {ws : List (κ × V)}, KVR K a kvs ws → kvs.map (·.1) = ws.map (·.1)
  | _, _, .nil => rfl
  | _, _, .cons r t => by rw [List.map_cons, List.map_cons, kvr_fst t, r.1]
theorem VR.key {K : PySem.W.Frag} {a : Pt} (k : DKey) : VR K a (ofKey k) (kV k) := by
  cases k with
  | inl i => exact .int i
  | inr z => exact .str z
theorem kvr_keys {K : PySem.W.Frag} {a : Pt} : ∀ {kvs : List (DKey × D)} {ws : List (DKey × V)}, KVR K a kvs ws → VRs K a (kvs.map fun kv => ofKey kv.1) (ws.map fun kv => kV kv.1)
  | _, _, .nil => .nil
  | p :: ps, q :: qs, .cons r t => .cons (by show VR K a (ofKey p.1) (kV q.1); rw [← r.1]; exact VR.key _) (kvr_keys t)
theorem keys_ints : ∀ {kvs : List (DKey × D)} {ns : List Int}, (kvs.map fun kv => ofKey kv.1) = ns.map D.int → kvs.map (·.1) = ns.map Sum.inl
  | [], [], _ => rfl
  | [], _ :: _, e => by cases e
  | _ :: _, [], e => by cases e
  | (k, d) :: kvs, n :: ns, e => by
    rw [List.map_cons, List.map_cons] at e
    injection e with e1 e2
    rw [List.map_cons, List.map_cons, keys_ints e2]
    cases k with
    | inl i => injection e1 with e1; rw [e1]
    | inr z => cases e1
theorem keys_strs : ∀ {kvs : List (DKey × D)} {ns : List Str}, (kvs.map fun kv => ofKey kv.1) = ns.map D.str → kvs.map (·.1) = ns.map Sum.inr
  | [], [], _ => rfl
  | [], _ :: _, e => by cases e
  | _ :: _, [], e => by cases e
  | (k, d) :: kvs, n :: ns, e => by
    rw [List.map_cons, List.map_cons] at e
    injection e with e1 e2
    rw [List.map_cons, List.map_cons, keys_strs e2]
    cases k with
    | inr i => injection e1 with e1; rw [e1]
    | inl z => cases e1
theorem srtK_cases {ds es : List D} (e : srtK ds = some es) : (∃ ns, ds = ns.map D.int ∧ es = (isort ns).map .int) ∨ ∃ zs, ds = zs.map D.str ∧ es = (tsrt zs).map .str := by
  unfold srtK at e
  split at e
  · rename_i ns h
    cases e
    exact .inl ⟨ns, intsOf_eq h, rfl⟩
  · obtain ⟨zs, h1, h2⟩ := Option.map_eq_some_iff.mp e
    exact .inr ⟨zs, strsOf_eq h1, h2.symm⟩
/-- sorted: a dict or a list, of whole numbers or texts -/
noncomputable def rSortedK (K : PySem.W.Frag) : List V → Hp → VK → Prop := fun xs H Q => (∃ (a : Addr) (kvs : List (Key × V)) (ks : List Int), xs = [.ref a] ∧ Rd H a (.dK kvs) ∧ kvs.map (·.1) = ks.map Sum.inl ∧ ks.length < 64 ∧
    ∀ (ys : List Int) (p : Addr), ys.Perm ks → ys.Pairwise (· ≤ ·) → H p = none → Q (.ref p) (upd H p (.lst (ys.map V.int)))) ∨
  (∃ (a : Addr) (kvs : List (Key × V)) (ks : List Str), xs = [.ref a] ∧ Rd H a (.dK kvs) ∧ kvs.map (·.1) = ks.map Sum.inr ∧ ks.length < 64 ∧
    ∀ ys p, ys.Perm ks → sortedS ys = true → H p = none → Q (.ref p) (upd H p (.lst (ys.map V.str)))) ∨ rSortedI K xs H Q ∨ rSortedS K xs H Q
theorem call_sortedK {X : Cx} (hc : X.calm = true) : CallR X (.builtin "sorted") (rSortedK X.K) := by
  rintro pins s σ H xs us Q I r (q | q | q | q)
  · exact call_sortedDI hc pins s σ H xs us Q I r q
  · exact call_sortedD hc pins s σ H xs us Q I r q
  · exact cr_sortedI pins s σ H xs us Q I r q
  · exact cr_sortedS pins s σ H xs us Q I r q
theorem dctOf_cases {b : Pt} {d : D} {v : V} {kvs : List (DKey × D)} (s : SR S.K S.cl b) (rv : VR S.K b d v) (e : dctOf b.h d = some kvs) : ∃ m ws, d = .ref m ∧ v = .ref (b.ρ m) ∧ Rd b.H (b.ρ m) (.dK ws) ∧ KVR S.K b kvs ws := by
  cases rv with
  | ref hn =>
    rename_i m
    have e : (match b.h[m]? with
      | some (.dct kvs) => some kvs
      | some (.dfr kvs) => some kvs
      | _ => none) = some kvs := e
    split at e
    · rename_i kvs0 em
      cases e
      obtain ⟨ws, g1, g2⟩ := s.obj m _ em
      exact ⟨m, ws, rfl, rfl, .inl g1, g2⟩
    · rename_i kvs0 em
      cases e
      obtain ⟨ob, ws, g1, g2⟩ := s.obj m _ em
      exact ⟨m, ws, rfl, rfl, .inr ⟨ob, g1⟩, g2⟩
    · cases e
  | _ => cases e
theorem valS_cases {f : Str} {sc : Scope} {ex z : Expr} (hu : valS f sc ex = some z) : ∃ x q m ap mp p, ex = .Call (.Name x q) [.Call (.Attribute z m ap) [] [] mp] [] p ∧ (decide (x = f) && isGl sc x && decide (m = "values") && (ap.endLine == mp.line) && recvOk z) = true := by
  unfold valS at hu
  split at hu
  · split at hu
    · rename_i hc
      cases hu
      exact ⟨_, _, _, _, _, _, rfl, hc⟩
    · cases hu
  · cases hu
theorem oneS_cases {f : Str} {sc : Scope} {ex z : Expr} (hu : oneS f sc ex = some z) : ∃ x q p, ex = .Call (.Name x q) [z] [] p ∧ (decide (x = f) && isGl sc x && plainH z) = true := by
  unfold oneS at hu
  split at hu
  · split at hu
    · rename_i hc
      cases hu
      exact ⟨_, _, _, rfl, hc⟩
    · cases hu
  · cases hu
theorem itmS_cases {f : Str} {sc : Scope} {ex z : Expr} (hu : itmS f sc ex = some z) : ∃ x q m ap mp p, ex = .Call (.Name x q) [.Call (.Attribute z m ap) [] [] mp] [] p ∧ (decide (x = f) && isGl sc x && decide (m = "items") && (ap.endLine == mp.line) && recvOk z) = true := by
  unfold itmS at hu
  split at hu
  · split at hu
    · rename_i hc
      cases hu
      exact ⟨_, _, _, _, _, _, rfl, hc⟩
    · cases hu
  · cases hu
theorem dctU_cases {b : Pt} {d : D} {v : V} {kvs : List (DKey × D)} (s : SR S.K S.cl b) (rv : VR S.K b d v) (e : dctU b.h d = some kvs) : ∃ m ws, d = .ref m ∧ v = .ref (b.ρ m) ∧ b.H (b.ρ m) = some (.dK ws) ∧ KVR S.K b kvs ws := by
  cases rv with
  | ref hn =>
    rename_i m
    have e : (match b.h[m]? with
      | some (.dct kvs) => some kvs
      | _ => none) = some kvs := e
    split at e
    · rename_i kvs0 em
      cases e
      obtain ⟨ws, h1, h2⟩ := s.obj m _ em
      exact ⟨m, ws, rfl, rfl, h1, h2⟩
    · cases e
  | _ => cases e
theorem KQ.items {K : PySem.W.Frag} {cl : Str → Option Addr} {a : Pt} {Qd : KD} {Q : VK} (kq : KQ K cl a Qd Q) (s : SR K cl a) {kvs : List (DKey × D)} {ws : List (DKey × V)} (r : KVR K a kvs ws) {H' : Hp} {p : Addr} {ts : List Addr} (k1 : ∀ b o, a.H b = some o → H' b = some o) (k2 : a.H p = none) (k4 : p ∉ ts)
    (k5 : H' p = some (.lst (ts.map V.ref))) (k6 : Paired (fun (t : Addr) (q : Key × V) => H' t = some (.tup [kV q.1, q.2])) ts ws) (h : Qd (.ref a.h.length) (a.h ++ [.lst (kvs.map fun kv => .tup [ofKey kv.1, kv.2])])) : Q (.ref p) H' := by
  have kp : ∀ q u, a.H q = some u → (fun q => if q = p then none else H' q : Hp) q = some u := fun q u e => by
    show (if q = p then none else H' q) = _
    rw [if_neg (fun z => by rw [z, k2] at e; cases e)]
    exact k1 q u e
  have l : a.Le ⟨a.ρ, a.h, fun q => if q = p then none else H' q⟩ := ⟨⟨Nat.le_refl _, fun _ _ => rfl, fun q xs e => kp q _ e, fun q fs e => kp q _ e⟩, fun q ob u e => kp q _ e⟩
  have s' : SR K cl ⟨a.ρ, a.h, fun q => if q = p then none else H' q⟩ := ⟨s.inj, fun n o e => (s.obj n o e).mono l fun w hw => kp _ w hw⟩
  have aux : ∀ {kx : List (DKey × D)} {wx : List (DKey × V)} {tx : List Addr}, KVR K a kx wx → Paired (fun (t : Addr) (q : Key × V) => H' t = some (.tup [kV q.1, q.2])) tx wx → (∀ t ∈ tx, t ≠ p) →
      VRs K ⟨a.ρ, a.h, fun q => if q = p then none else H' q⟩ (kx.map fun kv => .tup [ofKey kv.1, kv.2]) (tx.map V.ref) := by
    intro kx wx tx r
    unfold KVR at r
    induction r generalizing tx with
    | nil => intro q _; cases q; exact .nil
    | @cons x y xs ys h t ih =>
      intro q hne
      cases q with
      | @cons t0 _ ts0 _ q1 q2 =>
        refine .cons ?_ (ih q2 fun t ht => hne t (List.mem_cons_of_mem _ ht))
        refine .tup (.inl (show (if t0 = p then none else H' t0) = _ by rw [if_neg (hne t0 List.mem_cons_self)]; exact q1)) (.cons ?_ (.cons (h.2.mono l) .nil))
        rw [← h.1]
        exact VR.key _
  have z := (kq.mono l).newList s' (aux r k6 fun t ht e => k4 (e ▸ ht)) h p (if_pos rfl)
  have e : upd (fun q => if q = p then none else H' q : Hp) p (.lst (ts.map V.ref)) = H' := funext fun q => by
    by_cases hq : q = p
    · rw [hq, upd_same, k5]
    · rw [upd_ne hq]; exact if_neg hq
  rw [e] at z
  exact z
/-! sorted(set(xs)) of tuples of whole numbers -/
theorem lexLt_irr : ∀ a : List Int, HT.lexLt a a = false
  | [] => rfl
  | x :: xs => by rw [HT.lexLt_cons, if_pos rfl]; exact lexLt_irr xs
theorem lexLt_asym : ∀ a b : List Int, HT.lexLt a b = true → HT.lexLt b a = false
  | [], [], h => by rw [HT.lexLt_nil_nil] at h; cases h
  | [], y :: ys, _ => HT.lexLt_cons_nil y ys
  | x :: xs, [], h => by rw [HT.lexLt_cons_nil] at h; cases h
  | x :: xs, y :: ys, h => by
    rw [HT.lexLt_cons] at h ⊢
    by_cases e : x = y
    · rw [if_pos e] at h
      rw [if_pos e.symm]
      exact lexLt_asym xs ys h
    · rw [if_neg e] at h
      rw [if_neg (Ne.symm e)]
      have a := of_decide_eq_true h
      exact decide_eq_false (by omega)
theorem lexLt_trans : ∀ a b c : List Int, HT.lexLt a b = true → HT.lexLt b c = true → HT.lexLt a c = true
  | [], b, [], h1, h2 => by
    cases b with
    | nil => exact h1
    | cons y ys => rw [HT.lexLt_cons_nil] at h2; cases h2
  | [], b, z :: zs, _, _ => HT.lexLt_nil_cons z zs
  | x :: xs, [], c, h1, _ => by rw [HT.lexLt_cons_nil] at h1; cases h1
  | x :: xs, y :: ys, [], _, h2 => by rw [HT.lexLt_cons_nil] at h2; cases h2
  | x :: xs, y :: ys, z :: zs, h1, h2 => by
    rw [HT.lexLt_cons] at h1 h2 ⊢
    by_cases e1 : x = y
    · rw [if_pos e1] at h1
      subst e1
      by_cases e2 : x = z
      · rw [if_pos e2] at h2 ⊢
        exact lexLt_trans xs ys zs h1 h2
      · rw [if_neg e2] at h2 ⊢
        exact h2
    · rw [if_neg e1] at h1
      have a := of_decide_eq_true h1
      by_cases e2 : y = z
      · subst e2
        rw [if_neg e1]; exact h1
      · rw [if_neg e2] at h2
        have b := of_decide_eq_true h2
        rw [if_neg (by omega)]
        exact decide_eq_true (by omega)
theorem lexLt_tot : ∀ a b : List Int, HT.lexLt a b = false → HT.lexLt b a = false → a = b
  | [], [], _, _ => rfl
  | [], y :: ys, h, _ => by rw [HT.lexLt_nil_cons] at h; cases h
  | x :: xs, [], _, h => by rw [HT.lexLt_nil_cons] at h; cases h
  | x :: xs, y :: ys, h1, h2 => by
    rw [HT.lexLt_cons] at h1 h2
    by_cases e : x = y
    · rw [if_pos e] at h1
      rw [if_pos e.symm] at h2
      rw [e, lexLt_tot xs ys h1 h2]
    · rw [if_neg e] at h1
      rw [if_neg (Ne.symm e)] at h2
      have a := of_decide_eq_false h1
      have b := of_decide_eq_false h2
      exact absurd (by omega) e
theorem tins_mem {x y : List Int} : ∀ {l : List (List Int)}, y ∈ tins x l ↔ y = x ∨ y ∈ l
  | [] => by simp [tins]
  | z :: l => by
    unfold tins
    by_cases e : x = z
    · rw [if_pos e]; subst e; simp
    · rw [if_neg e]
      split
      · simp
      · rw [List.mem_cons, tins_mem, List.mem_cons]
        constructor
        · rintro (h | h | h)
          · exact .inr (.inl h)
          · exact .inl h
          · exact .inr (.inr h)
        · rintro (h | h | h)
          · exact .inr (.inl h)
          · exact .inl h
          · exact .inr (.inr h)
theorem tins_pw {x : List Int} : ∀ {l : List (List Int)}, l.Pairwise (fun a b => HT.lexLt a b = true) → (tins x l).Pairwise (fun a b => HT.lexLt a b = true)
  | [], _ => by simp [tins]
  | z :: l, h => by
    unfold tins
    by_cases e : x = z
    · rw [if_pos e]; exact h
    · rw [if_neg e]
      have h2 := List.pairwise_cons.mp h
      by_cases e2 : HT.lexLt x z = true
      · rw [if_pos e2]
        refine List.pairwise_cons.mpr ⟨fun y hy => ?_, h⟩
        rcases List.mem_cons.mp hy with rfl | hy
        · exact e2
        · exact lexLt_trans _ _ _ e2 (h2.1 y hy)
      · rw [if_neg e2]
        refine List.pairwise_cons.mpr ⟨fun y hy => ?_, tins_pw h2.2⟩
        rcases tins_mem.mp hy with rfl | hy
        · cases e3 : HT.lexLt z y with
          | true => rfl
          | false => exact absurd (lexLt_tot y z (Bool.eq_false_iff.mpr e2) e3) e
        · exact h2.1 y hy
theorem tsort_mem {y : List Int} : ∀ {ts : List (List Int)}, y ∈ tsort ts ↔ y ∈ ts
  | [] => by simp [tsort]
  | t :: ts => by
    show y ∈ tins t (tsort ts) ↔ _
    rw [tins_mem, tsort_mem, List.mem_cons]
theorem tsort_pw : ∀ {ts : List (List Int)}, (tsort ts).Pairwise (fun a b => HT.lexLt a b = true)
  | [] => .nil
  | t :: ts => tins_pw tsort_pw
theorem lex_uniq : ∀ {xs ys : List (List Int)}, xs.Pairwise (fun a b => HT.lexLt a b = true) → ys.Pairwise (fun a b => HT.lexLt a b = true) → (∀ k, k ∈ xs ↔ k ∈ ys) → xs = ys
  | [], [], _, _, _ => rfl
  | [], y :: ys, _, _, h => absurd ((h y).mpr List.mem_cons_self) (by simp)
  | x :: xs, [], _, _, h => absurd ((h x).mp List.mem_cons_self) (by simp)
  | x :: xs, y :: ys, h1, h2, h => by
    rw [List.pairwise_cons] at h1 h2
    have e : x = y := by
      refine Classical.byContradiction fun ne => ?_
      have a := (List.mem_cons.mp ((h x).mp List.mem_cons_self)).resolve_left ne
      have b := (List.mem_cons.mp ((h y).mpr List.mem_cons_self)).resolve_left fun z => ne z.symm
      have c := lexLt_asym _ _ (h1.1 y b)
      rw [h2.1 x a] at c
      cases c
    subst e
    rw [lex_uniq h1.2 h2.2 fun k => ⟨fun hk => ?_, fun hk => ?_⟩]
    · rcases List.mem_cons.mp ((h k).mp (List.mem_cons_of_mem _ hk)) with rfl | hk2
      · have := h1.1 k hk; rw [lexLt_irr] at this; cases this
      · exact hk2
    · rcases List.mem_cons.mp ((h k).mpr (List.mem_cons_of_mem _ hk)) with rfl | hk2
      · have := h2.1 k hk; rw [lexLt_irr] at this; cases this
      · exact hk2
theorem lst_cases {b : Pt} {d : D} {v : V} {ds : List D} (s : SR S.K S.cl b) (rv : VR S.K b d v) (e : lstOf b.h d = some ds) : ∃ l vs, v = V.ref l ∧ VRs S.K b ds vs ∧ SqL S.K b.H l vs := by
  cases rv with
  | ref hn =>
    rename_i m
    have e : (match b.h[m]? with
      | some (.lst ds) => some ds
      | some (.fro ds) => some ds
      | _ => none) = some ds := e
    split at e
    · rename_i ds0 em
      cases e
      obtain ⟨vs, h1, h2⟩ := s.seq (.inl em)
      exact ⟨_, vs, rfl, h2, h1⟩
    · rename_i ds0 em
      cases e
      obtain ⟨vs, h1, h2⟩ := s.seq (.inr em)
      exact ⟨_, vs, rfl, h2, h1⟩
    · cases e
  | _ => cases e
theorem tup_refs {K : PySem.W.Frag} {b : Pt} : ∀ {ds : List D} {ts : List (List Int)} {vs : List V}, ds.mapM tupI = some ts → VRs K b ds vs → ∃ ks : List (Addr × List Int), vs = ks.map (fun p => V.ref p.1) ∧ ks.map (·.2) = ts ∧ ∀ p ∈ ks, TR K b.H p.1 (p.2.map V.int)
  | [], ts, vs, e, r => by
    cases e
    cases r
    exact ⟨[], rfl, rfl, fun _ h => nomatch h⟩
  | d :: ds, ts, vs, e, r => by
    rw [List.mapM_cons] at e
    cases e1 : tupI d with
    | none => rw [e1] at e; cases e
    | some t =>
      rw [e1] at e
      cases e2 : ds.mapM tupI with
      | none => rw [e2] at e; cases e
      | some ts' =>
        rw [e2] at e
        cases e
        cases r with
        | cons r1 r2 =>
          obtain ⟨ks, k1, k2, k3⟩ := tup_refs e2 r2
          cases r1 with
          | tup t1 q1 =>
            rename_i p us es
            have g := intsOf_eq (show intsOf es = some t from e1)
            subst g
            rw [q1.ints] at t1
            refine ⟨(p, t) :: ks, by rw [k1]; rfl, by rw [List.map_cons, k2], fun x hx => ?_⟩
            rcases List.mem_cons.mp hx with rfl | hx
            · exact t1
            · exact k3 x hx
          | _ => cases e1
theorem refs_tups {K : PySem.W.Frag} {b : Pt} : ∀ {L : List (Addr × List Int)}, (∀ p ∈ L, TR K b.H p.1 (p.2.map V.int)) → VRs K b ((L.map (·.2)).map fun t => D.tup (t.map .int)) (L.map fun p => V.ref p.1)
  | [], _ => .nil
  | p :: L, h => .cons (.tup (h p List.mem_cons_self) (VRs.of_ints _)) (refs_tups fun q hq => h q (List.mem_cons_of_mem _ hq))
theorem le_top {x : Int} : ∀ {l : List Int}, x ∈ l → x ≤ l.foldr max 0
  | y :: l, h => by
    show x ≤ max y (l.foldr max 0)
    rcases List.mem_cons.mp h with rfl | h
    · omega
    · have := le_top h; omega
theorem tupsOk_at {ts : List (List Int)} (h : tupsOk ts = true) : ∀ t ∈ ts, t.length = max 1 (ts.headD []).length ∧ _root_.TS.Bd (ts.flatten.foldr max 0 + 1) t := fun t ht => by
  unfold tupsOk at h
  rw [List.all_eq_true] at h
  have a := h t ht
  rw [Bool.and_eq_true, Bool.and_eq_true, decide_eq_true_eq, decide_eq_true_eq, List.all_eq_true] at a
  refine ⟨by omega, fun m hm => ⟨of_decide_eq_true (a.2 m hm), ?_⟩⟩
  have := le_top (show m ∈ ts.flatten from List.mem_flatten.mpr ⟨t, ht, hm⟩)
  omega
theorem code_lex {B : Int} : ∀ {a b : List Int}, a.length = b.length → _root_.TS.Bd B a → _root_.TS.Bd B b → _root_.TS.code B a ≤ _root_.TS.code B b → a ≠ b → HT.lexLt a b = true
  | [], [], _, _, _, _, ne => absurd rfl ne
  | [], _ :: _, hl, _, _, _, _ => by cases hl
  | _ :: _, [], hl, _, _, _, _ => by cases hl
  | x :: xs, y :: ys, hl, ha, hb, hc, ne => by
    have hl2 : xs.length = ys.length := by simpa using hl
    rw [HT.lexLt_cons]
    by_cases e : x = y
    · subst e
      rw [if_pos rfl]
      refine code_lex hl2 ha.tail hb.tail ?_ fun z => ne (by rw [z])
      have := (_root_.TS.code_same (d := x) (B := B) hl2.symm).mpr
      refine Classical.byContradiction fun hn => ?_
      have := this (by omega)
      omega
    · rw [if_neg e]
      refine decide_eq_true ?_
      rcases Int.lt_trichotomy x y with h | h | h
      · exact h
      · exact absurd h e
      · have := _root_.TS.code_lt hl2.symm hb.tail ha.tail h
        omega
theorem keys_mapM {K : PySem.W.Frag} {b : Pt} : ∀ {ds : List D} {ks : List DKey} {vs : List V}, ds.mapM keyOf = some ks → VRs K b ds vs → vs = ks.map kV
  | [], ks, vs, e, r => by
    cases e
    cases r
    rfl
  | d :: ds, ks, vs, e, r => by
    rw [List.mapM_cons] at e
    cases e1 : keyOf d with
    | none => rw [e1] at e; cases e
    | some k =>
      rw [e1] at e
      cases e2 : ds.mapM keyOf with
      | none => rw [e2] at e; cases e
      | some ks' =>
        rw [e2] at e
        cases e
        cases r with
        | cons r1 r2 => rw [List.map_cons, keyOf_of r1 e1, keys_mapM e2 r2]
theorem snd_un {u : U} {a : E} (ha : Snd S a) : Snd S (.un u a) := by
  refine Snd.ofVal' (fun _ => rfl) (fun _ => ⟨fun _ _ => rfl, fun _ _ _ => rfl, fun _ o => by cases o <;> rfl⟩) (fun N sc op es pos => by cases u <;> rfl) (fun N sc ex env c w => ?_) (fun n sc X W ex o c => ?_)
  · cases ex <;> first | rfl | (cases u <;> cases c)
  · obtain ⟨z, hu, c2⟩ : ∃ z, unS u sc ex = some z ∧ (ck S.nm X.N a).e sc z = true := by
      have c : (match unS u sc ex with
        | some z => (ck S.nm X.N a).e sc z
        | none => false) = true := c
      cases hu : unS u sc ex with
      | none => rw [hu] at c; cases c
      | some z => rw [hu] at c; exact ⟨z, rfl, c⟩
    cases u with
    | ssrt =>
      have shp : ∃ x q y q2 p2 p, ex = .Call (.Name x q) [.Call (.Name y q2) [z] [] p2] [] p ∧ (decide (x = "sorted") && isGl sc x && decide (y = "set") && isGl sc y && plainH z) = true := by
        unfold unS at hu
        simp only at hu
        split at hu
        · split at hu
          · rename_i hc
            cases hu
            exact ⟨_, _, _, _, _, _, rfl, hc⟩
          · cases hu
        · cases hu
      obtain ⟨x, q, y, q2, p2, p, rfl, c1⟩ := shp
      simp only [Bool.and_eq_true, decide_eq_true_eq] at c1
      obtain ⟨⟨⟨⟨rfl, g1⟩, rfl⟩, g2⟩, hp⟩ := c1
      obtain ⟨h1, h2⟩ := o.gl g1
      obtain ⟨h3, h4⟩ := o.gl g2
      have m1 : X.mg "sorted" = none := by rw [o.mg]; exact o.blt .sorted
      have m2 : X.mg "set" = none := by rw [o.mg]; exact o.mgi.2.2.2.2.2
      have s1 := star_plain hp [] X.env
      have inner := pe_callTy (cr_setTx (X := X) o.calm) h3 m2 (by decide +kernel) (pa_cons (ha.e n sc X W z o c2) pa_nil s1) (by decide) h4 s1 rfl (p := q2) (pos := p2)
      have s2 := star_plain (e := .Call (.Name "set" q2) [z] [] p2) rfl [] X.env
      refine impE (pe_callB (cr_srtTx (X := X) o.calm) h1 m1 (by decide +kernel) (pa_cons inner pa_nil s2) (by decide) h2 s2 rfl) fun σ H Q q => ?_
      refine un_imp (u := .ssrt) (R := fun v H1 Q => rSetTx X.K X.w [v] H1 fun v2 H2 => rSrtTx X.w [v2] H2 Q) (fun b d v Qd Q s rv hb kq => ?_) q
      obtain ⟨dd, h', e, hq⟩ := bndE1 hb
      obtain ⟨zs, e1, e2⟩ := Option.bind_eq_some_iff.mp (show ((lstOf b.h d).bind strsOf).bind (fun zs => if zs.length < 64 then some (newO b.h (.lst ((tsrt (uniqT zs)).map D.str))) else none) = _ from e)
      obtain ⟨ds, e3, e4⟩ := Option.bind_eq_some_iff.mp e1
      split at e2
      · rename_i hl
        cases e2
        obtain ⟨l, vs, rfl, rvs, hs⟩ := lst_cases s rv e3
        obtain rfl := strsOf_eq e4
        rw [rvs.strs] at hs
        rw [o.K]
        refine ⟨l, zs, rfl, hs, by omega, fun t ht => ?_⟩
        have sd := Pt.side_le (u := SetTx X.w t (uniqT zs)) ht
        refine ⟨t, _, rfl, upd_same, Nat.lt_of_le_of_lt uniqT_le hl, fun ys p hp hpw hn => ?_⟩
        rw [tsrt_uniq hp hpw]
        exact (kq.mono sd).newList (s.side (u := SetTx X.w t (uniqT zs)) ht) (VRs.of_strs _) hq p hn
      · cases e2
    | sset =>
      have shp : ∃ x q y q2 p2 p, ex = .Call (.Name x q) [.Call (.Name y q2) [z] [] p2] [] p ∧ (decide (x = "sorted") && isGl sc x && decide (y = "set") && isGl sc y && plainH z) = true := by
        unfold unS at hu
        simp only at hu
        split at hu
        · split at hu
          · rename_i hc
            cases hu
            exact ⟨_, _, _, _, _, _, rfl, hc⟩
          · cases hu
        · cases hu
      obtain ⟨x, q, y, q2, p2, p, rfl, c1⟩ := shp
      simp only [Bool.and_eq_true, decide_eq_true_eq] at c1
      obtain ⟨⟨⟨⟨rfl, g1⟩, rfl⟩, g2⟩, hp⟩ := c1
      obtain ⟨h1, h2⟩ := o.gl g1
      obtain ⟨h3, h4⟩ := o.gl g2
      have m1 : X.mg "sorted" = none := by rw [o.mg]; exact o.blt .sorted
      have m2 : X.mg "set" = none := by rw [o.mg]; exact o.mgi.2.2.2.2.2
      have s1 := star_plain hp [] X.env
      have inner := pe_callTy (cr_setI (X := X) o.calm) h3 m2 (by decide +kernel) (pa_cons (ha.e n sc X W z o c2) pa_nil s1) (by decide) h4 s1 rfl (p := q2) (pos := p2)
      have s2 := star_plain (e := .Call (.Name "set" q2) [z] [] p2) rfl [] X.env
      refine impE (pe_callB (cr_sortedSet (X := X) o.calm) h1 m1 (by decide +kernel) (pa_cons inner pa_nil s2) (by decide) h2 s2 rfl) fun σ H Q q => ?_
      refine un_imp (u := .sset) (R := fun v H1 Q => rSetI X.K X.w [v] H1 fun v2 H2 => rSortedSet X.w [v2] H2 Q) (fun b d v Qd Q s rv hb kq => ?_) q
      obtain ⟨dd, h', e, hq⟩ := bndE1 hb
      obtain ⟨ns, e1, e2⟩ := Option.bind_eq_some_iff.mp (show ((seqOf b.h d).bind intsOf).bind (fun ns => if ns.length < 64 then some (newO b.h (.lst ((ssort ns).map .int))) else none) = _ from e)
      obtain ⟨ds, e3, e4⟩ := Option.bind_eq_some_iff.mp e1
      split at e2
      · rename_i hl
        cases e2
        have g := intsOf_eq e4
        subst g
        obtain ⟨l, vs, rfl, rvs, hs⟩ := seqOf_cases s rv e3
        rw [rvs.ints] at hs
        rw [← o.K] at hs
        refine ⟨l, ns, rfl, hs, by omega, fun t c ht hc => ?_⟩
        refine ⟨t, _, c, rfl, upd_same, by omega, fun ns' t2 hpw hm _ ht2 => ?_⟩
        have en : ns' = ssort ns := pw_eq hpw ssort_pw fun k => by rw [hm, ssort_mem, decide_eq_true_eq]
        subst en
        have s' := s.side (u := SetO X.w t (fun j => decide (j ∈ ns)) c) ht
        have kq' := kq.mono (Pt.side_le (u := SetO X.w t (fun j => decide (j ∈ ns)) c) ht)
        exact kq'.newList s' (VRs.of_ints _) hq t2 ht2
      · cases e2
    | vsum =>
      obtain ⟨x, q, m, ap, mp, p, rfl, c1⟩ := valS_cases hu
      simp only [Bool.and_eq_true, decide_eq_true_eq] at c1
      obtain ⟨⟨⟨⟨rfl, g1⟩, rfl⟩, g2⟩, hp⟩ := c1
      obtain ⟨h1, _⟩ := o.gl g1
      have m1 : X.mg "sum" = none := by rw [o.mg]; exact o.blt .sum
      refine impE (pe_sumVals o.calm h1 m1 (ha.e n sc X W z o c2) (recv_base hp _ X.env) g2) fun σ H Q q => ?_
      refine un_imp (u := .vsum) (R := fun x H1 Q => ∃ (a : Addr) (kvs : List (Key × V)) (is : List Int), x = V.ref a ∧ Rd H1 a (.dK kvs) ∧ kvs.map (·.2) = is.map V.int ∧ Q (.int is.sum) H1) (fun b d v Qd Q s rv hb kq => ?_) q
      obtain ⟨dd, h', e, hq⟩ := bndE1 hb
      obtain ⟨ns, e1, e2⟩ := Option.map_eq_some_iff.mp (show ((dctOf b.h d).bind fun kvs => intsOf (kvs.map (·.2))).map (fun ns => (D.int ns.sum, b.h)) = _ from e)
      cases e2
      obtain ⟨kvs, e3, e4⟩ := Option.bind_eq_some_iff.mp e1
      obtain ⟨m, ws, rfl, rfl, hd, rk⟩ := dctOf_cases s rv e3
      refine ⟨_, ws, ns, rfl, hd, ?_, kq.same s (.int _) hq⟩
      have rs := kvr_snd rk
      rw [intsOf_eq e4] at rs
      exact rs.ints
    | vlst =>
      obtain ⟨x, q, m, ap, mp, p, rfl, c1⟩ := valS_cases hu
      simp only [Bool.and_eq_true, decide_eq_true_eq] at c1
      obtain ⟨⟨⟨⟨rfl, g1⟩, rfl⟩, g2⟩, hp⟩ := c1
      obtain ⟨h1, _⟩ := o.gl g1
      have m1 : X.mg "list" = none := by rw [o.mg]; exact o.blt .list
      refine impE (pe_listVals o.calm h1 m1 (ha.e n sc X W z o c2) (recv_base hp _ X.env) g2) fun σ H Q q => ?_
      refine un_imp (u := .vlst) (R := fun x H1 Q => ∃ (a : Addr) (kvs : List (Key × V)), x = V.ref a ∧ Rd H1 a (.dK kvs) ∧ ∀ p, H1 p = none → Q (.ref p) (upd H1 p (.lst (kvs.map (·.2))))) (fun b d v Qd Q s rv hb kq => ?_) q
      obtain ⟨dd, h', e, hq⟩ := bndE1 hb
      obtain ⟨kvs, e3, e4⟩ := Option.map_eq_some_iff.mp (show (dctOf b.h d).map (fun kvs => newO b.h (.lst (kvs.map (·.2)))) = _ from e)
      cases e4
      obtain ⟨m, ws, rfl, rfl, hd, rk⟩ := dctOf_cases s rv e3
      exact ⟨_, ws, rfl, hd, kq.newList s (kvr_snd rk) hq⟩
    | klst =>
      obtain ⟨x, q, p, rfl, c1⟩ := oneS_cases hu
      simp only [Bool.and_eq_true, decide_eq_true_eq] at c1
      obtain ⟨⟨rfl, g1⟩, hp⟩ := c1
      obtain ⟨h1, h2⟩ := o.gl g1
      have m1 : X.mg "list" = none := by rw [o.mg]; exact o.blt .list
      have s1 := star_plain hp [] X.env
      refine impE (pe_callTy (call_listD (X := X) o.calm) h1 m1 (by decide +kernel) (pa_cons (ha.e n sc X W z o c2) pa_nil s1) (by decide) h2 s1 rfl) fun σ H Q q => ?_
      refine un_imp (u := .klst) (R := fun x H1 Q => ∃ (a : Addr) (kvs : List (Key × V)), [x] = [V.ref a] ∧ Rd H1 a (.dK kvs) ∧ ∀ p, H1 p = none → Q (.ref p) (upd H1 p (.lst (kvs.map fun kv => kV kv.1)))) (fun b d v Qd Q s rv hb kq => ?_) q
      obtain ⟨dd, h', e, hq⟩ := bndE1 hb
      obtain ⟨kvs, e3, e4⟩ := Option.map_eq_some_iff.mp (show (dctOf b.h d).map (fun kvs => newO b.h (.lst (kvs.map fun kv => ofKey kv.1))) = _ from e)
      cases e4
      obtain ⟨m, ws, rfl, rfl, hd, rk⟩ := dctOf_cases s rv e3
      exact ⟨_, ws, rfl, hd, kq.newList s (kvr_keys rk) hq⟩
    | tset =>
      have shp : ∃ x q y q2 p2 p, ex = .Call (.Name x q) [.Call (.Name y q2) [z] [] p2] [] p ∧ (decide (x = "sorted") && isGl sc x && decide (y = "set") && isGl sc y && plainH z) = true := by
        unfold unS at hu
        simp only at hu
        split at hu
        · split at hu
          · rename_i hc
            cases hu
            exact ⟨_, _, _, _, _, _, rfl, hc⟩
          · cases hu
        · cases hu
      obtain ⟨x, q, y, q2, p2, p, rfl, c1⟩ := shp
      simp only [Bool.and_eq_true, decide_eq_true_eq] at c1
      obtain ⟨⟨⟨⟨rfl, g1⟩, rfl⟩, g2⟩, hp⟩ := c1
      obtain ⟨h1, h2⟩ := o.gl g1
      obtain ⟨h3, h4⟩ := o.gl g2
      have m1 : X.mg "sorted" = none := by rw [o.mg]; exact o.blt .sorted
      have m2 : X.mg "set" = none := by rw [o.mg]; exact o.mgi.2.2.2.2.2
      have s1 := star_plain hp [] X.env
      have inner := pe_callTy (cr_setOfT (X := X) o.calm o.hu) h3 m2 (by decide +kernel) (pa_cons (ha.e n sc X W z o c2) pa_nil s1) (by decide) h4 s1 rfl (p := q2) (pos := p2)
      have s2 := star_plain (e := .Call (.Name "set" q2) [z] [] p2) rfl [] X.env
      refine impE (pe_callB (cr_sortedT (X := X) o.calm) h1 m1 (by decide +kernel) (pa_cons inner pa_nil s2) (by decide) h2 s2 rfl) fun σ H Q q => ?_
      refine un_imp (u := .tset) (R := fun v H1 Q => rSetOfT X.K X.prog X.w [v] H1 fun v2 H2 => rSortedT X.K X.prog X.w [v2] H2 Q) (fun b d v Qd Q s rv hb kq => ?_) q
      obtain ⟨dd, h', e, hq⟩ := bndE1 hb
      obtain ⟨ts, e1, e2⟩ := Option.bind_eq_some_iff.mp (show ((lstOf b.h d).bind fun ds => ds.mapM tupI).bind (fun ts => if (decide (ts.length < 64) && tupsOk ts) = true then some (newO b.h (.lst ((tsort ts).map fun t => D.tup (t.map .int)))) else none) = _ from e)
      obtain ⟨ds, e3, e4⟩ := Option.bind_eq_some_iff.mp e1
      split at e2
      · rename_i hl
        cases e2
        rw [Bool.and_eq_true, decide_eq_true_eq] at hl
        obtain ⟨l, vs, rfl, rvs, hs⟩ := lst_cases s rv e3
        obtain ⟨ks, rfl, rfl, htr⟩ := tup_refs e4 rvs
        rw [o.K]
        refine ⟨l, ks, rfl, hs, fun p hp => (htr p hp).sq, by have := hl.1; rw [List.length_map] at this; exact this, fun a L ha hL1 hL2 => ?_⟩
        have ok := tupsOk_at hl.2
        have hts : ∀ p ∈ L, p.2 ∈ ks.map (·.2) := fun p hp => List.mem_map.mpr ⟨p, hL1 p hp, rfl⟩
        have sd := Pt.side_le (u := SetTO X.prog X.w a L) ha
        have htr' : ∀ p ∈ L, TR S.K (b.side a (SetTO X.prog X.w a L)).H p.1 (p.2.map V.int) := fun p hp => (htr p (hL1 p hp)).mono sd
        refine ⟨a, L, _, _, rfl, upd_same, fun p hp => (htr' p hp).sq, Nat.le_max_left 1 _, fun p hp => ok p.2 (hts p hp), fun L' p hperm hnd hlen hpw hpn => ?_⟩
        have hmem : ∀ q ∈ L', q ∈ L := fun q hq => hperm.mem_iff.mp hq
        have hus : L'.map (·.2) = tsort (ks.map (·.2)) := by
          refine lex_uniq ?_ tsort_pw fun k => ?_
          · rw [List.pairwise_map]
            rw [List.nodup_iff_pairwise_ne, List.pairwise_map] at hnd
            refine (List.pairwise_and_iff.mpr ⟨hpw, hnd⟩).imp_of_mem ?_
            rintro q r hq hr ⟨hc, hne⟩
            have oq := ok q.2 (hts q (hmem q hq))
            have or_ := ok r.2 (hts r (hmem r hr))
            exact code_lex (oq.1.trans or_.1.symm) oq.2 or_.2 hc hne
          · rw [tsort_mem, List.mem_map]
            constructor
            · rintro ⟨q, hq, rfl⟩
              exact hts q (hmem q hq)
            · intro hk
              obtain ⟨q, hq, rfl⟩ := List.mem_map.mp hk
              obtain ⟨r, hr, e⟩ := List.mem_map.mp (hL2 q hq)
              exact ⟨r, hperm.mem_iff.mpr hr, e⟩
        have s' := s.side (u := SetTO X.prog X.w a L) ha
        have kq' := kq.mono sd
        rw [← hus] at hq
        exact kq'.newList s' (refs_tups fun q hq => htr' q (hmem q hq)) hq p hpn
      · cases e2
    | lset =>
      have shp : ∃ x q y q2 p2 p, ex = .Call (.Name x q) [.Call (.Name y q2) [z] [] p2] [] p ∧ (decide (x = "len") && isGl sc x && decide (y = "set") && isGl sc y && plainH z) = true := by
        unfold unS at hu
        simp only at hu
        split at hu
        · split at hu
          · rename_i hc
            cases hu
            exact ⟨_, _, _, _, _, _, rfl, hc⟩
          · cases hu
        · cases hu
      obtain ⟨x, q, y, q2, p2, p, rfl, c1⟩ := shp
      simp only [Bool.and_eq_true, decide_eq_true_eq] at c1
      obtain ⟨⟨⟨⟨rfl, g1⟩, rfl⟩, g2⟩, hp⟩ := c1
      obtain ⟨h1, h2⟩ := o.gl g1
      obtain ⟨h3, h4⟩ := o.gl g2
      have m1 : X.mg "len" = none := by rw [o.mg]; exact o.blt .len
      have m2 : X.mg "set" = none := by rw [o.mg]; exact o.mgi.2.2.2.2.2
      have s1 := star_plain hp [] X.env
      have inner := pe_callTy (cr_setK (X := X) o.calm) h3 m2 (by decide +kernel) (pa_cons (ha.e n sc X W z o c2) pa_nil s1) (by decide) h4 s1 rfl (p := q2) (pos := p2)
      have s2 := star_plain (e := .Call (.Name "set" q2) [z] [] p2) rfl [] X.env
      refine impE (pe_callB (cr_lenK (X := X)) h1 m1 (by decide +kernel) (pa_cons inner pa_nil s2) (by decide) h2 s2 rfl) fun σ H Q q => ?_
      refine un_imp (u := .lset) (R := fun v H1 Q => rSetK X.K X.prog X.w [v] H1 fun v2 H2 => rLenK X.prog X.w [v2] H2 Q) (fun b d v Qd Q s rv hb kq => ?_) q
      obtain ⟨dd, h', e, hq⟩ := bndE1 hb
      obtain ⟨ks, e1, e2⟩ := Option.bind_eq_some_iff.mp (show ((lstOf b.h d).bind fun ds => ds.mapM keyOf).bind (fun ks => if ks.length ≤ 1000 then some (D.int ((uniqK ks).length : Nat), b.h) else none) = _ from e)
      obtain ⟨ds, e3, e4⟩ := Option.bind_eq_some_iff.mp e1
      split at e2
      · rename_i hl
        cases e2
        obtain ⟨l, vs, rfl, rvs, hs⟩ := lst_cases s rv e3
        obtain rfl : vs = ks.map kV := keys_mapM e4 rvs
        rw [o.K]
        refine ⟨l, ks, rfl, hs, hl, fun t ht => ?_⟩
        have sd := Pt.side_le (u := SetK X.prog X.w t (hasK ks) (uniqK ks).length) ht
        refine ⟨t, _, _, rfl, upd_same, Nat.le_trans uniqK_le hl, ?_⟩
        exact (kq.mono sd).same (s.side (u := SetK X.prog X.w t (hasK ks) (uniqK ks).length) ht) (.int _) hq
      · cases e2
    | lrev =>
      have shp : ∃ x q y q2 p2 p, ex = .Call (.Name x q) [.Call (.Name y q2) [z] [] p2] [] p ∧ (decide (x = "list") && isGl sc x && decide (y = "reversed") && isGl sc y && plainH z) = true := by
        unfold unS at hu
        simp only at hu
        split at hu
        · split at hu
          · rename_i hc
            cases hu
            exact ⟨_, _, _, _, _, _, rfl, hc⟩
          · cases hu
        · cases hu
      obtain ⟨x, q, y, q2, p2, p, rfl, c1⟩ := shp
      simp only [Bool.and_eq_true, decide_eq_true_eq] at c1
      obtain ⟨⟨⟨⟨rfl, g1⟩, rfl⟩, g2⟩, hp⟩ := c1
      obtain ⟨h1, h2⟩ := o.gl g1
      obtain ⟨h3, h4⟩ := o.gl g2
      have m1 : X.mg "list" = none := by rw [o.mg]; exact o.blt .list
      have m2 : X.mg "reversed" = none := by rw [o.mg]; exact o.mgi.2.2.2.2.1
      refine impE (pe_lstRev o.calm h1 m1 h3 m2 (ha.e n sc X W z o c2) (star_plain hp [] X.env)) fun σ H Q q => ?_
      refine un_imp (u := .lrev) (R := fun v H1 Q => ∃ a xs, v = .ref a ∧ SqL X.K H1 a xs ∧ (∀ p, H1 p = none → Q (.ref p) (upd H1 p (.lst xs.reverse)))) (fun b d v Qd Q s rv hb kq => ?_) q
      obtain ⟨dd, h', e, hq⟩ := bndE1 hb
      obtain ⟨ds, e1, e2⟩ := Option.map_eq_some_iff.mp (show (lstOf b.h d).map (fun ds => newO b.h (.lst ds.reverse)) = _ from e)
      cases e2
      obtain ⟨l, vs, rfl, rvs, hs⟩ := lst_cases s rv e1
      rw [← o.K] at hs
      exact ⟨_, vs, rfl, hs, kq.newList s rvs.reverse hq⟩
    | ilst =>
      obtain ⟨x, q, m, ap, mp, p, rfl, c1⟩ := itmS_cases hu
      simp only [Bool.and_eq_true, decide_eq_true_eq] at c1
      obtain ⟨⟨⟨⟨rfl, g1⟩, rfl⟩, g2⟩, hp⟩ := c1
      obtain ⟨h1, h2⟩ := o.gl g1
      have m1 : X.mg "list" = none := by rw [o.mg]; exact o.blt .list
      refine impE (LiI.pe_listItems o.calm (ha.e n sc X W z o c2) h1 m1 (by decide +kernel) (recv_base hp _ X.env) g2) fun σ H Q q => ?_
      refine un_imp (u := .ilst) (R := LiI.rItemsL) (fun b d v Qd Q s rv hb kq => ?_) q
      obtain ⟨dd, h', e, hq⟩ := bndE1 hb
      obtain ⟨kvs, e3, e4⟩ := Option.map_eq_some_iff.mp (show (dctU b.h d).map (fun kvs => newO b.h (.lst (kvs.map fun kv => D.tup [ofKey kv.1, kv.2]))) = _ from e)
      cases e4
      obtain ⟨m, ws, rfl, rfl, hd, rk⟩ := dctU_cases s rv e3
      exact ⟨_, ws, rfl, hd, fun H' p ts k1 k2 k3 k4 k5 k6 => kq.items s rk k1 k2 k4 k5 k6 hq⟩
    | ksrt =>
      obtain ⟨x, q, p, rfl, c1⟩ := oneS_cases hu
      simp only [Bool.and_eq_true, decide_eq_true_eq] at c1
      obtain ⟨⟨rfl, g1⟩, hp⟩ := c1
      obtain ⟨h1, h2⟩ := o.gl g1
      have m1 : X.mg "sorted" = none := by rw [o.mg]; exact o.blt .sorted
      have s1 := star_plain hp [] X.env
      refine impE (pe_callB (call_sortedK (X := X) o.calm) h1 m1 (by decide +kernel) (pa_cons (ha.e n sc X W z o c2) pa_nil s1) (by decide) h2 s1 rfl) fun σ H Q q => ?_
      refine un_imp (u := .ksrt) (R := fun x H1 Q => rSortedK X.K [x] H1 Q) (fun b d v Qd Q s rv hb kq => ?_) q
      obtain ⟨dd, h', e, hq⟩ := bndE1 hb
      have e : (match dctOf b.h d with
        | some kvs => if kvs.length < 64 then (srtK (kvs.map fun kv => ofKey kv.1)).map fun ds => newO b.h (.lst ds) else none
        | none => (lstOf b.h d).bind fun xs => if xs.length < 64 then (srtK xs).map fun ds => newO b.h (.lst ds) else none) = some (dd, h') := e
      split at e
      · rename_i kvs e3
        split at e
        · rename_i hl
          obtain ⟨ds, e5, e6⟩ := Option.map_eq_some_iff.mp e
          cases e6
          obtain ⟨m, ws, rfl, rfl, hd, rk⟩ := dctOf_cases s rv e3
          rcases srtK_cases e5 with ⟨ns, k1, rfl⟩ | ⟨zs, k1, rfl⟩
          · have ek : ws.map (·.1) = ns.map Sum.inl := (kvr_fst rk).symm.trans (keys_ints k1)
            refine .inl ⟨_, ws, ns, rfl, hd, ek, ?_, fun ys p hp hpw hn => ?_⟩
            · have := congrArg List.length ek
              rw [List.length_map, List.length_map, ← Paired.length rk] at this
              omega
            · have : ys = isort ns := PySem.W.ksm_same (hp.trans (isort_perm ns).symm) hpw (isort_sorted ns)
              rw [this]
              exact kq.newList s (VRs.of_ints _) hq p hn
          · have ek : ws.map (·.1) = zs.map Sum.inr := (kvr_fst rk).symm.trans (keys_strs k1)
            refine .inr (.inl ⟨_, ws, zs, rfl, hd, ek, ?_, fun ys p hp hpw hn => ?_⟩)
            · have := congrArg List.length ek
              rw [List.length_map, List.length_map, ← Paired.length rk] at this
              omega
            · rw [tsrt_uniq hp hpw]
              exact kq.newList s (VRs.of_strs _) hq p hn
        · cases e
      · obtain ⟨xs, e3, e4⟩ := Option.bind_eq_some_iff.mp e
        split at e4
        · rename_i hl
          obtain ⟨ds, e5, e6⟩ := Option.map_eq_some_iff.mp e4
          cases e6
          obtain ⟨l, vs, rfl, rvs, hs⟩ := lst_cases s rv e3
          rw [← o.K] at hs
          rcases srtK_cases e5 with ⟨ns, rfl, rfl⟩ | ⟨zs, rfl, rfl⟩
          · rw [rvs.ints] at hs
            refine .inr (.inr (.inl ⟨l, ns, rfl, hs, fun ys p hp hpw hn => ?_⟩))
            have : ys = isort ns := PySem.W.ksm_same (hp.trans (isort_perm ns).symm) hpw (isort_sorted ns)
            rw [this]
            exact kq.newList s (VRs.of_ints _) hq p hn
          · rw [rvs.strs] at hs
            refine .inr (.inr (.inr ⟨l, zs, rfl, hs, by simpa using hl, fun ys p hp hpw hn => ?_⟩))
            rw [tsrt_uniq hp hpw]
            exact kq.newList s (VRs.of_strs _) hq p hn
        · cases e4
    | rev =>
      have shp : ∃ k p1 p2 p3 p, ex = .Subscript z (.Slice none none (some (.UnaryOp .USub (.Constant (.int 1) k p1) p2)) p3) p := by
        unfold unS at hu
        simp only at hu
        split at hu
        · cases hu
          exact ⟨_, _, _, _, _, rfl⟩
        · cases hu
      obtain ⟨k, p1, p2, p3, p, rfl⟩ := shp
      refine impE (pe_rev2 (ha.e n sc X W z o c2)) fun σ H Q q => ?_
      refine un_imp (u := .rev) (R := fun v H1 Q => ∃ a xs, v = .ref a ∧ (SqL X.K H1 a xs ∧ (∀ p, H1 p = none → Q (.ref p) (upd H1 p (.lst xs.reverse))) ∨ SqT X.K H1 a xs ∧ ∀ p, H1 p = none → Q (.ref p) (upd H1 p (.tup xs.reverse)))) (fun b d v Qd Q s rv hb kq => ?_) q
      obtain ⟨dd, h', e, hq⟩ := bndE1 hb
      cases rv with
      | ref hn =>
        obtain ⟨ds, e1, e2⟩ := Option.map_eq_some_iff.mp (show (lstOf b.h (.ref _)).map (fun ds => newO b.h (.lst ds.reverse)) = _ from e)
        cases e2
        obtain ⟨vs, hs, rvs⟩ := s.seq (lstOf_is e1)
        rw [← o.K] at hs
        exact ⟨_, vs, rfl, .inl ⟨hs, kq.newList s rvs.reverse hq⟩⟩
      | tup t rvs =>
        cases e
        have hs := t.sq
        rw [← o.K] at hs
        exact ⟨_, _, rfl, .inr ⟨hs, kq.newTup s rvs.reverse hq⟩⟩
      | _ => cases e
theorem kvr_zip {K : PySem.W.Frag} {a : Pt} : ∀ {ks : List DKey} {ds : List D} {vs : List V}, VRs K a ds vs → KVR K a (ks.zip ds) (ks.zip vs)
  | [], _, _, _ => .nil
  | _ :: _, [], _, r => by cases r; exact .nil
  | k :: ks, d :: ds, _, r => by
    cases r with
    | cons r1 r2 => exact .cons ⟨rfl, r1⟩ (kvr_zip r2)
theorem snd_dzip {l : Bool} {a b : E} (ha : Snd S a) (hb : Snd S b) : Snd S (.dzip l a b) := by
  refine Snd.ofVal' (fun _ => rfl) (fun _ => ⟨fun _ _ => rfl, fun _ _ _ => rfl, fun _ o => by cases o <;> rfl⟩) (fun _ _ _ _ _ => rfl) (fun N sc ex env c w => ?_) (fun n sc X W ex o c => ?_)
  · cases ex <;> first | rfl | cases c
  · have shp : ∃ x q x2 q2 y z p2 p, ex = .Call (.Name x q) [.Call (.Name x2 q2) [y, z] [] p2] [] p := by
      unfold ck at c
      simp only [ofCk] at c
      split at c
      · exact ⟨_, _, _, _, _, _, _, _, rfl⟩
      · cases c
    obtain ⟨x, q, x2, q2, y, z, p2, p, rfl⟩ := shp
    have c : (decide (x = if l = true then "list" else "dict") && isGl sc x && decide (x2 = "zip") && isGl sc x2 && plainH y && plainH z && (ck S.nm X.N a).e sc y && (ck S.nm X.N b).e sc z) = true := c
    simp only [Bool.and_eq_true, decide_eq_true_eq] at c
    obtain ⟨⟨⟨⟨⟨⟨⟨rfl, g1⟩, rfl⟩, g2⟩, c3⟩, c4⟩, c5⟩, c6⟩ := c
    obtain ⟨h1, h2⟩ := o.gl g1
    obtain ⟨h3, h4⟩ := o.gl g2
    have hs := star_plain c3 [z] X.env
    have hs2 := star_plain c4 [] X.env
    have m2 : X.mg "zip" = none := by rw [o.mg]; exact o.mgi.2.2.2.1
    cases l with
    | false =>
      have m1 : X.mg "dict" = none := by rw [o.mg]; exact o.blt .dict
      refine impE (pe_dictZip o.calm h1 m1 h3 m2 (pa_cons (ha.e n sc X W y o c5) (pa_cons (hb.e n sc X W z o c6) pa_nil hs2) hs) hs (by rw [hs2]; rfl)) fun σ H Q ⟨a, env, Qd, Xd, eH, sr, er, hq, kq, kx⟩ => ?_
      refine ⟨a, env, _, Xd, eH, sr, er, hq, fun b x v l s rx q => ?_, kx⟩
      refine ⟨b, env, _, Xd, rfl, s, er.mono l, q, fun c i w l2 s2 ri q2 => ?_, kx.mono l⟩
      have q2 : bnd (dzipD x i c.h) Qd := q2
      obtain ⟨dd, h', e, hq2⟩ := bndE1 q2
      obtain ⟨xs, e1, e2⟩ := Option.bind_eq_some_iff.mp e
      obtain ⟨ks, e3, e4⟩ := Option.bind_eq_some_iff.mp e2
      obtain ⟨ys, e5, e6⟩ := Option.map_eq_some_iff.mp e4
      cases e6
      obtain ⟨m1, vs, rfl, rvs, hs1⟩ := lst_cases s2 (rx.mono l2) e1
      obtain ⟨m2, us, rfl, rus, hs2⟩ := lst_cases s2 ri e5
      obtain rfl : vs = ks.map kV := keys_mapM e3 rvs
      rw [← o.K] at hs1 hs2
      exact ⟨m1, m2, ks, us, rfl, hs1, hs2, (kq.mono (l.trans l2)).newDct s2 (kvr_merge (kvr_zip rus) .nil) hq2⟩
    | true =>
      have m1 : X.mg "list" = none := by rw [o.mg]; exact o.blt .list
      refine impE (pe_listZip o.calm h1 m1 h3 m2 (pa_cons (ha.e n sc X W y o c5) (pa_cons (hb.e n sc X W z o c6) pa_nil hs2) hs) hs (by rw [hs2]; rfl)) fun σ H Q ⟨a, env, Qd, Xd, eH, sr, er, hq, kq, kx⟩ => ?_
      refine ⟨a, env, _, Xd, eH, sr, er, hq, fun b x v l s rx q => ?_, kx⟩
      refine ⟨b, env, _, Xd, rfl, s, er.mono l, q, fun c i w l2 s2 ri q2 => ?_, kx.mono l⟩
      have q2 : bnd (lzipK x i c.h) Qd := q2
      obtain ⟨dd, h', e, hq2⟩ := bndE1 q2
      obtain ⟨xs, e1, e2⟩ := Option.bind_eq_some_iff.mp e
      obtain ⟨ks, e3, e4⟩ := Option.bind_eq_some_iff.mp e2
      obtain ⟨ys, e5, e6⟩ := Option.map_eq_some_iff.mp e4
      cases e6
      obtain ⟨m1, vs, rfl, rvs, hs1⟩ := lst_cases s2 (rx.mono l2) e1
      obtain ⟨m2, us, rfl, rus, hs2⟩ := lst_cases s2 ri e5
      obtain rfl : vs = ks.map kV := keys_mapM e3 rvs
      rw [← o.K] at hs1 hs2
      exact ⟨m1, m2, ks, us, rfl, hs1, hs2, fun H' p ts k1 k2 k3 k4 k5 k6 => (kq.mono (l.trans l2)).items s2 (kvr_zip rus) k1 k2 k4 k5 k6 hq2⟩
theorem snd_dnew : Snd S .dnew := by
  refine Snd.ofVal' (fun _ => rfl) (fun _ => ⟨fun _ _ => rfl, fun _ _ _ => rfl, fun _ o => by cases o <;> rfl⟩) (fun _ _ _ _ _ => rfl) (fun N sc ex env c w => ?_) (fun n sc X W ex o c => ?_)
  · cases ex <;> first | rfl | cases c
  · have shp : ∃ p, ex = .Dict [] [] p := by
      unfold ck at c
      simp only [ofCk] at c
      split at c
      · exact ⟨_, rfl⟩
      · cases c
    obtain ⟨p, rfl⟩ := shp
    refine impE pe_dnewK fun σ H Q q => ?_
    obtain ⟨a1, env, Qd, Xd, rfl, sr, er, hb, kq, kx⟩ := q
    intro t ht
    have l := Pt.lay_le (o := .dct []) (u := .dK []) ht
    have s2 : SR S.K S.cl (a1.lay t (.dct []) (.dK [])) := sr.lay ht ⟨[], upd_same, .nil⟩
    have e : (a1.lay t (.dct []) (.dK [])).ρ a1.h.length = t := Pt.lay_at
    have := kq _ (.ref a1.h.length) _ l s2 (.ref (by show _ < (a1.h ++ [_]).length; simp)) hb
    rw [e] at this
    exact this
theorem VRs.pickL {K : PySem.W.Frag} {a : Pt} {ds : List D} {vs : List V} (r : VRs K a ds vs) {i j : Int} : VRs K a (Z.pickL ds i j) (Z.pickL vs i j) := by
  unfold Z.pickL
  rw [r.length]
  generalize PySem.sliceRange _ _ _ = ks
  induction ks with
  | nil => exact .nil
  | cons k ks ih =>
    rw [List.filterMap_cons, List.filterMap_cons]
    cases e : ds[k]? with
    | none =>
      rw [show vs[k]? = none by rw [List.getElem?_eq_none_iff] at e ⊢; rw [← r.length]; exact e]
      exact ih
    | some d =>
      obtain ⟨v, e2, rv⟩ := r.get e
      rw [e2]
      exact .cons rv ih
theorem snd_sls {a lo st : E} (ha : Snd S a) (hl : Snd S lo) (hh : Snd S st) : Snd S (.sls a lo st) := by
  refine Snd.ofVal' (fun _ => rfl) (fun _ => ⟨fun _ _ => rfl, fun _ _ _ => rfl, fun _ o => by cases o <;> rfl⟩) (fun _ _ _ _ _ => rfl) (fun N sc ex env c w => ?_) (fun n sc X W ex o c => ?_)
  · cases ex <;> first | rfl | cases c
  · have shp : ∃ x l s p1 p2, ex = .Subscript x (.Slice (some l) none (some s) p1) p2 ∧ (ck S.nm X.N a).e sc x = true ∧ (ck S.nm X.N lo).e sc l = true ∧ (ck S.nm X.N st).e sc s = true := by
      unfold ck at c
      simp only [ofCk] at c
      split at c
      · rw [Bool.and_eq_true, Bool.and_eq_true] at c
        exact ⟨_, _, _, _, _, rfl, c.1.1, c.1.2, c.2⟩
      · cases c
    obtain ⟨x, l, s, p1, p2, rfl, c1, c2, c3⟩ := shp
    refine impE (pe_sls (ha.e n sc X W x o c1) (hl.e n sc X W l o c2) (hh.e n sc X W s o c3)) fun σ H Q ⟨a, env, Qd, Xd, eH, sr, er, hb, kq, kx⟩ => ?_
    refine ⟨a, env, _, Xd, eH, sr, er, hb, fun b x v l s rx q => ?_, kx⟩
    refine ⟨b, env, _, Xd, rfl, s, er.mono l, q, fun c i w l2 s2 ri q2 => ?_, kx.mono l⟩
    refine ⟨c, env, _, Xd, rfl, s2, er.mono (l.trans l2), q2, fun e j u l3 s3 rj q3 => ?_, kx.mono (l.trans l2)⟩
    have q3 : bnd (slsD x i j e.h) Qd := q3
    have rx3 := rx.mono (l2.trans l3)
    have ri3 := ri.mono l3
    unfold slsD at q3
    split at q3
    · rename_i n0 i0 j0 _
      cases ri3
      cases rj
      cases rx3
      by_cases hj : 0 < j0
      · rw [if_pos (decide_eq_true hj)] at q3
        obtain ⟨dd, h', e1, hq⟩ := bndE1 q3
        obtain ⟨ds, e2, e3⟩ := Option.map_eq_some_iff.mp e1
        cases e3
        obtain ⟨vs, hs, rvs⟩ := s3.seq (lstOf_is e2)
        rw [← o.K] at hs
        exact ⟨_, vs, i0, j0, rfl, rfl, rfl, hj, hs, (kq.mono ((l.trans l2).trans l3)).newList s3 rvs.pickL hq⟩
      · rw [if_neg (by simpa using hj)] at q3
        exact q3.elim
    · exact q3.elim
theorem snd_d1 {a b : E} (ha : Snd S a) (hb : Snd S b) : Snd S (.d1 a b) := by
  refine Snd.ofVal' (fun _ => rfl) (fun _ => ⟨fun _ _ => rfl, fun _ _ _ => rfl, fun _ o => by cases o <;> rfl⟩) (fun _ _ _ _ _ => rfl) (fun N sc ex env c w => ?_) (fun n sc X W ex o c => ?_)
  · cases ex <;> first | rfl | cases c
  · have shp : ∃ k v p, ex = .Dict [some k] [v] p ∧ (ck S.nm X.N a).e sc k = true ∧ (ck S.nm X.N b).e sc v = true := by
      unfold ck at c
      simp only [ofCk] at c
      split at c
      · rw [Bool.and_eq_true] at c
        exact ⟨_, _, _, rfl, c.1, c.2⟩
      · cases c
    obtain ⟨k, v, p, rfl, c1, c2⟩ := shp
    refine impE (pe_disp (pps_cons (ha.e n sc X W k o c1) (hb.e n sc X W v o c2) pps_nil) rfl rfl (fun z => nomatch z) (by simp)) fun σ H Q q => ?_
    obtain ⟨a1, env, Qd, Xd, rfl, sr, er, hq, kq, kx⟩ := q
    intro t ht
    have l := Pt.lay_le (o := .dct []) (u := .dK []) ht
    have s2 : SR S.K S.cl (a1.lay t (.dct []) (.dK [])) := sr.lay ht ⟨[], upd_same, .nil⟩
    have e : (a1.lay t (.dct []) (.dK [])).ρ a1.h.length = t := Pt.lay_at
    have hlt : a1.h.length < (a1.lay t (.dct []) (.dK [])).h.length := by show _ < (a1.h ++ [_]).length; simp
    refine ⟨a1.lay t (.dct []) (.dK []), env, _, Xd, rfl, s2, er.mono l, hq, fun b1 x1 v1 l1 s1 r1 q1 => ?_, kx.mono l⟩
    refine ⟨b1, env, _, Xd, rfl, s1, er.mono (l.trans l1), q1, fun b2 y2 v2 l2 s3 r2 q2 => ?_, kx.mono (l.trans l1)⟩
    have q2 : bnd (d1D a1.h.length x1 y2 b2.h) Qd := q2
    have e2 : b2.ρ a1.h.length = t := by rw [l2.r _ (Nat.lt_of_lt_of_le hlt l1.n), l1.r _ hlt, e]
    unfold d1D at q2
    split at q2
    · rename_i ky h1 h2
      obtain ⟨ws, g1, g2⟩ := s3.obj _ _ h1
      cases g2
      rw [e2] at g1
      have hv := keyOf_of (r1.mono l2) h2
      subst hv
      have lp : b2.Le (b2.put a1.h.length (.dct [(ky, y2)]) (.dK (mergeK [] [(ky, v2)]))) := Pt.put_le s3 h1
      have sp : SR S.K S.cl (b2.put a1.h.length (.dct [(ky, y2)]) (.dK (mergeK [] [(ky, v2)]))) := s3.put h1 ⟨_, upd_same, .cons ⟨rfl, r2.mono lp⟩ .nil⟩
      refine ⟨g1, [(ky, v2)], rfl, by simp, ?_⟩
      have hl2 : a1.h.length < b2.h.length := (List.getElem?_eq_some_iff.mp h1).1
      have := kq _ (.ref a1.h.length) _ ((l.trans (l1.trans l2)).trans lp) sp (.ref (by show _ < (b2.h.set _ _).length; simpa using hl2)) q2
      have e3 : (b2.put a1.h.length (.dct [(ky, y2)]) (.dK (mergeK [] [(ky, v2)]))).ρ a1.h.length = t := e2
      rw [e3] at this
      have e4 : (b2.put a1.h.length (.dct [(ky, y2)]) (.dK (mergeK [] [(ky, v2)]))).H = upd b2.H t (.dK (mergeK [] [(ky, v2)])) := by
        show upd b2.H (b2.ρ a1.h.length) _ = _
        rw [e2]
      rw [e4] at this
      exact this
    · exact q2.elim
theorem snd_d2 {a b c d : E} (ha : Snd S a) (hb : Snd S b) (hc : Snd S c) (hd : Snd S d) : Snd S (.d2 a b c d) := by
  refine Snd.ofVal' (fun _ => rfl) (fun _ => ⟨fun _ _ => rfl, fun _ _ _ => rfl, fun _ o => by cases o <;> rfl⟩) (fun _ _ _ _ _ => rfl) (fun N sc ex env c w => ?_) (fun n sc X W ex o cc => ?_)
  · cases ex <;> first | rfl | cases c
  · have shp : ∃ k v k2 v2 p, ex = .Dict [some k, some k2] [v, v2] p ∧ (ck S.nm X.N a).e sc k = true ∧ (ck S.nm X.N b).e sc v = true ∧ (ck S.nm X.N c).e sc k2 = true ∧ (ck S.nm X.N d).e sc v2 = true := by
      unfold ck at cc
      simp only [ofCk] at cc
      split at cc
      · rw [Bool.and_eq_true, Bool.and_eq_true, Bool.and_eq_true] at cc
        exact ⟨_, _, _, _, _, rfl, cc.1.1.1, cc.1.1.2, cc.1.2, cc.2⟩
      · cases cc
    obtain ⟨k, v, k2, v2, p, rfl, c1, c2, c3, c4⟩ := shp
    refine impE (pe_disp (pps_cons (ha.e n sc X W k o c1) (hb.e n sc X W v o c2) (pps_cons (hc.e n sc X W k2 o c3) (hd.e n sc X W v2 o c4) pps_nil)) rfl rfl (fun z => nomatch z) (by simp)) fun σ H Q q => ?_
    obtain ⟨a1, env, Qd, Xd, rfl, sr, er, hq, kq, kx⟩ := q
    intro t ht
    have l := Pt.lay_le (o := .dct []) (u := .dK []) ht
    have s2 : SR S.K S.cl (a1.lay t (.dct []) (.dK [])) := sr.lay ht ⟨[], upd_same, .nil⟩
    have e : (a1.lay t (.dct []) (.dK [])).ρ a1.h.length = t := Pt.lay_at
    have hlt : a1.h.length < (a1.lay t (.dct []) (.dK [])).h.length := by show _ < (a1.h ++ [_]).length; simp
    refine ⟨a1.lay t (.dct []) (.dK []), env, _, Xd, rfl, s2, er.mono l, hq, fun b1 x1 v1 l1 s1 r1 q1 => ?_, kx.mono l⟩
    refine ⟨b1, env, _, Xd, rfl, s1, er.mono (l.trans l1), q1, fun b2 y2 w2 l2 s3 r2 q2 => ?_, kx.mono (l.trans l1)⟩
    refine ⟨b2, env, _, Xd, rfl, s3, er.mono (l.trans (l1.trans l2)), q2, fun b3 x3 v3 l3 s4 r3 q3 => ?_, kx.mono (l.trans (l1.trans l2))⟩
    refine ⟨b3, env, _, Xd, rfl, s4, er.mono (l.trans (l1.trans (l2.trans l3))), q3, fun b4 y4 v4 l4 s5 r4 q4 => ?_, kx.mono (l.trans (l1.trans (l2.trans l3)))⟩
    have q4 : bnd (d2D a1.h.length x1 y2 x3 y4 b4.h) Qd := q4
    have e2 : b4.ρ a1.h.length = t := by
      rw [l4.r _ (Nat.lt_of_lt_of_le hlt ((l1.trans (l2.trans l3)).n)), (l1.trans (l2.trans l3)).r _ hlt, e]
    unfold d2D at q4
    split at q4
    · rename_i ky ky2 h1 h2 h3
      obtain ⟨ws, g1, g2⟩ := s5.obj _ _ h1
      cases g2
      rw [e2] at g1
      have hv := keyOf_of (r1.mono (l2.trans (l3.trans l4))) h2
      subst hv
      have hv2 := keyOf_of (r3.mono l4) h3
      subst hv2
      have lp : b4.Le (b4.put a1.h.length (.dct (mergeD [] [(ky, y2), (ky2, y4)])) (.dK (mergeK [] [(ky, w2), (ky2, v4)]))) := Pt.put_le s5 h1
      have sp : SR S.K S.cl (b4.put a1.h.length (.dct (mergeD [] [(ky, y2), (ky2, y4)])) (.dK (mergeK [] [(ky, w2), (ky2, v4)]))) := s5.put h1 ⟨_, upd_same, kvr_merge (.cons ⟨rfl, (r2.mono (l3.trans l4)).mono lp⟩ (.cons ⟨rfl, r4.mono lp⟩ .nil)) .nil⟩
      refine ⟨g1, [(ky, w2), (ky2, v4)], rfl, by simp, ?_⟩
      have hl2 : a1.h.length < b4.h.length := (List.getElem?_eq_some_iff.mp h1).1
      have := kq _ (.ref a1.h.length) _ ((l.trans (l1.trans (l2.trans (l3.trans l4)))).trans lp) sp (.ref (by show _ < (b4.h.set _ _).length; simpa using hl2)) q4
      have e3 : (b4.put a1.h.length (.dct (mergeD [] [(ky, y2), (ky2, y4)])) (.dK (mergeK [] [(ky, w2), (ky2, v4)]))).ρ a1.h.length = t := e2
      rw [e3] at this
      have e4 : (b4.put a1.h.length (.dct (mergeD [] [(ky, y2), (ky2, y4)])) (.dK (mergeK [] [(ky, w2), (ky2, v4)]))).H = upd b4.H t (.dK (mergeK [] [(ky, w2), (ky2, v4)])) := by
        show upd b4.H (b4.ρ a1.h.length) _ = _
        rw [e2]
      rw [e4] at this
      exact this
    · exact q4.elim
end
end Z

set_option Elab.async false
set_option linter.all false
set_option maxRecDepth 100000
/-! Z, part J: every expression's meaning is the text's (further). -/
namespace Z
open PySem PySem.Spec PyProof.Rows L2
variable {S : Stat}

theorem val_andV {W : WX} {va vb : Env → Hh → KD → KX → Prop} {σ : L2.St} {H : Hp} {Q : VK} (h : tE S W (fun env h Q X => va env h (asB fun k h1 => if k = true then vb env h1 Q X else Q (.bl false) h1) X) σ H Q) :
    tAndV (tE S W va) (tE S W vb) σ H Q := by
  obtain ⟨a, env, Qd, Xd, eH, sr, er, hb, kq, kx⟩ := h
  refine ⟨a, env, _, Xd, eH, sr, er, hb, fun b d v l s r q => ?_, kx⟩
  cases r with
  | bl k =>
    refine ⟨k, rfl, ?_⟩
    have q : (if k = true then vb env b.h Qd Xd else Qd (.bl false) b.h) := q
    cases k with
    | true =>
      simp only [↓reduceIte] at q ⊢
      exact ⟨b, env, Qd, Xd, rfl, s, er.mono l, q, kq.mono l, kx.mono l⟩
    | false =>
      simp only [Bool.false_eq_true, ↓reduceIte] at q ⊢
      exact kq _ _ _ l s (.bl false) q
  | _ => exact q.elim
theorem val_orV {W : WX} {va vb : Env → Hh → KD → KX → Prop} {σ : L2.St} {H : Hp} {Q : VK} (h : tE S W (fun env h Q X => va env h (asB fun k h1 => if k = true then Q (.bl true) h1 else vb env h1 Q X) X) σ H Q) :
    tOrV (tE S W va) (tE S W vb) σ H Q := by
  obtain ⟨a, env, Qd, Xd, eH, sr, er, hb, kq, kx⟩ := h
  refine ⟨a, env, _, Xd, eH, sr, er, hb, fun b d v l s r q => ?_, kx⟩
  cases r with
  | bl k =>
    refine ⟨k, rfl, ?_⟩
    have q : (if k = true then Qd (.bl true) b.h else vb env b.h Qd Xd) := q
    cases k with
    | true =>
      simp only [↓reduceIte] at q ⊢
      exact kq _ _ _ l s (.bl true) q
    | false =>
      simp only [Bool.false_eq_true, ↓reduceIte] at q ⊢
      exact ⟨b, env, Qd, Xd, rfl, s, er.mono l, q, kq.mono l, kx.mono l⟩
  | _ => exact q.elim
theorem tst_and {W : WX} {ta tb : Env → Hh → (Bool → Hh → Prop) → KX → Prop} {σ : L2.St} {H : Hp} {Q : Bool → Hp → Prop} (h : tT S W (fun env h Q X => ta env h (fun k h1 => if k = true then tb env h1 Q X else Q false h1) X) σ H Q) :
    tAnd (tT S W ta) (tT S W tb) σ H Q := by
  obtain ⟨a, env, Qd, Xd, eH, sr, er, hb, kq, kx⟩ := h
  refine ⟨a, env, _, Xd, eH, sr, er, hb, fun b k l s q => ?_, kx⟩
  cases k with
  | true =>
    simp only [↓reduceIte] at q ⊢
    exact ⟨b, env, Qd, Xd, rfl, s, er.mono l, q, fun c k l2 => kq c k (l.trans l2), kx.mono l⟩
  | false =>
    simp only [Bool.false_eq_true, ↓reduceIte] at q ⊢
    exact kq b false l s q
theorem tst_or {W : WX} {ta tb : Env → Hh → (Bool → Hh → Prop) → KX → Prop} {σ : L2.St} {H : Hp} {Q : Bool → Hp → Prop} (h : tT S W (fun env h Q X => ta env h (fun k h1 => if k = true then Q true h1 else tb env h1 Q X) X) σ H Q) :
    tOr (tT S W ta) (tT S W tb) σ H Q := by
  obtain ⟨a, env, Qd, Xd, eH, sr, er, hb, kq, kx⟩ := h
  refine ⟨a, env, _, Xd, eH, sr, er, hb, fun b k l s q => ?_, kx⟩
  cases k with
  | true =>
    simp only [↓reduceIte] at q ⊢
    exact kq b true l s q
  | false =>
    simp only [Bool.false_eq_true, ↓reduceIte] at q ⊢
    exact ⟨b, env, Qd, Xd, rfl, s, er.mono l, q, fun c k l2 => kq c k (l.trans l2), kx.mono l⟩

theorem snd_and {a b : E} (ha : Snd S a) (hb : Snd S b) : Snd S (.and a b) := by
  have shp : ∀ N sc ex, (ck S.nm N (.and a b)).e sc ex = true → ∃ x y r pos, ex = .BoolOp .And (x :: y :: r) pos ∧ (ck S.nm N a).e sc x = true ∧ ((r = [] ∧ (ck S.nm N b).e sc y = true) ∨ (ck S.nm N b).e sc (.BoolOp .And (y :: r) pos) = true) := fun N sc ex c => by
    cases ex with
    | BoolOp op es pos =>
      cases op with
      | Or => cases c
      | And =>
        match es, c with
        | [], c => cases c
        | [_], c => cases c
        | [x, y], c =>
          have c : ((ck S.nm N a).e sc x && (ck S.nm N b).e sc y) = true := c
          rw [Bool.and_eq_true] at c
          exact ⟨x, y, [], pos, rfl, c.1, .inl ⟨rfl, c.2⟩⟩
        | x :: y :: z :: r, c =>
          have c : ((ck S.nm N a).e sc x && (ck S.nm N b).e sc (.BoolOp .And (y :: z :: r) pos)) = true := c
          rw [Bool.and_eq_true] at c
          exact ⟨x, y, z :: r, pos, rfl, c.1, .inr c.2⟩
    | _ => cases c
  have he : ∀ n sc X W ex, XOk S n sc X W → (ck S.nm X.N (.and a b)).e sc ex = true → PE X ex (tE S W (sem (S.pg.g (S.pg.run n)) (.and a b)).val) := fun n sc X W ex o c => by
    obtain ⟨x, y, r, pos, rfl, c1, c2⟩ := shp _ _ _ c
    have h2 : PE X (.BoolOp .And (y :: r) pos) (tE S W (sem (S.pg.g (S.pg.run n)) b).val) := by
      rcases c2 with ⟨rfl, c2⟩ | c2
      · exact pe_one (hb.e n sc X W y o c2)
      · exact hb.e n sc X W _ o c2
    exact impE (pe_and (ha.e n sc X W x o c1) h2) fun σ H Q q => val_andV q
  have hw : ∀ n sc X W ex, XOk S n sc X W → (ck S.nm X.N (.and a b)).e sc ex = true → PW X ex (tT S W (sem (S.pg.g (S.pg.run n)) (.and a b)).tst) := fun n sc X W ex o c => by
    obtain ⟨x, y, r, pos, rfl, c1, c2⟩ := shp _ _ _ c
    have h2 : PW X (.BoolOp .And (y :: r) pos) (tT S W (sem (S.pg.g (S.pg.run n)) b).tst) := by
      rcases c2 with ⟨rfl, c2⟩ | c2
      · exact pw_and1 (hb.t n sc X W y o c2)
      · exact hb.w n sc X W _ _ _ o c2
    exact impW (pw_and (ha.t n sc X W x o c1) h2) fun σ H Q q => tst_and q
  refine ⟨he, fun n sc X W ex o c => (hw n sc X W ex o c).pt, fun n sc X W op es pos o c => hw n sc X W _ o c, fun n sc X W es o c => (by cases c), fun n sc X W tg ex o c => itr_val o (he n sc X W ex o c), fun n sc X W ob o c => ?_⟩
  cases ob with
  | none => cases c
  | some ex => exact prt_val (he n sc X W ex o c)
theorem snd_or {a b : E} (ha : Snd S a) (hb : Snd S b) : Snd S (.or a b) := by
  have shp : ∀ N sc ex, (ck S.nm N (.or a b)).e sc ex = true → ∃ x y r pos, ex = .BoolOp .Or (x :: y :: r) pos ∧ (ck S.nm N a).e sc x = true ∧ ((r = [] ∧ (ck S.nm N b).e sc y = true) ∨ (ck S.nm N b).e sc (.BoolOp .Or (y :: r) pos) = true) := fun N sc ex c => by
    cases ex with
    | BoolOp op es pos =>
      cases op with
      | And => cases c
      | Or =>
        match es, c with
        | [], c => cases c
        | [_], c => cases c
        | [x, y], c =>
          have c : ((ck S.nm N a).e sc x && (ck S.nm N b).e sc y) = true := c
          rw [Bool.and_eq_true] at c
          exact ⟨x, y, [], pos, rfl, c.1, .inl ⟨rfl, c.2⟩⟩
        | x :: y :: z :: r, c =>
          have c : ((ck S.nm N a).e sc x && (ck S.nm N b).e sc (.BoolOp .Or (y :: z :: r) pos)) = true := c
          rw [Bool.and_eq_true] at c
          exact ⟨x, y, z :: r, pos, rfl, c.1, .inr c.2⟩
    | _ => cases c
  have he : ∀ n sc X W ex, XOk S n sc X W → (ck S.nm X.N (.or a b)).e sc ex = true → PE X ex (tE S W (sem (S.pg.g (S.pg.run n)) (.or a b)).val) := fun n sc X W ex o c => by
    obtain ⟨x, y, r, pos, rfl, c1, c2⟩ := shp _ _ _ c
    have h2 : PE X (.BoolOp .Or (y :: r) pos) (tE S W (sem (S.pg.g (S.pg.run n)) b).val) := by
      rcases c2 with ⟨rfl, c2⟩ | c2
      · exact pe_one (hb.e n sc X W y o c2)
      · exact hb.e n sc X W _ o c2
    exact impE (pe_or (ha.e n sc X W x o c1) h2) fun σ H Q q => val_orV q
  have hw : ∀ n sc X W ex, XOk S n sc X W → (ck S.nm X.N (.or a b)).e sc ex = true → PW X ex (tT S W (sem (S.pg.g (S.pg.run n)) (.or a b)).tst) := fun n sc X W ex o c => by
    obtain ⟨x, y, r, pos, rfl, c1, c2⟩ := shp _ _ _ c
    have h2 : PW X (.BoolOp .Or (y :: r) pos) (tT S W (sem (S.pg.g (S.pg.run n)) b).tst) := by
      rcases c2 with ⟨rfl, c2⟩ | c2
      · exact pw_or1 (hb.t n sc X W y o c2)
      · exact hb.w n sc X W _ _ _ o c2
    exact impW (pw_or (ha.t n sc X W x o c1) h2) fun σ H Q q => tst_or q
  refine ⟨he, fun n sc X W ex o c => (hw n sc X W ex o c).pt, fun n sc X W op es pos o c => hw n sc X W _ o c, fun n sc X W es o c => (by cases c), fun n sc X W tg ex o c => itr_val o (he n sc X W ex o c), fun n sc X W ob o c => ?_⟩
  cases ob with
  | none => cases c
  | some ex => exact prt_val (he n sc X W ex o c)
theorem snd_not {a : E} (ha : Snd S a) : Snd S (.not a) := by
  have shp : ∀ N sc ex, (ck S.nm N (.not a)).e sc ex = true → ∃ x p, ex = .UnaryOp .Not x p ∧ (ck S.nm N a).e sc x = true := fun N sc ex c => by
    cases ex with
    | UnaryOp op x p => cases op <;> first | exact ⟨x, p, rfl, c⟩ | cases c
    | _ => cases c
  have he : ∀ n sc X W ex, XOk S n sc X W → (ck S.nm X.N (.not a)).e sc ex = true → PE X ex (tE S W (sem (S.pg.g (S.pg.run n)) (.not a)).val) := fun n sc X W ex o c => by
    obtain ⟨x, p, rfl, c1⟩ := shp _ _ _ c
    refine impE (pe_not (ha.e n sc X W x o c1)) fun σ H Q ⟨a, env, Qd, Xd, eH, sr, er, hb, kq, kx⟩ => ?_
    refine ⟨a, env, _, Xd, eH, sr, er, hb, fun b d v l s r q => ?_, kx⟩
    cases r with
    | bl k => exact ⟨k, rfl, kq _ _ _ l s (.bl _) q⟩
    | _ => exact q.elim
  refine ⟨he, fun n sc X W ex o c => ?_, fun n sc X W op es pos o c => (by cases c), fun n sc X W es o c => (by cases c), fun n sc X W tg ex o c => itr_val o (he n sc X W ex o c), fun n sc X W ob o c => ?_⟩
  · obtain ⟨x, p, rfl, c1⟩ := shp _ _ _ c
    refine impT (pt_not (ha.t n sc X W x o c1)) fun σ H Q ⟨a, env, Qd, Xd, eH, sr, er, hb, kq, kx⟩ => ?_
    exact ⟨a, env, _, Xd, eH, sr, er, hb, fun b k l s q => kq b _ l s q, kx⟩
  · cases ob with
    | none => cases c
    | some ex => exact prt_val (he n sc X W ex o c)
theorem snd_neg {a : E} (ha : Snd S a) : Snd S (.neg a) := by
  refine Snd.ofVal' (fun _ => rfl) (fun _ => ⟨fun _ _ => rfl, fun _ _ _ => rfl, fun _ o => by cases o <;> rfl⟩) (fun _ _ _ _ _ => rfl) (fun N sc ex env c w => ?_) (fun n sc X W ex o c => ?_)
  · cases ex with
    | UnaryOp op x p => cases op <;> first | rfl | cases c
    | _ => cases c
  · cases ex with
    | UnaryOp op x p =>
      cases op with
      | USub =>
        refine impE (pe_un un_neg (ha.e n sc X W x o c)) fun σ H Q q => one_imp (fun a x v Qd Q sr rx h kq => ?_) q
        cases rx with
        | int i => exact ⟨i, rfl, kq.same sr (.int _) h⟩
        | _ => exact h.elim
      | _ => cases c
    | _ => cases c
theorem snd_ix {a b : E} (ha : Snd S a) (hb : Snd S b) : Snd S (.ix a b) := by
  refine Snd.ofVal' (fun _ => rfl) (fun _ => ⟨fun _ _ => rfl, fun _ _ _ => rfl, fun _ o => by cases o <;> rfl⟩) (fun _ _ _ _ _ => rfl) (fun N sc ex env c w => ?_) (fun n sc X W ex o c => ?_)
  · cases ex <;> first | rfl | cases c
  · cases ex with
    | Subscript x y p =>
      have c : ((ck S.nm X.N a).e sc x && (ck S.nm X.N b).e sc y && plainH y) = true := c
      simp only [Bool.and_eq_true] at c
      have r := ix_all (X := X) (cl := S.cl) o.hu
      rw [o.K] at r
      exact impE (pe_ix r (ha.e n sc X W x o c.1.1) (hb.e n sc X W y o c.1.2) (ix_plain c.2)) fun σ H Q q => two_imp (fun a x y v u Qd Q sr rx ry h kq => ⟨a, x, y, Qd, rfl, sr, rx, ry, h, kq⟩) q
    | _ => cases c
theorem snd_sl {a lo hi : E} (ha : Snd S a) (hl : Snd S lo) (hh : Snd S hi) : Snd S (.sl a lo hi) := by
  refine Snd.ofVal' (fun _ => rfl) (fun _ => ⟨fun _ _ => rfl, fun _ _ _ => rfl, fun _ o => by cases o <;> rfl⟩) (fun _ _ _ _ _ => rfl) (fun N sc ex env c w => ?_) (fun n sc X W ex o c => ?_)
  · cases ex <;> first | rfl | cases c
  · cases ex with
    | Subscript x y p =>
      cases y with
      | Slice l u st p2 =>
        cases st with
        | some _ => cases c
        | none =>
          have c : ((ck S.nm X.N a).e sc x && (ck S.nm X.N lo).p sc l && (ck S.nm X.N hi).p sc u) = true := c
          simp only [Bool.and_eq_true] at c
          have r := sl_all (X := X) (cl := S.cl)
          rw [o.K] at r
          refine impE (pe_slice r (ha.e n sc X W x o c.1.1) (hl.p n sc X W l o c.1.2) (hh.p n sc X W u o c.2)) fun σ H Q ⟨a, env, Qd, Xd, eH, sr, er, hb, kq, kx⟩ => ?_
          refine ⟨a, env, _, Xd, eH, sr, er, hb, fun b x v l s rx q => ?_, kx⟩
          refine ⟨b, env, _, Xd, rfl, s, er.mono l, q, fun c i l2 s2 q2 => ?_, kx.mono l⟩
          refine ⟨c, env, _, Xd, rfl, s2, er.mono (l.trans l2), q2, fun e j l3 s3 q3 => ?_, kx.mono (l.trans l2)⟩
          exact ⟨e, x, Qd, rfl, s3, rx.mono (l2.trans l3), q3, kq.mono ((l.trans l2).trans l3)⟩
      | _ => cases c
    | _ => cases c
theorem snd_lst {es : E} (ha : Snd S es) : Snd S (.lst es) := by
  refine Snd.ofVal' (fun _ => rfl) (fun _ => ⟨fun _ _ => rfl, fun _ _ _ => rfl, fun _ o => by cases o <;> rfl⟩) (fun _ _ _ _ _ => rfl) (fun N sc ex env c w => ?_) (fun n sc X W ex o c => ?_)
  · cases ex <;> first | rfl | cases c
  · cases ex with
    | List x p =>
      refine impE (pe_lst (ha.a n sc X W x o c)) fun σ H Q q => arg_imp (r := fun xs H1 Q => xs.length ≤ sizeLine ∧ ∀ p, H1 p = none → Q (.ref p) (upd H1 p (.lst xs))) (fun a ds vs Qd Q sr rr h kq => ?_) q
      exact ⟨by rw [← rr.length]; exact line_le h.1, kq.newList sr rr h.2⟩
    | _ => cases c
theorem snd_tup {es : E} (ha : Snd S es) : Snd S (.tup es) := by
  refine Snd.ofVal' (fun _ => rfl) (fun _ => ⟨fun _ _ => rfl, fun _ _ _ => rfl, fun _ o => by cases o <;> rfl⟩) (fun _ _ _ _ _ => rfl) (fun N sc ex env c w => ?_) (fun n sc X W ex o c => ?_)
  · cases ex <;> first | rfl | cases c
  · cases ex with
    | Tuple x k p =>
      refine impE (pe_tup (ha.a n sc X W x o c)) fun σ H Q q => arg_imp (r := fun xs H1 Q => xs.length ≤ sizeLine ∧ ∀ p, H1 p = none → Q (.ref p) (upd H1 p (.tup xs))) (fun a ds vs Qd Q sr rr h kq => ?_) q
      exact ⟨by rw [← rr.length]; exact line_le h.1, kq.newTup sr rr h.2⟩
    | _ => cases c
theorem snd_nil : Snd S .nil := by
  refine ⟨fun n sc X W ex o c => (by cases c), fun n sc X W ex o c => (by cases c), fun n sc X W op es pos o c => (by cases c), fun n sc X W es o c => ?_, fun n sc X W tg ex o c => (by cases c), fun n sc X W ob o c => ?_⟩
  · cases es with
    | cons _ _ => cases c
    | nil =>
      refine impA pa_nil fun σ H Q ⟨a, env, Qd, Xd, eH, sr, er, hb, kq, kx⟩ => ?_
      subst eH
      exact kq a [] [] Pt.Le.rfl sr .nil hb
  · cases ob with
    | some _ => cases c
    | none =>
      refine impO po_none fun σ H Q ⟨a, env, Qd, Xd, eH, sr, er, hb, kq, kx⟩ => ?_
      subst eH
      exact kq a none Pt.Le.rfl sr hb
theorem snd_cons {e es : E} (ha : Snd S e) (hb : Snd S es) : Snd S (.cons e es) := by
  refine ⟨fun n sc X W ex o c => (by cases c), fun n sc X W ex o c => (by cases c), fun n sc X W op es pos o c => (by cases c), fun n sc X W l o c => ?_, fun n sc X W tg ex o c => (by cases c), fun n sc X W ob o c => (by cases ob <;> cases c)⟩
  cases l with
  | nil => cases c
  | cons x xs =>
    have c : (plainH x && (ck S.nm X.N e).e sc x && (ck S.nm X.N es).a sc xs) = true := c
    simp only [Bool.and_eq_true] at c
    refine impA (pa_cons (ha.e n sc X W x o c.1.2) (hb.a n sc X W xs o c.2) (star_plain c.1.1 _ _)) fun σ H Q ⟨a, env, Qd, Xd, eH, sr, er, hb, kq, kx⟩ => ?_
    refine ⟨a, env, _, Xd, eH, sr, er, hb, fun b d v l s r q => ?_, kx⟩
    refine ⟨b, env, _, Xd, rfl, s, er.mono l, q, fun c ds vs l2 s2 r2 q2 => ?_, kx.mono l⟩
    exact kq c _ _ (l.trans l2) s2 (.cons (r.mono l2) r2) q2
end Z

set_option Elab.async false
set_option linter.all false
set_option maxRecDepth 100000
/-! Z, part K: calls, comprehensions, iterables. -/
namespace Z
open PySem PySem.Spec PyProof.Rows L2
variable {S : Stat}

theorem ck_plain (nm : Nm) (N : List Str) (sc : Scope) (q : E) : ∀ es : List Expr, (ck nm N q).a sc es = true → es.all plainH = true := by
  induction q with
  | nil =>
    intro es c
    cases es with
    | nil => rfl
    | cons _ _ => cases c
  | cons e r _ ih =>
    intro es c
    cases es with
    | nil => rfl
    | cons x xs =>
      have c : (plainH x && (ck nm N e).e sc x && (ck nm N r).a sc xs) = true := c
      simp only [Bool.and_eq_true] at c
      rw [List.all_cons, c.1.1, ih xs c.2]
      rfl
  | _ => intro es c; cases c
theorem star_map : ∀ (es : List Expr) (env : PySem.Env), es.all plainH = true → starEach es env = es.map fun e => (false, eval e env)
  | [], _, _ => rfl
  | e :: es, env, h => by
    rw [List.all_cons, Bool.and_eq_true] at h
    rw [star_plain h.1, star_map es env h.2]
    rfl
theorem back_any (pos : Pos) (es : List Expr) (env : PySem.Env) (h : es.all plainH = true) : (backTo pos (starEach es env)).any (·.1) = false := by
  rw [star_map es env h]
  unfold backTo
  rw [List.map_map]
  apply List.any_eq_false.mpr
  intro x hx
  obtain ⟨e, _, rfl⟩ := List.mem_map.mp hx
  simp
theorem back_all (pos : Pos) (es : List Expr) (env : PySem.Env) (h : es.all plainH = true) : (backTo pos (starEach es env)).all (fun x => !x.1) = true := by
  rw [star_map es env h]
  unfold backTo
  rw [List.map_map]
  apply List.all_eq_true.mpr
  intro x hx
  obtain ⟨e, _, rfl⟩ := List.mem_map.mp hx
  rfl
theorem snd_call {f : Nat} {es : E} (ha : Snd S es) : Snd S (.call f es) := by
  refine Snd.ofVal' (fun _ => rfl) (fun _ => ⟨fun _ _ => rfl, fun _ _ _ => rfl, fun _ o => by cases o <;> rfl⟩) (fun _ _ _ _ _ => rfl) (fun N sc ex env c w => ?_) (fun n sc X W ex o c => ?_)
  · cases ex <;> first | rfl | cases c
  · cases ex with
    | Call fn ys kws p =>
      cases fn with
      | Name x q =>
        cases ys with
        | nil => cases c
        | cons y ys =>
          cases kws with
          | cons _ _ => cases c
          | nil =>
            have c : (!S.nm.cold && decide (S.nm.fn[f]? = some x) && isGl sc x && (ck S.nm X.N es).a sc (y :: ys)) = true := c
            simp only [Bool.and_eq_true, decide_eq_true_eq, Bool.not_eq_true'] at c
            obtain ⟨⟨⟨c0, c1⟩, c2⟩, c3⟩ := c
            have hp := ck_plain _ _ _ _ _ c3
            rw [List.all_cons, Bool.and_eq_true] at hp
            obtain ⟨h1, h2⟩ := o.gl c2
            obtain ⟨x', fa, fd, ps, g1, g2, g3, g4, g5, g6, _⟩ := (o.fns f x c1).ok
            rw [c1] at g1
            cases g1
            rw [← o.P, ← o.w, ← o.K, ← o.mg, ← o.base] at g6
            rw [← o.K] at g4 g5
            rw [← o.mg] at g3
            refine impE (pe_callS (E := WE W) g6 (o.room.mono (by omega)) h1 g3 g4 g5 (fun σ => passAt (o.take c0) σ) (ha.a n sc X W _ o c3) g2 (star_plain hp.1 _ _) (back_any _ _ _ hp.2)) fun σ H Q ⟨a, env, Qd, Xd, eH, sr, er, hb, kq, kx⟩ => ?_
            exact ⟨a, env, _, Xd, eH, sr, er, hb, fun b ds vs l s r q => ⟨b, ds, Qd, Xd, rfl, s, r, q, kq.mono l, kx.mono l⟩, kx⟩
      | _ => cases c
    | _ => cases c
theorem snd_cald {f : Nat} {es : E} (ha : Snd S es) : Snd S (.cald f es) := by
  refine Snd.ofVal' (fun _ => rfl) (fun _ => ⟨fun _ _ => rfl, fun _ _ _ => rfl, fun _ o => by cases o <;> rfl⟩) (fun _ _ _ _ _ => rfl) (fun N sc ex env c w => ?_) (fun n sc X W ex o c => ?_)
  · cases ex <;> first | rfl | cases c
  · cases ex with
    | Call fn ys kws p =>
      cases fn with
      | Name x q =>
        cases ys with
        | nil => cases c
        | cons y ys =>
          cases kws with
          | cons _ _ => cases c
          | nil =>
            have c : (!S.nm.cold && decide (S.nm.fn[f]? = some x) && isGl sc x && (ck S.nm X.N es).a sc (y :: ys)) = true := c
            simp only [Bool.and_eq_true, decide_eq_true_eq, Bool.not_eq_true'] at c
            obtain ⟨⟨⟨c0, c1⟩, c2⟩, c3⟩ := c
            have hp := ck_plain _ _ _ _ _ c3
            rw [List.all_cons, Bool.and_eq_true] at hp
            obtain ⟨h1, h2⟩ := o.gl c2
            obtain ⟨x', fa, fd, ps, g1, g2, g3, g4, _, g6, g7, _⟩ := (o.fns f x c1).ok
            rw [c1] at g1
            cases g1
            cases hd : (S.pg.fns[f]?).bind (·.dfl) with
            | none =>
              have hA := ha.a n sc X W _ o c3
              refine ⟨fun pins s σ H Q I ⟨a, env, Qd, Xd, eH, sr, er, hb, kq, kx⟩ => ?_⟩
              refine wpAny_Call_Name_kw (ld_glob I h1 (show X.mg x = some (.ref fa) by rw [o.mg]; exact g3) ?_ g2)
              refine PySem.W.callWith_K (h₀ := X.base) I.ok.mod.kin (by rw [o.K]; exact g4) (thn (hA.run p pins s σ H (fun _ _ => False) I ⟨a, env, _, Xd, eH, sr, er, hb, fun b ds vs l s r q => ?_, kx⟩) fun us s1 ⟨_, _, _, _, z⟩ => z.elim) (star_plain hp.1 _ _) (back_any _ _ _ hp.2)
              have q : dflQ ((S.pg.fns[f]?).bind (·.dfl)) (fun i => S.pg.run n f (ds ++ [.int i]) b.h Qd Xd) := q
              rw [hd] at q
              exact q
            | some i =>
              obtain ⟨t, g5⟩ := g7 i hd
              rw [← o.P, ← o.w, ← o.K, ← o.mg, ← o.base] at g6
              rw [← o.K] at g4 g5
              rw [← o.mg] at g3
              refine impE (pe_callSD (E := WE W) (dvs := [.int i]) (ds := [.int i t]) g6 (o.room.mono (by omega)) h1 g3 g4 g5 (.cons ⟨t, rfl⟩ .nil) (fun σ => passAt (o.take c0) σ) (ha.a n sc X W _ o c3) g2 (star_plain hp.1 _ _) (back_any _ _ _ hp.2)) fun σ H Q ⟨a, env, Qd, Xd, eH, sr, er, hb, kq, kx⟩ => ?_
              refine ⟨a, env, _, Xd, eH, sr, er, hb, fun b ds vs l s r q => ⟨b, ds ++ [.int i], Qd, Xd, rfl, s, r.append (.cons (.int i) .nil), ?_, kq.mono l, kx.mono l⟩, kx⟩
              have q : dflQ ((S.pg.fns[f]?).bind (·.dfl)) (fun i => S.pg.run n f (ds ++ [.int i]) b.h Qd Xd) := q
              rw [hd] at q
              exact q
      | _ => cases c
    | _ => cases c
theorem B.boot (b : B) : bootBuiltins b.nm = some b.val := by cases b <;> decide +kernel
theorem Ty.boot (t : Ty) : bootBuiltins t.nm = some (.type t.name) := by cases t <;> decide +kernel
theorem snd_blt {f : B} {es : E} (ha : Snd S es) : Snd S (.blt f es) := by
  refine Snd.ofVal' (fun _ => rfl) (fun _ => ⟨fun _ _ => rfl, fun _ _ _ => rfl, fun _ o => by cases o <;> rfl⟩) (fun _ _ _ _ _ => rfl) (fun N sc ex env c w => ?_) (fun n sc X W ex o c => ?_)
  · cases ex <;> first | rfl | cases c
  · cases ex with
    | Call fn ys kws p =>
      cases fn with
      | Name x q =>
        cases ys with
        | nil => cases c
        | cons y ys =>
          cases kws with
          | cons _ _ => cases c
          | nil =>
            have c : (decide (x = f.nm) && isGl sc x && (ck S.nm X.N es).a sc (y :: ys)) = true := c
            simp only [Bool.and_eq_true, decide_eq_true_eq] at c
            obtain ⟨⟨c1, c2⟩, c3⟩ := c
            subst c1
            have hp := ck_plain _ _ _ _ _ c3
            rw [List.all_cons, Bool.and_eq_true] at hp
            obtain ⟨h1, h2⟩ := o.gl c2
            have hm : X.mg f.nm = none := by rw [o.mg]; exact o.blt f
            have r := call_B (X := X) (cl := S.cl) f o.calm o.hu
            rw [o.K] at r
            have hA := ha.a n sc X W _ o c3
            have hs := star_plain hp.1 ys X.env
            have hpl := back_any p ys X.env hp.2
            have hnn : f.nm ≠ "__name__" := by cases f <;> decide
            have key : PE X (.Call (.Name f.nm q) (y :: ys) [] p) (tCB (rL S.K S.cl (bltD f)) (tA S W (sem (S.pg.g (S.pg.run n)) es).arg)) := by
              cases f <;> first
                | exact pe_callB r h1 hm (B.boot _) hA hnn h2 hs hpl
                | exact pe_callTy r h1 hm (B.boot _) hA hnn h2 hs hpl
            exact impE key fun σ H Q q => arg_imp (fun a ds vs Qd Q sr rr h kq => ⟨a, ds, Qd, rfl, sr, rr, h, kq⟩) q
      | _ => cases c
    | _ => cases c
theorem snd_isi {a : E} {t : Ty} (ha : Snd S a) : Snd S (.isi a t) := by
  refine Snd.ofVal' (fun _ => rfl) (fun _ => ⟨fun _ _ => rfl, fun _ _ _ => rfl, fun _ o => by cases o <;> rfl⟩) (fun _ _ _ _ _ => rfl) (fun N sc ex env c w => ?_) (fun n sc X W ex o c => ?_)
  · cases ex <;> first | rfl | cases c
  · have shp : ∃ x q y z q2 p, ex = .Call (.Name x q) [y, .Name z q2] [] p := by
      unfold ck at c
      simp only [ofCk] at c
      split at c
      · exact ⟨_, _, _, _, _, _, rfl⟩
      · cases c
    obtain ⟨x, q, y, z, q2, p, rfl⟩ := shp
    have c : (decide (x = "isinstance") && isGl sc x && plainH y && (ck S.nm X.N a).e sc y && decide (z = t.nm) && isGl sc z) = true := c
    simp only [Bool.and_eq_true, decide_eq_true_eq] at c
    obtain ⟨⟨⟨⟨⟨rfl, c2⟩, c3⟩, c4⟩, rfl⟩, c6⟩ := c
    obtain ⟨h1, h2⟩ := o.gl c2
    obtain ⟨h3, h4⟩ := o.gl c6
    have hm : X.mg "isinstance" = none := by rw [o.mg]; exact o.mgi.1
    have hm2 : X.mg t.nm = none := by rw [o.mg]; exact o.mgT t
    have hnn : t.nm ≠ "__name__" := by cases t <;> decide
    have hT : PE X (.Name t.nm q2) (tC (.ty t.name)) := pe_bltn h3 hm2 (Ty.boot t) rfl hnn h4
    refine impE (pe_callB (L2.call_isi (X := X)) h1 hm boot_isinstance (pa_cons (ha.e n sc X W y o c4) (pa_cons hT pa_nil rfl) (star_plain c3 _ _)) (by decide) h2 (star_plain c3 _ _) rfl) fun σ H Q qq => ?_
    obtain ⟨a1, env, Qd, Xd, eH, sr, er, hb, kq, kx⟩ := qq
    refine ⟨a1, env, _, Xd, eH, sr, er, hb, fun b d v l s r q => ?_, kx⟩
    obtain ⟨k, e1, hq⟩ := bndB1 q
    obtain ⟨ty, e2, e3⟩ := Option.map_eq_some_iff.mp e1
    subst e3
    refine ⟨v, .ty t.name, .type ty, .type t.name, isiD ty t, rfl, .ty _, by rw [o.K]; exact ty_of s r e2, kit_ty (isi_kit (tyD_mem e2) t), ?_⟩
    exact kq _ _ _ l s (.bl _) hq
theorem M.slot (m : M) : ∃ id, PlainAttrs m.T ∧ Slot m.T m.nm id ∧ typeOf (.builtin id) = pure (.type "method_descriptor") ∧ ∀ (X : Cx) (cl : Str → Option Addr), X.A.units + 64 < cLine → X.calm = true → MtR X id (rMe X.K cl m) := by
  cases m with
  | append => exact ⟨_, PySem.F.plainAttrs_list, PySem.F.slot_list_append, PySem.F.type_list_append, fun X cl _ _ => met_append⟩
  | extend => exact ⟨_, PySem.F.plainAttrs_list, PySem.F.slot_list_extend, PySem.F.type_list_extend, fun X cl _ _ => met_extend⟩
  | pop => exact ⟨_, PySem.F.plainAttrs_list, PySem.F.slot_list_pop, PySem.F.type_list_pop, fun X cl _ _ => met_pop⟩
  | insert => exact ⟨_, PySem.F.plainAttrs_list, PySem.F.slot_list_insert, PySem.F.type_list_insert, fun X cl _ _ => met_insert⟩
  | clear => exact ⟨_, PySem.F.plainAttrs_list, PySem.F.slot_list_clear, PySem.F.type_list_clear, fun X cl _ _ => met_clear⟩
  | count => exact ⟨_, PySem.F.plainAttrs_list, PySem.F.slot_list_count, PySem.F.type_list_count, fun X cl _ _ => met_count⟩
  | index => exact ⟨_, PySem.F.plainAttrs_list, PySem.F.slot_list_index, PySem.F.type_list_index, fun X cl _ _ => met_index⟩
  | upper => exact ⟨_, PySem.F.plainAttrs_str, PySem.F.slot_str_upper, PySem.F.type_str_upper, fun X cl _ _ => met_upper⟩
  | split => exact ⟨_, PySem.F.plainAttrs_str, PySem.F.slot_str_split, PySem.F.type_str_split, fun X cl _ _ => met_split⟩
  | join => exact ⟨_, PySem.F.plainAttrs_str, PySem.F.slot_str_join, PySem.F.type_str_join, fun X cl _ _ => met_join⟩
  | get => exact ⟨_, PySem.F.plainAttrs_dict, PySem.F.slot_dict_get, PySem.F.type_dict_get, fun X cl hu _ => met_get (by omega)⟩
  | dclear => exact ⟨_, PySem.F.plainAttrs_dict, PySem.F.slot_dict_clear, PySem.F.type_dict_clear, fun X cl _ _ => met_dclear⟩
  | update => exact ⟨_, PySem.F.plainAttrs_dict, PySem.F.slot_dict_update, PySem.F.type_dict_update, fun X cl _ _ => met_update⟩
theorem few_ok (cp : Pos) (ys : List Expr) (env : PySem.Env) (h : ys.all plainH = true) (hl : ys.length < 20) :
    ((backTo cp (starEach ys env)).all (fun x => !x.1) && (backToKw cp (keywordEach [] env)).all (fun x => x.1.isSome)
      && decide (ys.length + ([] : List Keyword).length + (if ([] : List Keyword).isEmpty then 0 else 1) < 30)) = true := by
  rw [back_all cp ys env h]
  have h1 : (backToKw cp (keywordEach [] env)).all (fun x => x.1.isSome) = true := rfl
  rw [h1]
  simp only [Bool.and_self, Bool.true_and, decide_eq_true_eq, List.length_nil, List.isEmpty_nil, ↓reduceIte]
  omega
theorem snd_met {q : E} {m : M} {es : E} (hq : Snd S q) (ha : Snd S es) : Snd S (.met q m es) := by
  refine Snd.ofVal' (fun _ => rfl) (fun _ => ⟨fun _ _ => rfl, fun _ _ _ => rfl, fun _ o => by cases o <;> rfl⟩) (fun _ _ _ _ _ => rfl) (fun N sc ex env c w => ?_) (fun n sc X W ex o c => ?_)
  · cases ex <;> first | rfl | cases c
  · cases ex with
    | Call fn ys kws cp =>
      cases fn with
      | Attribute o' x ap =>
        cases kws with
        | cons _ _ => cases c
        | nil =>
          have c : (decide (x = m.nm) && (ap.endLine == cp.line) && recvOk o' && (ck S.nm X.N q).e sc o' && decide (ys.length < 20) && (ck S.nm X.N es).a sc ys) = true := c
          simp only [Bool.and_eq_true, decide_eq_true_eq] at c
          obtain ⟨⟨⟨⟨⟨rfl, c2⟩, c3⟩, c4⟩, c5⟩, c6⟩ := c
          have hp := ck_plain _ _ _ _ _ c6
          obtain ⟨id, p1, p2, p3, p4⟩ := m.slot
          have r := p4 X S.cl o.hu o.calm
          have hbase := recv_base c3 m.nm X.env
          have ho := hq.e n sc X W o' o c4
          have hA := ha.a n sc X W ys o c6
          have fin : ∀ σ H Q, tE S W (sem (S.pg.g (S.pg.run n)) (.met q m es)).val σ H Q → tE S W (sem (S.pg.g (S.pg.run n)) q).val σ H fun x H1 => L2.tyV X.K m.T x H1 ∧ tA S W (sem (S.pg.g (S.pg.run n)) es).arg σ H1 fun xs H2 => rMe X.K S.cl m x xs H2 Q := fun σ H Q ⟨a1, env, Qd, Xd, eH, sr, er, hb, kq, kx⟩ => by
            refine ⟨a1, env, _, Xd, eH, sr, er, hb, fun b d v l s rv qq => ⟨?_, ?_⟩, kx⟩
            · rw [o.K]; exact kind_of s rv qq.1
            · refine ⟨b, env, _, Xd, rfl, s, er.mono l, qq.2, fun c ds vs l2 s2 r2 q2 => ?_, kx.mono l⟩
              rw [o.K]
              exact ⟨c, d, ds, Qd, rfl, s2, rv.mono l2, r2, q2, kq.mono (l.trans l2)⟩
          cases ys with
          | nil =>
            refine impE (pe_bm0 p1 p2 p3 r ho hbase c2) fun σ H Q h => ?_
            obtain ⟨a1, env, Qd, Xd, eH, sr, er, hb, kq, kx⟩ := h
            have hes : ∀ env h Qd Xd, (sem (S.pg.g (S.pg.run n)) es).arg env h Qd Xd → (ck S.nm X.N es).a sc [] = true → Qd [] h := fun env h Qd Xd z ce => by
              cases es with
              | nil => exact z
              | cons _ _ => cases ce
              | _ => exact z.elim
            refine ⟨a1, env, _, Xd, eH, sr, er, hb, fun b d v l s rv qq => ⟨?_, ?_⟩, kx⟩
            · rw [o.K]; exact kind_of s rv qq.1
            · rw [o.K]
              exact ⟨b, d, [], Qd, rfl, s, rv, .nil, hes _ _ _ _ qq.2 c6, kq.mono l⟩
          | cons y ys =>
            have hp' := hp
            rw [List.all_cons, Bool.and_eq_true] at hp'
            exact impE (pe_bm p1 p2 p3 r ho hA hbase (few_ok cp (y :: ys) X.env hp c5) c2 (star_plain hp'.1 _ _) (back_any _ _ _ hp'.2)) fun σ H Q h => fin σ H Q h
      | _ => cases c
    | _ => cases c
theorem own_map (N : List Str) (own : List Nat) : (own.map fun i => (N.getD i "", i)).map (·.2) = own := by
  rw [List.map_map]
  exact List.map_id'' (fun _ => rfl) own
theorem snd_cpr {elt : E} {tg : Tg} {it cond : E} {own : List Nat} (he : Snd S elt) (hi : Snd S it) (hc : Snd S cond) : Snd S (.cpr elt tg it cond own) := by
  refine Snd.ofVal' (fun _ => rfl) (fun _ => ⟨fun _ _ => rfl, fun _ _ _ => rfl, fun _ o => by cases o <;> rfl⟩) (fun _ _ _ _ _ => rfl) (fun N sc ex env c w => ?_) (fun n sc X W ex o c => ?_)
  · cases ex <;> first | rfl | cases c
  · have shp : ∃ elt' tg' it' ifs scope p, ex = .ListComp elt' [⟨tg', it', ifs, 0⟩] scope p := by
      unfold ck at c
      simp only [ofCk] at c
      split at c
      · exact ⟨_, _, _, _, _, _, rfl⟩
      · cases c
    obtain ⟨elt', tg', it', ifs, scope, p, rfl⟩ := shp
    have c : (okTg X.N scope tg tg' && (ck S.nm X.N it).i sc tg' it' && (ck S.nm X.N elt).e scope elt' && setNo it' &&
        (match (generalizing := false) ifs with
          | [] => isNil cond
          | [c'] => !isNil cond && (ck S.nm X.N cond).e scope c'
          | _ => false) && tgIn tg own && blkC X.N sc scope (own.map fun i => (X.N.getD i "", i))) = true := c
    simp only [Bool.and_eq_true] at c
    obtain ⟨⟨⟨⟨⟨⟨c1, c2⟩, c3⟩, c4⟩, c5⟩, c6⟩, c7⟩ := c
    have hI := hi.i n sc X W tg' it' o c2
    have hB := o.blkOk c7
    have hG : ∀ (s : Shared) (H : Hp) (C : Addr) (cl : List (Str × Addr)) (fp : List Addr), PG (X.blk s H scope (compEnvC scope cl C X.env) fp) tg' (gD S tg) := fun s H C cl fp => pg_any (o.blk s H scope C cl fp) c1
    have hE : ∀ (s : Shared) (H : Hp) (C : Addr) (cl : List (Str × Addr)) (fp : List Addr), PE (X.blk s H scope (compEnvC scope cl C X.env) fp) elt' (tE S (fun _ _ _ _ => False) (sem (S.pg.g (S.pg.run n)) elt).val) :=
      fun s H C cl fp => he.e n scope _ _ elt' (o.blk s H scope C cl fp) c3
    clear c
    match ifs, c5 with
    | [], c5 =>
      refine impE (pe_lc o.calm o.nd hI hB hG (fun _ _ _ _ _ => pts_nil) hE (fold_plain c4 X.env)) fun σ H Q h => ?_
      rw [own_map]
      exact lc_imp o c6 (by rw [if_pos c5]) h
    | [c'], c5 =>
      rw [Bool.and_eq_true, Bool.not_eq_true'] at c5
      refine impE (pe_lc o.calm o.nd hI hB hG (fun s H C cl fp => pts_one (hc.t n scope _ _ c' (o.blk s H scope C cl fp) c5.2)) hE (fold_plain c4 X.env)) fun σ H Q h => ?_
      rw [own_map]
      exact lc_imp o c6 (by rw [if_neg (by rw [c5.1]; decide)]) h
    | _ :: _ :: _, c5 => cases c5
end Z

set_option Elab.async false
set_option linter.all false
set_option maxRecDepth 100000
set_option maxHeartbeats 1000000
/-! Z, part W: refusals that are kept, asked for and looked at; refusals with fields. -/
namespace Z
open PySem PySem.Spec PyProof.Rows L2

/-! ### what is kept of a refusal -/
/-- the refusal's object and its dict -/
theorem kx_inst {P : Program} {w : World} {K : PySem.W.Frag} {cl : Str → Option Addr} {a : Pt} {hp : Heap} {p : Addr} {c : Str} {fs : List (Str × D)} (hok : HOk P w a.H hp) (r : OR K cl a p (.exc c fs)) :
    ∃ C ob od, cl c = some C ∧ XcAt K C ∧ PySem.W.InstAt hp p ob C od ∧ ∀ f d, fs.lookup f = some d → ∃ v u, VR K a d v ∧ RelV v u ∧ PySem.W.lookIn f <$> od = some (some (some u)) := by
  obtain ⟨C, dx, h1, xc, h2, h3⟩ := r
  have e : ObjOk P w a.H hp p (.ext fun h => ∃ (ob : PySem.Obj) (vs : Array Value), h.get? p = some ob ∧ Zc (.ref C) dx ob ∧ ob.data = .fields vs) := hok p _ h2
  obtain ⟨ob, vs, g1, ⟨g2, g3⟩, g4⟩ := e.1
  have nc : PySem.W.notCls ob = true := by unfold PySem.W.notCls; rw [g4] <;> rfl
  rcases h3 with ⟨rfl, rfl⟩ | ⟨q, ws, rfl, k1, k2⟩
  · exact ⟨C, ob, none, h1, xc, ⟨g1, g2, nc, by rw [g3]; trivial⟩, fun f d z => nomatch z⟩
  · have k3 : ObjOk P w a.H hp q (.xd ws) := hok q _ k1
    obtain ⟨mA, hns, hr⟩ := k3
    obtain ⟨od, ho, hl⟩ := lookIn_ns hns
    refine ⟨C, ob, some od, h1, xc, ⟨g1, g2, nc, by rw [g3]; exact ho⟩, fun f d z => ?_⟩
    have key : ∀ {fs : List (Str × D)} {ws : List (Str × V)}, KVR K a fs ws → ∀ {d : D}, fs.lookup f = some d → ∃ v, ws.lookup f = some v ∧ VR K a d v := by
      intro fs ws r
      induction r with
      | nil => intro d z; cases z
      | @cons x y xs ys hh _ ih =>
        intro d z
        obtain ⟨x1, x2⟩ := x
        obtain ⟨y1, y2⟩ := y
        obtain ⟨e1, e2⟩ := hh
        dsimp only at e1 e2
        subst e1
        rw [List.lookup_cons] at z ⊢
        split at z
        · cases z; exact ⟨y2, rfl, e2⟩
        · exact ih z
    obtain ⟨v, l1, l2⟩ := key k2 z
    obtain ⟨u, hu, ru⟩ := RelO.some_of (v := v) (o := mA f) (by rw [← l1]; exact hr f)
    exact ⟨v, u, l2, ru, by show some (PySem.W.lookIn f od) = _; rw [hl, hu]⟩
theorem kit_exm {K : PySem.W.Frag} {C T : Addr} {b : Bool} (xc : XcAt K C) (e : PySem.W.exmOne K (.ref C) (.ref T) = some b) : PySem.W.kitOne K (.ref C) (.ref T) = some b := by
  have e' : PySem.W.kitCls K (.ref C) (.ref T) = some b := by
    unfold PySem.W.exmOne at e
    split at e
    · exact e
    · cases e
  unfold PySem.W.kitOne
  split
  · rename_i h
    have h : C = T := Value.ref.inj (beq_iff_eq.mp h)
    subst h
    unfold PySem.W.kitCls at e'
    simp only at e'
    split at e'
    · rw [xc.self] at e'
      exact e'
    · cases e'
  · exact e'
theorem kit_ve {K : PySem.W.Frag} {C : Addr} (xc : XcAt K C) : PySem.W.kitOne K (.ref C) (.type "ValueError") = some true := by
  unfold PySem.W.kitOne
  rw [if_neg (c := (Value.ref C == Value.type "ValueError") = true) fun z => by have h := beq_iff_eq.mp z; cases h]
  show (if PySem.W.kitMeta "ValueError" = true then PySem.W.subIn K (.ref C) (.type "ValueError") else none) = _
  rw [if_pos (by decide +kernel), xc.ve]
section
variable {S : Stat} {n : Nat} {sc : Scope} {X : Cx} {W : WX}
/-- isinstance of a kept refusal, a class or a tuple of classes -/
noncomputable def rIsx (K : PySem.W.Frag) (cl : Str → Option Addr) (cs : List Str) : List V → Hp → VK → Prop := fun xs H Q => ∃ (a : Pt) (m : Nat) (c : Str) (fs : List (Str × D)) (cv : V), a.H = H ∧ SR K cl a ∧ xs = [.ref (a.ρ m), cv] ∧ a.h[m]? = some (.exc c fs) ∧
  ((∃ u t, ClsV cv u ∧ cs = [t] ∧ ∀ C, cl c = some C → XcAt K C → PySem.W.kitOne K (.ref C) u = some (excSub c t)) ∨ ∃ tp vs us, cv = .ref tp ∧ H tp = some (.tup vs) ∧ Paired ClsV vs us ∧ ∀ C, cl c = some C → XcAt K C → PySem.W.kitAny K (.ref C) us = some (cs.any (excSub c))) ∧ Q (.bl (cs.any (excSub c))) H
theorem call_isx {cl : Str → Option Addr} {cs : List Str} (hn : PySem.W.specialIn X.K (.builtin "object.__class__") "__get__" = some (some (.builtin "getset_descriptor.__get__"))) (ht : PySem.W.takesIn X.K (.builtin "object.__class__") = some true) :
    CallR X (.builtin "isinstance") (rIsx X.K cl cs) := by
  rintro pins s σ H xs us Q I r ⟨a, m, c, fs, cv, rfl, sr, rfl, hm, hc, q⟩
  obtain ⟨u1, u2, rfl, r1, r2⟩ := vals2 r
  cases (show u1 = Value.ref (a.ρ m) from r1)
  obtain ⟨C, ob, od, g1, xc, J, _⟩ := kx_inst I.hok (sr.obj m _ hm)
  have Zk := PySem.W.kitx_exc (x := a.ρ m) (ox := ob) (od := od) xc.cl xc.ga xc.gt xc.sb xc.ca hn ht xc.mr
  rcases hc with ⟨u, t, k, rfl, e⟩ | ⟨tp, vs, us, rfl, hT, k, e⟩
  · have e2 := k.eq r2
    subst e2
    refine PySem.W.kia_one Zk I.kIn J (e C g1 xc) (fun z => nomatch z) fun tk => ⟨.bl (excSub c t), a.H, I.tok tk, rfl, ?_⟩
    simpa using q
  · cases (show u2 = Value.ref tp from r2)
    obtain ⟨_, its, rv, o, h1, h2, nn, h3⟩ := (show ObjOk X.prog X.w a.H s.heap tp (.tup vs) from I.hok tp _ hT)
    have e3 := ClsV.all k rv
    subst e3
    obtain ⟨oc, od', dt, sl⟩ := o
    simp only at h2 h3
    subst h2 h3
    exact PySem.W.kia_tup Zk I.kIn J h1 (e C g1 xc) (fun z => nomatch z) fun tk => ⟨.bl (cs.any (excSub c)), a.H, I.tok tk, rfl, q⟩
theorem oc_special {K : PySem.W.Frag} : PySem.W.specialIn K (.builtin "object.__class__") "__get__" = some (some (.builtin "getset_descriptor.__get__")) := by kernel_rfl
theorem oc_takes {K : PySem.W.Frag} : PySem.W.takesIn K (.builtin "object.__class__") = some true := by kernel_rfl
theorem kvr_look {K : PySem.W.Frag} {a : Pt} {f : Str} {fs : List (Str × D)} {ws : List (Str × V)} (r : KVR K a fs ws) : ∀ {d : D}, fs.lookup f = some d → ∃ v, ws.lookup f = some v ∧ VR K a d v := by
  induction r with
  | nil => intro d z; cases z
  | @cons x y xs ys hh _ ih =>
    intro d z
    obtain ⟨x1, x2⟩ := x
    obtain ⟨y1, y2⟩ := y
    obtain ⟨e1, e2⟩ := hh
    dsimp only at e1 e2
    subst e1
    rw [List.lookup_cons] at z ⊢
    split at z
    · cases z; exact ⟨y2, rfl, e2⟩
    · exact ih z
theorem snd_fld {a : E} {f : Str} (ha : Snd S a) : Snd S (.fld a f) := by
  refine Snd.ofVal' (fun _ => rfl) (fun _ => ⟨fun _ _ => rfl, fun _ _ _ => rfl, fun _ o => by cases o <;> rfl⟩) (fun _ _ _ _ _ => rfl) (fun N sc ex env c w => ?_) (fun n sc X W ex o c => ?_)
  · cases ex <;> first | rfl | cases c
  · cases ex with
    | Attribute a' g pos =>
      have c : (recvOk a' && (ck S.nm X.N a).e sc a' && decide (g = f) && S.nm.fld.contains f) = true := c
      simp only [Bool.and_eq_true, decide_eq_true_eq] at c
      obtain ⟨⟨⟨c1, c2⟩, rfl⟩, c4⟩ := c
      rw [List.contains_iff_mem] at c4
      refine ⟨fun pins s σ H Q I ⟨a1, env, Qd, Xd, eH, sr, er, hb, kq, kx⟩ => ?_⟩
      refine attr_of (recv_base c1 _ X.env) (thn ((ha.e n sc X W a' o c2).run pins s σ H (fun v H1 => ∃ b d, b.H = H1 ∧ a1.Le b ∧ SR S.K S.cl b ∧ VR S.K b d v ∧ bnd (fldD g d b.h) Qd) I ⟨a1, env, _, Xd, eH, sr, er, hb, fun b d v l s r q => ⟨b, d, rfl, l, s, r, q⟩, kx⟩) ?_)
      rintro u s1 ⟨v, H1, I1, r1, b, d, rfl, l, sb, rv, q⟩
      cases rv with
      | ref hn =>
        rename_i m
        cases (show u = Value.ref (b.ρ m) from r1)
        have q : bnd (match b.h[m]? with
          | some (.exc _ fs) => (fs.lookup g).map (·, b.h)
          | some (.ins _ fs) => (fs.lookup g).map (·, b.h)
          | _ => none) Qd := q
        split at q
        · rename_i c0 fs hm
          obtain ⟨d1, h1, e1, hq⟩ := bndE1 q
          obtain ⟨d2, e2, e3⟩ := Option.map_eq_some_iff.mp e1
          cases e3
          obtain ⟨C, ob, od, g1, xc, J, look⟩ := kx_inst I1.hok (sb.obj m _ hm)
          obtain ⟨v, u, k1, k2, k3⟩ := look g d1 e2
          have hno := o.tx.fld c0 C g g1 c4
          rw [← o.K] at xc hno
          cases od with
          | none => cases k3
          | some od =>
            have k3 : PySem.W.lookIn g od = some (some u) := Option.some.inj k3
            exact HandSPX.exc_get I1.kIn J xc.ga xc.gt xc.sb (PySem.W.findObj_own xc.hd hno rfl k3) (handed_of k2) ⟨v, b.H, I1.tok _, k2, kq b d1 v l sb k1 hq⟩
        · rename_i c0 fs hm
          obtain ⟨d1, h1, e1, hq⟩ := bndE1 q
          obtain ⟨d2, e2, e3⟩ := Option.map_eq_some_iff.mp e1
          cases e3
          obtain ⟨C, dx, vs, g1, cc, g2, g3⟩ := sb.obj m _ hm
          obtain ⟨v, k1, k2⟩ := kvr_look g3 e2
          have hno := o.tx.fld c0 C g g1 c4
          rw [← o.K] at cc hno
          exact getattr_ok I1 g2 cc hno k1 fun u' s2 I2 ru => ⟨v, b.H, I2, ru, kq b d1 v l sb k2 hq⟩
        · exact q.elim
      | _ => exact q.elim
    | _ => cases c
theorem cls_pe (o : XOk S n sc X W) {t : Str} {e : Expr} (h : clsC S.nm sc t e = true) : ∃ v u, PE X e (tC v) ∧ ClsV v u ∧ plainH e = true ∧ ∀ c C, S.cl c = some C → XcAt S.K C → PySem.W.kitOne S.K (.ref C) u = some (excSub c t) := by
  cases e with
  | Name z p =>
    have h : (decide (z = t) && isGl sc z && (S.nm.tst.contains z || decide (z = "ValueError"))) = true := h
    simp only [Bool.and_eq_true, Bool.or_eq_true, decide_eq_true_eq] at h
    obtain ⟨⟨rfl, h2⟩, h3⟩ := h
    obtain ⟨g1, g2⟩ := o.gl h2
    rcases h3 with h3 | rfl
    · obtain ⟨T, k1, k2⟩ := o.tx.tst z (List.contains_iff_mem.mp h3)
      exact ⟨.ref T, .ref T, pe_glob g1 (by rw [o.mg]; exact k1) rfl g2, .own T, rfl, fun c C hc xc => kit_exm xc (k2 c C hc xc)⟩
    · refine ⟨.ty "ValueError", .type "ValueError", pe_bltn g1 (by rw [o.mg]; exact o.tx.ve) PyProof.Rows.Boot.«ValueError» rfl (by decide) g2, .ty _, rfl, fun c C hc xc => ?_⟩
      rw [kit_ve xc]
      simp [excSub]
  | _ => cases h
theorem cls_pas (o : XOk S n sc X W) : ∀ {ts : List Str} {es : List Expr}, clsCs S.nm sc ts es = true → ∃ vs us, PA X es (fun _ H Q => Q vs H) ∧ Paired ClsV vs us ∧ vs.length = es.length ∧ ∀ c C, S.cl c = some C → XcAt S.K C → PySem.W.kitAny S.K (.ref C) us = some (ts.any (excSub c))
  | [], [], _ => ⟨[], [], pa_nil, .nil, rfl, fun _ _ _ _ => rfl⟩
  | t :: ts, e :: es, h => by
    have h : (clsC S.nm sc t e && clsCs S.nm sc ts es) = true := h
    rw [Bool.and_eq_true] at h
    obtain ⟨v, u, p1, p2, p3, p4⟩ := cls_pe o h.1
    obtain ⟨vs, us, q1, q2, q3, q4⟩ := cls_pas o h.2
    refine ⟨v :: vs, u :: us, pa_cons p1 q1 (star_plain p3 _ _), .cons p2 q2, by rw [List.length_cons, List.length_cons, q3], fun c C hc xc => ?_⟩
    rw [List.any_cons]
    refine kitAny_cons (p4 c C hc xc) (fun z => ?_) (fun z => by rw [z]; rfl)
    rw [z, Bool.false_or]
    exact q4 c C hc xc
  | [], _ :: _, h => by cases h
  | _ :: _, [], h => by cases h
theorem isxC_cases {nm : Nm} {sc : Scope} {cs : List Str} {z : Expr} (h : isxC nm sc cs z = true) : (∃ es kk tp, z = .Tuple es kk tp ∧ (clsCs nm sc cs es && decide (es.length < 100)) = true) ∨ ∃ t, cs = [t] ∧ clsC nm sc t z = true := by
  unfold isxC at h
  split at h
  · exact .inl ⟨_, _, _, rfl, h⟩
  · split at h
    · exact .inr ⟨_, rfl, h⟩
    · cases h
theorem snd_isk {a : E} {t : Str} (ha : Snd S a) : Snd S (.isk a t) := by
  refine Snd.ofVal' (fun _ => rfl) (fun _ => ⟨fun _ _ => rfl, fun _ _ _ => rfl, fun _ o => by cases o <;> rfl⟩) (fun _ _ _ _ _ => rfl) (fun N sc ex env c w => ?_) (fun n sc X W ex o c => ?_)
  · cases ex <;> first | rfl | cases c
  · have shp : ∃ x q y z pz p, ex = .Call (.Name x q) [y, .Name z pz] [] p := by
      unfold ck at c
      simp only [ofCk] at c
      split at c
      · exact ⟨_, _, _, _, _, _, rfl⟩
      · cases c
    obtain ⟨x, q, y, z, pz, p, rfl⟩ := shp
    have c : (decide (x = "isinstance") && isGl sc x && plainH y && (ck S.nm X.N a).e sc y && decide (z = t) && isGl sc z && S.nm.tsi.contains t) = true := c
    simp only [Bool.and_eq_true, decide_eq_true_eq] at c
    obtain ⟨⟨⟨⟨⟨⟨rfl, c2⟩, c3⟩, c4⟩, rfl⟩, c6⟩, c7⟩ := c
    obtain ⟨h1, h2⟩ := o.gl c2
    obtain ⟨h3, h4⟩ := o.gl c6
    have hm : X.mg "isinstance" = none := by rw [o.mg]; exact o.mgi.1
    have hy := ha.e n sc X W y o c4
    obtain ⟨T, k1, k2⟩ := o.tx.tsi z (List.contains_iff_mem.mp c7)
    have p1 : PE X (.Name z pz) (tC (.ref T)) := pe_glob h3 (by rw [o.mg]; exact k1) rfl h4
    have p3 : plainH (Expr.Name z pz) = true := rfl
    refine impE (pe_callB (call_isi (X := X)) h1 hm boot_isinstance (pa_cons hy (pa_cons p1 pa_nil (star_plain p3 _ _)) (star_plain c3 _ _)) (by decide) h2 (star_plain c3 _ _) (by rw [star_plain p3]; rfl)) fun σ H Q qq => ?_
    obtain ⟨a1, env, Qd, Xd, eH, sr, er, hb, kq, kx⟩ := qq
    refine ⟨a1, env, _, Xd, eH, sr, er, hb, fun b d w l s r qd => ?_, kx⟩
    obtain ⟨k, e1, hq⟩ := bndB1 qd
    cases r with
    | ref hn =>
      rename_i m
      have e1 : (match b.h[m]? with
        | some (.ins c _) => some (insSub c z)
        | _ => none) = some k := e1
      split at e1
      · rename_i c0 fs hc0
        cases e1
        obtain ⟨C, dx, vs, g1, cc, g2, g3⟩ := s.obj m _ hc0
        obtain ⟨f1, f2, f3⟩ := k2 c0 C g1 cc
        rw [← o.K] at cc f1 f2 f3
        exact ⟨.ref (b.ρ m), .ref T, .ref C, .ref T, _, rfl, .own T, .base (.ins g2 cc f1 oc_special oc_takes f2), f3, kq _ _ _ l s (.bl _) hq⟩
      · cases e1
    | _ => cases e1
theorem snd_isx {a : E} {cs : List Str} (ha : Snd S a) : Snd S (.isx a cs) := by
  refine Snd.ofVal' (fun _ => rfl) (fun _ => ⟨fun _ _ => rfl, fun _ _ _ => rfl, fun _ o => by cases o <;> rfl⟩) (fun _ _ _ _ _ => rfl) (fun N sc ex env c w => ?_) (fun n sc X W ex o c => ?_)
  · cases ex <;> first | rfl | cases c
  · have shp : ∃ x q y z p, ex = .Call (.Name x q) [y, z] [] p := by
      unfold ck at c
      simp only [ofCk] at c
      split at c
      · exact ⟨_, _, _, _, _, rfl⟩
      · cases c
    obtain ⟨x, q, y, z, p, rfl⟩ := shp
    have c : (decide (x = "isinstance") && isGl sc x && plainH y && (ck S.nm X.N a).e sc y && isxC S.nm sc cs z) = true := c
    simp only [Bool.and_eq_true, decide_eq_true_eq] at c
    obtain ⟨⟨⟨⟨rfl, c2⟩, c3⟩, c4⟩, c5⟩ := c
    obtain ⟨h1, h2⟩ := o.gl c2
    have hm : X.mg "isinstance" = none := by rw [o.mg]; exact o.mgi.1
    have hy := ha.e n sc X W y o c4
    have hcall : CallR X (.builtin "isinstance") (rIsx S.K S.cl cs) := by rw [← o.K]; exact call_isx oc_special oc_takes
    have one : ∀ {t : Str}, cs = [t] → clsC S.nm sc t z = true → PE X (.Call (.Name "isinstance" q) [y, z] [] p) (tE S W (sem (S.pg.g (S.pg.run n)) (.isx a cs)).val) := fun {t} ec ht => by
      obtain ⟨v, u, p1, p2, p3, p4⟩ := cls_pe o ht
      refine impE (pe_callB hcall h1 hm boot_isinstance (pa_cons hy (pa_cons p1 pa_nil (star_plain p3 _ _)) (star_plain c3 _ _)) (by decide) h2 (star_plain c3 _ _) (by rw [star_plain p3]; rfl)) fun σ H Q qq => ?_
      obtain ⟨a1, env, Qd, Xd, eH, sr, er, hb, kq, kx⟩ := qq
      refine ⟨a1, env, _, Xd, eH, sr, er, hb, fun b d w l s r qd => ?_, kx⟩
      obtain ⟨k, e1, hq⟩ := bndB1 qd
      cases r with
      | ref hn =>
        rename_i m
        have e1 : (match b.h[m]? with
          | some (.exc c _) => some (cs.any (excSub c))
          | _ => none) = some k := e1
        split at e1
        · rename_i c0 fs hc0
          cases e1
          refine ⟨b, m, c0, fs, v, rfl, s, rfl, hc0, .inl ⟨u, t, p2, ec, fun C hC xc => ?_⟩, kq _ _ _ l s (.bl _) hq⟩
          exact p4 c0 C hC xc
        · cases e1
      | _ => cases e1
    rcases isxC_cases c5 with ⟨es, kk, tp, rfl, c6⟩ | ⟨t, ec, ht⟩
    rotate_left
    · exact one ec ht
    · have c5 := c6
      rw [Bool.and_eq_true, decide_eq_true_eq] at c5
      obtain ⟨vs, us, p1, p2, p3, p4⟩ := cls_pas o c5.1
      refine impE (pe_callB hcall h1 hm boot_isinstance (pa_cons hy (pa_cons (pe_tup p1) pa_nil (star_plain rfl _ _)) (star_plain c3 _ _)) (by decide) h2 (star_plain c3 _ _) rfl) fun σ H Q qq => ?_
      obtain ⟨a1, env, Qd, Xd, eH, sr, er, hb, kq, kx⟩ := qq
      refine ⟨a1, env, _, Xd, eH, sr, er, hb, fun b d w l s r qd => ?_, kx⟩
      refine ⟨by rw [p3, sizeLine_eq]; omega, fun tq htq => ?_⟩
      obtain ⟨k, e1, hq⟩ := bndB1 qd
      cases r with
      | ref hn =>
        rename_i m
        have e1 : (match b.h[m]? with
          | some (.exc c _) => some (cs.any (excSub c))
          | _ => none) = some k := e1
        split at e1
        · rename_i c0 fs hc0
          cases e1
          have l2 : b.Le (b.side tq (.tup vs)) := Pt.side_le htq
          refine ⟨b.side tq (.tup vs), m, c0, fs, .ref tq, rfl, s.side htq, rfl, hc0, .inr ⟨tq, vs, us, rfl, upd_same, p2, fun C hC xc => ?_⟩, kq (b.side tq (.tup vs)) _ _ (l.trans l2) (s.side htq) (.bl _) hq⟩
          exact p4 c0 C hC xc
        · cases e1
      | _ => cases e1
end
end Z

set_option Elab.async false
set_option linter.all false
set_option maxRecDepth 100000
set_option maxHeartbeats 1000000
/-! Z, part X: except .. as e: y = e, with e kept; refusals with fields, made. -/
namespace Z
open PySem PySem.Spec PyProof.Rows L2

section
variable {X : Cx} {pins : List (Addr × PySem.Obj)} {σ : L2.St} {H : Hp} {sI s' : Shared} {B : Heap} {a C : Addr} {d : Option Addr}
theorem kx_ok {P : Program} {w : World} {h : Heap} {ob : PySem.Obj} {vs : Array Value} (e : h.get? a = some ob) (hz : Zc (.ref C) d ob) (hd : ob.data = .fields vs) : ObjOk P w H h a (kx C d a) :=
  ⟨⟨ob, vs, e, hz, hd⟩, ⟨ob, e⟩, fun h1 h2 ⟨o2, v2, x1, x2, x3⟩ k => ⟨o2, v2, k _ x1, x2, x3⟩⟩
/-- back on the ground, the refusal among the things that are told of -/
theorem landed_kept {ob : PySem.Obj} {vs : Array Value} (I : Inv X pins σ H sI) (nb : ∀ b o, sI.heap.get? b = some o → b ∉ frs X.stack → B.get? b = some o) (st : B.StaysIn s'.heap) (up : sI.heap.UpToSlots s'.heap) (os : s'.os = sI.os) (ag : AllBare s'.gens)
    (bn : B.get? a = none) (na : H a = none) (nf : a ∉ frs X.stack) (e : s'.heap.get? a = some ob) (hz : Zc (.ref C) d ob) (hd : ob.data = .fields vs) : Inv X pins σ (upd H a (kx C d a)) s' := by
  have sn : ∀ {b : Addr} {o : PySem.Obj}, sI.heap.get? b = some o → b ≠ a := fun {b o} q z => by
    subst z
    have := nb b o q nf
    rw [bn] at this
    cases this
  have fr1 : ∀ b ∈ frs X.stack, ∀ o, sI.heap.get? b = some o → ∃ sl, s'.heap.get? b = some { o with slots := sl } := fun b hb o q => by
    obtain ⟨_, o2, q2, hnf⟩ := I.stack.mem hb
    rw [q] at q2
    cases q2
    exact up b o q hnf
  have hk0 : HOk X.prog X.w H s'.heap := (I.inGround nb).kept st
  have U : Un (frs X.stack) [] H (upd H a (kx C d a)) sI.heap s'.heap := {
    keep := fun b o q _ hb _ => st b o (nb b o q hb)
    slot := fun b o q _ hb _ => fr1 b hb o q
    free := fun b o q n _ => by rw [upd_ne (sn q)]; exact n
    there := fun b o q _ => by
      by_cases hb : b ∈ frs X.stack
      · obtain ⟨sl, z⟩ := fr1 b hb o q
        exact ⟨_, z⟩
      · exact ⟨o, st b o (nb b o q hb)⟩
    tups := fun b xs q => by rw [upd_ne (ne_of_none q na)]; exact q
    frzs := fun b o u q => by rw [upd_ne (ne_of_none q na)]; exact q
    tbls := fun b ps q => ⟨#[], by rw [upd_ne (ne_of_none q na), q]; simp⟩ }
  refine I.call' (ch := []) os U (fun b o q => ?_) ag (fun _ z => nomatch z)
  by_cases hb : b = a
  · subst hb
    rw [upd_same] at q
    cases q
    exact kx_ok e hz hd
  · rw [upd_ne hb] at q
    exact (hk0 b o q).stay (fun c w _ z => z) (fun c q => by rw [upd_ne (ne_of_none q na)]; exact q) (fun c xs q => by rw [upd_ne (ne_of_none q na)]; exact q)
/-- a suite whose refusal is told of like other things -/
theorem inv_hot {a : Addr} (I : Inv X pins σ H sI) : Inv (X.suite a (X.pn ++ pins)) [] σ H sI :=
  ⟨I.ok.suite _ _, I.os, I.bare, I.base, I.loc, I.cell, I.free, I.freeC, fun p hp => I.pin p (by rwa [List.append_nil] at hp), I.hok, I.len⟩
theorem inv_cool {a : Addr} {pn : List (Addr × PySem.Obj)} (I : Inv (X.suite a (X.pn ++ pins)) pn σ H sI) (ok : X.Ok) : Inv X pins σ H sI :=
  ⟨ok, I.os, I.bare, I.base, I.loc, I.cell, I.free, I.freeC, fun p hp => I.pin p (List.mem_append_left _ hp), I.hok, I.len⟩
end
/-- what the clause wishes of a refusal of the body -/
noncomputable def wKept (K : PySem.W.Frag) (c : Value) (i k : Nat) (Wout : WX) (D : L2.Ends) : WX := fun cls d σ H =>
  ∃ b, PySem.W.exmOne K cls c = some b ∧ (b = true → ∃ C, cls = .ref C ∧ ∀ a, H a = none → D.nx (((σ.set i (some (.ref a))).set k (some (.ref a))).set i none) (upd H a (kx C d a))) ∧ (b = false → Wout cls d σ H)
section
variable {X : Cx} {x e y : Str} {c : Value} {i k : Nat} {body : List Stmt} {np ep yp ap pos pos' : Pos} {tb : WX → TS} {Wout : WX}
/-- try: body / except x as e: y = e -/
theorem ps_try_kept (hs : X.stack = X.env :: X.outer) (hf : X.env.frame = some X.env.locals) (hN : X.N.Nodup) (hi : X.N[i]? = some e) (hke : X.env.kindOf e = some .local) (hk : X.N[k]? = some y) (hly : Loc X.env.scope y)
    (hfy : X.fn y = true ∨ X.env.scope.names.lookup y = some .local) (ed : (e == ("__debug__" : Str)) = false) (ec : (e == ("__classdict__" : Str)) = false) (hc : Names X x c) (tk : Takes X Wout)
    (hb : ∀ (W : WX) (pn : List (Addr × PySem.Obj)) (xe : Value → Shared → Prop), Takes (X.tr pn xe) W → PassesOwn (model X.prog X.w) X.A X.env xe → PSs (X.tr pn xe) body (tb W)) :
    PS X (.Try body [.ExceptHandler (some (.Name x np)) (some e) [.Assign [.Name y yp] (.Name e ep) ap] pos'] [] [] pos) (fun D σ H => tb (wKept X.K c i k Wout D) D σ H) := by
  refine ⟨fun pins s σ H D I h => ?_⟩
  have ok := I.ok
  have hfr : X.A.frames = some (X.env :: X.outer) := ok.frames.trans (congrArg some hs)
  have hloc : Loc X.env.scope e := .inl hke
  refine wpAny_Try_except ?_
  have tb0 := (hb (wKept X.K c i k Wout D) (X.pn ++ pins) (fun u z1 => wpAny (model X.prog X.w) X.A (noteFrame u X.env) (fun _ z2 => wpAny (model X.prog X.w) X.A (setFlight u none) (fun _ z3 =>
    wpAny (model X.prog X.w) X.A (handleBy u X.env [.ExceptHandler (some (.Name x np)) (some e) [.Assign [.Name y yp] (.Name e ep) ap] pos']) (SP X pins D) X.xe z3) X.xe z2) X.xe z1) (fun u z xx => ?_) PassesOwn.looking).run [] s σ H D (I.toTry _) h
  · refine wpAny_mono tb0 (fun f z hsp => ?_) fun _ _ q => q
    cases f with
    | next => obtain ⟨σ2, H2, J2, q⟩ := hsp; exact wpAny_execs_nil ⟨σ2, H2, J2.ofTry ok, q⟩
    | brk => obtain ⟨σ2, H2, J2, q⟩ := hsp; exact ⟨σ2, H2, J2.ofTry ok, q⟩
    | cont => obtain ⟨σ2, H2, J2, q⟩ := hsp; exact ⟨σ2, H2, J2.ofTry ok, q⟩
    | ret u => obtain ⟨v, σ2, H2, J2, r, q⟩ := hsp; exact ⟨v, σ2, H2, J2.ofTry ok, r, q⟩
  · obtain ⟨a, B, sI, pins2, σ2, H2, cls, d, rfl, J0, nb, up, sky, na, os, ag, b, hb1, hyes, hno⟩ := xx
    have J : Inv X pins σ2 H2 sI := J0.ofTry ok
    have sky2 : Sky B (X.env :: X.outer) a (Zc cls d) X.env.locals z.heap := hs ▸ sky
    show wpAny (model X.prog X.w) X.A (noteFrame (.ref a) X.env) _ _ _
    refine Sky.land Zc.steady hfr hf sky2 fun h3 fl3 up3 => ?_
    have J3 : Inv X pins σ2 H2 { z with heap := h3 } := J.landed nb fl3.1 (up.trans up3) os ag
    obtain ⟨ob3, vs3, he3, hz3, hd3⟩ := fl3.there
    have nfr : a ∉ frs (X.env :: X.outer) := fun hm => by
      obtain ⟨_, o2, q2, hnf⟩ := fl3.2.2.1.mem hm
      rw [he3] at q2
      cases q2
      exact hnf _ hd3
    refine wpAny_handleBy_cons (codeAny_handlers_test ?_) (by intro q; cases q)
    have LT : PySem.W.Looks (model X.prog X.w) h3 (typeOf (.ref a)) cls := fun A Q E s k q => wpAny_typeOf_ref (k _ _ he3) (by rw [hz3.1]; exact q)
    have LM := PySem.W.exm_one (M := model X.prog X.w) J3.kIn LT hb1
    have S3 : Inv (X.suite a (X.pn ++ pins)) [] σ2 H2 { z with heap := h3 } := inv_hot J3
    have test : ∀ {Q : Value → Shared → Prop} {E : Value → Shared → Prop}, Q c { z with heap := h3 } → wpAny (model X.prog X.w) (X.A.mark (some (.ref a))) (eval (.Name x np) X.env) Q E { z with heap := h3 } := fun {Q E} q => by
      obtain ⟨hg, hdbg, hm | ⟨hm, hv, hnn⟩⟩ := hc
      · exact ld_glob (X := X.suite a (X.pn ++ pins)) S3 hg hm q hdbg
      · exact ld_blt (X := X.suite a (X.pn ++ pins)) S3 hg hm hv q hnn hdbg
    refine test (LM.here ?_)
    cases b with
    | false =>
      show wpAny _ X.A (handleBy (.ref a) X.env []) _ _ _
      refine wpAny_handleBy_nil ?_
      obtain ⟨_, _, _, oe, vs, T, oT, ts2, he, hz, hd, h1, hr⟩ := id fl3
      unfold PySem.passOn
      refine wpAny_bind (wpAny_field he hd h1 ?_)
      rw [if_neg (show ¬ ((Value.ref T == Value.none) = true) from by simp)]
      have fin : wpAny (model X.prog X.w) X.A (setFlight (.ref a) X.env.frame) (fun _ s4 => wpAny (model X.prog X.w) X.A (throw (Value.ref a) : PySem.Sem Flow) (SP X pins D) X.xe s4) X.xe { z with heap := h3 } := by
        rw [hf]
        refine HandSPX.setFlight_upZ fl3 fun h4 hh4 up4 => wpAny_throw (tk _ _ ⟨a, B, sI, pins, σ2, H2, cls, d, rfl, J, nb, (up.trans up3).trans up4, .inr (.inr (hs ▸ hh4)), na, os, ag, hno rfl⟩)
      first
        | exact wpAny_bind (wpAny_pure (wpAny_bind fin))
        | exact wpAny_bind fin
    | true =>
      obtain ⟨C, rfl, hy2⟩ := hyes rfl
      refine codeAny_handlers_suite_as ?_
      refine HandSPX.lands_againZ fl3 fun h4 fl4 up4 => ?_
      obtain ⟨ob4, vs4, he4, hz4, hd4⟩ := fl4.there
      have J4 : Inv X pins σ2 (upd H2 a (kx C d a)) { z with heap := h4 } := landed_kept J nb fl4.1 ((up.trans up3).trans up4) os ag fl4.2.1 na (hs ▸ nfr) he4 hz4 hd4
      refine store_ok (X := X.suite a (X.pn ++ pins)) (v := .ref a) (inv_hot J4) hN hi hloc rfl (fun s5 S5 => ?_) (.inr hke)
      have asg := pss_one (ps_set (X := X.suite a (X.pn ++ pins)) (i := k) (pos := ap) (pos' := yp) hN hk hly (pe_var (X := X.suite a (X.pn ++ pins)) (i := i) (pos := ep) hi (.inl hke) ed ec) rfl hfy)
      have hlen : i < σ2.length := by rw [J4.len]; exact (List.getElem?_eq_some_iff.mp hi).1
      refine wpAny_mono (asg.run [] s5 _ _ { nx := fun σ' H' => D.nx (σ'.set i none) H', rt := fun _ _ => False, bk := fun _ _ => False, ct := fun _ _ => False } S5 ⟨_, List.getElem?_set_self hlen, hy2 a na⟩) (fun f s6 hsp => ?_) (fun _ _ z => False.elim z)
      cases f with
      | next =>
        obtain ⟨σ6, H6, S6, q6⟩ := hsp
        exact gone_ok (inv_cool S6 ok) hN hi hke fun s7 J7 => ⟨_, _, J7, q6⟩
      | brk => obtain ⟨_, _, _, q6⟩ := hsp; exact q6.elim
      | cont => obtain ⟨_, _, _, q6⟩ := hsp; exact q6.elim
      | ret u => obtain ⟨_, _, _, _, _, q6⟩ := hsp; exact q6.elim
end
end Z

set_option Elab.async false
set_option linter.all false
set_option maxRecDepth 100000
set_option maxHeartbeats 1000000
/-! Z, part Y: refusals with fields: their __init__, and raise X(e, ..). -/
namespace Z
open PySem PySem.Spec PyProof.Rows L2

/-- o.m(..), few plain arguments, on one line -/
theorem mcall_eq {o : Expr} {m : Str} {ap pos : Pos} {ys : List Expr} {env : PySem.Env} (hb : attributeBase o m env (eval o env) = eval o env) (hp : ys.all plainH = true) (hl : ys.length < 20) (hn : (ap.endLine == pos.line) = true) :
    eval (.Call (.Attribute o m ap) ys [] pos) env = (do
      let ov ← eval o env
      standAt ap.atName
      let (f, first) ← holding [ov] (getMethod ov m (do return (← importBound o env).getD true))
      callWith pos f first (backTo pos (starEach ys env)) (backToKw pos (keywordEach [] env))) := by
  have hf : methodCallForm (ys.length + ([] : List Keyword).length) (backTo pos (starEach ys env)) (backToKw pos (keywordEach [] env)) = true := few_ok pos ys env hp hl
  have hq : methodCallPos true o env ap pos = pure pos := by unfold methodCallPos; simp [hn]
  rw [arm_eval_Call, hb]
  unfold methodCall
  rw [hf, hq]
  rfl
/-! ### B.__init__(self, '..'), B a class of the text that has ValueError's own -/
structure BaseAt (K : PySem.W.Frag) (B : Addr) : Prop where
  g1 : PySem.W.specialIn K (.ref B) "__getattribute__" = some (some (.builtin "type.__getattribute__"))
  g2 : PySem.W.typeIn K (.ref B) = some (.type "type")
  g3 : PySem.W.readsIn K B (.type "type") = true
  g4 : PySem.W.findCls K (.ref B) (.type "type") "__init__" = some (.val (.builtin "ValueError.__init__"))
section
variable {X : Cx} {B : Addr} {x : Str} {e : Expr} {es : List Expr} {ta : TA} {p1 p2 pos : Pos}
theorem pe_baseinit {pl : PySem.Sem Bool} (hg : Gl X x) (hx : (x == ("__debug__" : Str)) = false) (hm : X.mg x = some (.ref B)) (b : BaseAt X.K B) (ha : PA X (e :: es) ta)
    (hc : eval (.Call (.Attribute (.Name x p1) "__init__" p2) (e :: es) [] pos) X.env = (do
      let ov ← eval (.Name x p1) X.env
      standAt p2.atName
      let (f, first) ← holding [ov] (getMethod ov "__init__" pl)
      callWith pos f first (backTo pos (starEach (e :: es) X.env)) (backToKw pos (keywordEach [] X.env))) := by rfl)
    (he : starEach (e :: es) X.env = (false, eval e X.env) :: starEach es X.env := by rfl) (hpl : (backTo pos (starEach es X.env)).any (·.1) = false := by rfl) :
    PE X (.Call (.Attribute (.Name x p1) "__init__" p2) (e :: es) [] pos) (tVeI X.K ta) := by
  refine ⟨fun pins s σ H Q I h => ?_⟩
  refine PySem.W.methodCall_KW (ld_glob I hg hm ?_ hx) hc
  obtain ⟨m, fr⟩ := I.fr
  refine PySem.W.method_of_cls fr I.ok.mod.kin b.g1 (PySem.W.cls_val fr I.ok.mod.kin b.g2 b.g3 b.g4 (by decide +kernel) ?_)
  show wpAny _ _ (callWith pos (Value.builtin "ValueError.__init__") [] (backTo pos (starEach (e :: es) X.env)) []) _ _ _
  refine PyProof.Rows.callWith_method1 (thn (ha.run pos pins _ σ H _ (I.tok _) h) ?_) he hpl
  rintro us z1 ⟨vs, H1, I1, r1, a, C, ws, rfl, hl, T, ea, q⟩
  cases r1 with
  | @cons _ w0 _ ur ra rr =>
    obtain rfl : w0 = Value.ref a := ra
    exact oinit_ok T I1 ea (by rw [← Paired.length rr, sizeLine_eq]; omega) fun s' J => ⟨.non, H1, J, rfl, q⟩
end
/-! ### self.f = f, one by one -/
noncomputable def puts : List Str → List Stmt → Bool
  | [], [] => true
  | f :: fs, .Assign [.Attribute (.Name s _) g _] (.Name y _) _ :: r => decide (s = "self") && decide (g = f) && decide (y = f) && puts fs r
  | _, _ => false
noncomputable def isIni (base : Str) (fs : List Str) : List Stmt → Bool
  | .Expr (.Call (.Attribute (.Name b _) m p) [.Name s _, .Constant (.str _) _ _] [] q) _ :: r => (p.endLine == q.line) && decide (b = base) && decide (m = "__init__") && decide (s = "self") && puts fs r
  | _ => false
noncomputable def isVis (N : List Str) (sc : Scope) (i : Nat) (x : Str) : Bool := decide (N[i]? = some x) && decide (sc.names.lookup x = some .local) && !dbg x && !dcl x
noncomputable def rPuts (C : Addr) (fs : List Str) (k : Nat) : TS := fun D σ H => ∃ a d acc ws, σ[0]? = some (some (.ref a)) ∧ ws.length = fs.length ∧ (∀ m w, ws[m]? = some w → σ[k + m]? = some (some w)) ∧ H a = some (exo a C (some d)) ∧ H d = some (exd d acc) ∧ d ≠ a ∧
  acc.length + fs.length ≤ 900 ∧ D.nx σ (upd H d (exd d ((fs.zip ws).reverse ++ acc)))
section
variable {X : Cx} {C : Addr}
theorem vis_pe {i : Nat} {x : Str} {p : Pos} (hv : X.N[i]? = some x ∧ X.env.scope.names.lookup x = some .local ∧ dbg x = false ∧ dcl x = false) : PE X (.Name x p) (tVar i) := pe_var hv.1 (.inl hv.2.1) hv.2.2.1 hv.2.2.2
theorem puts_ok (T : OexC X.K C) (hs : X.N[0]? = some ("self" : Str) ∧ X.env.scope.names.lookup ("self" : Str) = some .local) : ∀ (fs : List Str) (k : Nat) (r : List Stmt), puts fs r = true →
    (∀ m f, fs[m]? = some f → (X.N[k + m]? = some f ∧ X.env.scope.names.lookup f = some .local ∧ dbg f = false ∧ dcl f = false) ∧ PySem.W.findIn X.K (.ref C) f = some none) → PSs X r (rPuts C fs k)
  | [], k, [], _, _ => impSs pss_nil fun D σ H ⟨a, d, acc, ws, _, hw, _, _, ed, _, _, q⟩ => by
    have e : upd H d (exd d ((([] : List Str).zip ws).reverse ++ acc)) = H := by
      funext b
      by_cases hb : b = d
      · rw [hb, upd_same, ed]; simp
      · rw [upd_ne hb]
    rw [e] at q
    exact q
  | f :: fs, k, [], h, _ => by cases h
  | [], k, _ :: _, h, _ => by cases h
  | f :: fs, k, st :: r, h, hv => by
    have shp : ∃ sp1 ap yp pos, st = .Assign [.Attribute (.Name "self" sp1) f ap] (.Name f yp) pos ∧ puts fs r = true := by
      unfold puts at h
      split at h
      · rename_i h1 h2; cases h1
      · rename_i f0 fs0 s0 p0 g0 p1 y0 p2 p3 r0 h1 h2
        injection h1 with h1 h3
        injection h2 with h2 h4
        subst h1 h3 h2 h4
        simp only [Bool.and_eq_true, decide_eq_true_eq] at h
        obtain ⟨⟨⟨rfl, rfl⟩, rfl⟩, h⟩ := h
        exact ⟨_, _, _, _, rfl, h⟩
      · cases h
    obtain ⟨sp1, ap, yp, pos, rfl, hr⟩ := shp
    obtain ⟨v0, n0⟩ := hv 0 _ rfl
    have ih := puts_ok T hs fs (k + 1) r hr fun m f hm => by have := hv (m + 1) f hm; rwa [show k + (m + 1) = k + 1 + m by omega] at this
    refine impSs (pss_cons (ps_ost (vis_pe ⟨hs.1, hs.2, rfl, rfl⟩) (vis_pe v0)) ih) fun D σ H ⟨a, d, acc, ws, s0, hw, sw, ea, ed, ne, hl, q⟩ => ?_
    cases ws with
    | nil => cases hw
    | cons w ws =>
      have e : upd (upd H d (exd d ((f, w) :: acc))) d (exd d ((fs.zip ws).reverse ++ (f, w) :: acc)) = upd H d (exd d ((((f :: fs).zip (w :: ws)).reverse) ++ acc)) := by
        rw [upd_upd]; simp
      refine ⟨w, by simpa using sw 0 w rfl, .ref a, s0, a, C, rfl, T, n0, .inr ⟨d, acc, ea, ed, by simp at hl; omega, ?_⟩⟩
      refine ⟨a, d, (f, w) :: acc, ws, s0, by simpa using hw, fun m u hm => by have := sw (m + 1) u hm; rwa [show k + (m + 1) = k + 1 + m by omega] at this, by rw [upd_ne (Ne.symm ne)]; exact ea, upd_same, ne, by simp at hl ⊢; omega, ?_⟩
      rw [e]
      exact q
/-- the whole body -/
noncomputable def rIni (C : Addr) (fs : List Str) : TS := fun D σ H => ∃ a ws, σ[0]? = some (some (.ref a)) ∧ ws.length = fs.length ∧ (∀ m w, ws[m]? = some w → σ[1 + m]? = some (some w)) ∧ H a = some (exo a C none) ∧
  ∀ d, H d = none → d ≠ a → D.nx σ (upd (upd H d (exd d (fs.zip ws).reverse)) a (exo a C (some d)))
theorem ini_ok {base : Str} {B : Addr} {fs : List Str} {l : List Stmt} (T : OexC X.K C) (hs : X.N[0]? = some ("self" : Str) ∧ X.env.scope.names.lookup ("self" : Str) = some .local) (hfs : fs ≠ []) (hl : fs.length < 100) (h : isIni base fs l = true)
    (hv : ∀ m f, fs[m]? = some f → (X.N[1 + m]? = some f ∧ X.env.scope.names.lookup f = some .local ∧ dbg f = false ∧ dcl f = false) ∧ PySem.W.findIn X.K (.ref C) f = some none)
    (hg : Gl X base) (hx : dbg base = false) (hm : X.mg base = some (.ref B)) (b : BaseAt X.K B) : PSs X l (rIni C fs) := by
  cases l with
  | nil => cases h
  | cons st r =>
    have shp : ∃ p0 p1 sp m j p2 p3 p4, st = .Expr (.Call (.Attribute (.Name base p0) "__init__" p1) [.Name "self" sp, .Constant (.str m) j p2] [] p3) p4 ∧ (p1.endLine == p3.line) = true ∧ puts fs r = true := by
      unfold isIni at h
      split at h
      · rename_i b0 q0 m0 q1 s0 q2 z0 q3 q4 q5 q6 r0 h1
        injection h1 with h1 h2
        subst h1 h2
        simp only [Bool.and_eq_true, decide_eq_true_eq] at h
        obtain ⟨⟨⟨⟨h0, rfl⟩, rfl⟩, rfl⟩, h⟩ := h
        exact ⟨_, _, _, _, _, _, _, _, rfl, h0, h⟩
      · cases h
    obtain ⟨p0, p1, sp, m, j, p2, p3, p4, rfl, hln, hr⟩ := shp
    have hself : PE X (.Name "self" sp) (tVar 0) := vis_pe ⟨hs.1, hs.2, rfl, rfl⟩
    have hcall := ps_expr (pos := p4) (pe_baseinit (p1 := p0) (p2 := p1) (pos := p3) hg hx hm b (pa_cons hself (pa_cons (pe_str (j := j) (x := m) (pos := p2)) pa_nil)) (mcall_eq rfl rfl (by show 2 < 20; decide) hln))
    cases fs with
    | nil => exact absurd rfl hfs
    | cons f fs =>
      cases r with
      | nil => cases hr
      | cons st r =>
        have shp : ∃ sp1 ap yp pos, st = .Assign [.Attribute (.Name "self" sp1) f ap] (.Name f yp) pos ∧ puts fs r = true := by
          unfold puts at hr
          split at hr
          · rename_i h1 h2; cases h1
          · rename_i f0 fs0 s0 p0 g0 p1 y0 p2 p3 r0 h1 h2
            injection h1 with h1 h3
            injection h2 with h2 h4
            subst h1 h3 h2 h4
            simp only [Bool.and_eq_true, decide_eq_true_eq] at hr
            obtain ⟨⟨⟨rfl, rfl⟩, rfl⟩, hr⟩ := hr
            exact ⟨_, _, _, _, rfl, hr⟩
          · cases hr
        obtain ⟨sp1, ap, yp, pos, rfl, hr2⟩ := shp
        obtain ⟨v0, n0⟩ := hv 0 f rfl
        have ih := puts_ok T hs fs 2 r hr2 fun m f hm => by have := hv (m + 1) f hm; rwa [show 1 + (m + 1) = 2 + m by omega] at this
        refine impSs (pss_cons hcall (pss_cons (ps_ost (vis_pe ⟨hs.1, hs.2, rfl, rfl⟩) (vis_pe v0)) ih)) fun D σ H ⟨a, ws, s0, hw, sw, ea, q⟩ => ?_
        refine ⟨.ref a, s0, a, C, [.str m], rfl, by show 1 ≤ 1000; decide, T, ea, ?_⟩
        cases ws with
        | nil => cases hw
        | cons w ws =>
          refine ⟨w, by simpa using sw 0 w rfl, .ref a, s0, a, C, rfl, T, n0, .inl ⟨ea, fun d hd ne => ?_⟩⟩
          refine ⟨a, d, [(f, w)], ws, s0, by simpa using hw, fun m u hm => by have := sw (m + 1) u hm; rwa [show 1 + (m + 1) = 2 + m by omega] at this, upd_same, by rw [upd_ne ne, upd_same], ne, by simp at hl ⊢; omega, ?_⟩
          have e : upd (upd (upd H d (exd d [(f, w)])) a (exo a C (some d))) d (exd d ((fs.zip ws).reverse ++ [(f, w)])) = upd (upd H d (exd d ((f :: fs).zip (w :: ws)).reverse)) a (exo a C (some d)) := by
            funext y
            by_cases hy : y = d
            · rw [hy, upd_same, upd_ne ne, upd_same]; simp
            · rw [upd_ne hy]
              by_cases hz : y = a
              · rw [hz, upd_same, upd_same]
              · rw [upd_ne hz, upd_ne hz, upd_ne hy, upd_ne hy]
          rw [e]
          exact q d hd ne
end
section
variable {P : Program} {w : World} {K : PySem.W.Frag} {mg : Str → Option Value} {hb : Heap}
theorem ini_fn {qual base : Str} {st : Stmt} {fI C B : Addr} {fd : FuncData} {fs : List Str} (F : Fun K "__init__" qual st fI fd) (Sc : FnScope (("self" : Str) :: fs) (("self" : Str) :: fs) (defScope st)) (T : OexC K C) (hfs : fs ≠ []) (hl : fs.length < 100)
    (hi : isIni base fs (defBody st) = true) (hloc : (((("self" : Str) :: fs).all fun f => decide ((defScope st).names.lookup f = some .local) && !dbg f && !dcl f) && isGl (defScope st) base) = true) (hno : ∀ f ∈ fs, PySem.W.findIn K (.ref C) f = some none)
    (hm : mg base = some (.ref B)) (b : BaseAt K B) : FnOk P w K mg hb L2.CX0 1 fI fd (("self" : Str) :: fs) (spIni C fs) := by
  rw [Bool.and_eq_true] at hloc
  obtain ⟨hloc, hgl⟩ := hloc
  have loc : ∀ f ∈ (("self" : Str) :: fs), (defScope st).names.lookup f = some .local ∧ dbg f = false ∧ dcl f = false := fun f hf => by
    have := List.all_eq_true.mp hloc f hf
    simp only [Bool.and_eq_true, decide_eq_true_eq, Bool.not_eq_true'] at this
    exact ⟨this.1.1, this.1.2, this.2⟩
  unfold isGl at hgl
  simp only [Bool.and_eq_true, Bool.not_eq_true', decide_eq_true_eq] at hgl
  refine F.ok Sc ?_ ?_
  · rintro vs H Q E ⟨a, ws, rfl, hw, _⟩
    rw [List.length_cons, List.length_cons, hw]
  · rintro cdv A outer s H vs Q E hr ⟨a, ws, rfl, hw, ea, q⟩
    refine ⟨rIni C fs, ini_ok T ⟨rfl, (loc _ List.mem_cons_self).1⟩ hfs hl hi (fun m f hmf => ?_) hgl.2 hgl.1 hm b, ⟨a, ws, rfl, hw, fun m w hmw => ?_, ea, fun d hd ne => q d hd ne⟩⟩
    · have hf := List.mem_of_getElem? hmf
      refine ⟨⟨?_, loc f (List.mem_cons_of_mem _ hf)⟩, hno f hf⟩
      show (("self" : Str) :: fs)[1 + m]? = some f
      rw [show 1 + m = m + 1 by omega, List.getElem?_cons_succ, hmf]
    · unfold L2.start
      have hlt : m < ws.length := (List.getElem?_eq_some_iff.mp hmw).1
      rw [List.getElem?_append_left (by simp; omega), List.getElem?_map, show 1 + m = m + 1 by omega, List.getElem?_cons_succ, hmw]
      rfl
end
end Z

set_option Elab.async false
set_option linter.all false
set_option maxRecDepth 100000
set_option maxHeartbeats 1000000
/-! Z, part HR: an except with a name whose suite raises; refusals that are raised where nothing is handled. -/
namespace Z
open PySem PySem.Spec PyProof.Rows L2

/-- nothing is told of the names -/
abbrev blank (n : Nat) : L2.St := List.replicate n none
section
variable {X : Cx} {pins : List (Addr × PySem.Obj)} {σ : L2.St} {H : Hp} {s : Shared} {G : Heap}
theorem inv_blank {m : Str → Option Value} (I : Inv X pins σ H s) (hm : G.Ns X.env.locals m) (same : ∀ b, b ≠ X.env.locals → G.get? b = s.heap.get? b) : Inv X pins (blank X.N.length) H { s with heap := G } where
  ok := I.ok
  os := I.os
  bare := I.bare
  base :=
    have nl : ∀ {b : Addr} {o : PySem.Obj}, X.s_0.heap.get? b = some o → G.get? b = s.heap.get? b := fun q => same _ (Nat.ne_of_lt (Nat.lt_of_lt_of_le (Heap.lt_size q) I.ok.above))
    { keep := fun b o q n f x => (nl q).trans (I.base.keep b o q n f x)
      slot := fun b o q n f x => (I.base.slot b o q n f x).imp fun sl z => (nl q).trans z
      free := I.base.free
      there := fun b o q x => (I.base.there b o q x).imp fun o2 z => (nl q).trans z
      tups := I.base.tups
      frzs := I.base.frzs
      tbls := I.base.tbls }
  loc := ⟨m, hm, fun i x v _ q _ => by
    rw [List.getElem?_replicate] at q
    split at q <;> cases q⟩
  cell := fun x c q => by
    obtain ⟨v, o, e1, e2⟩ := I.cell x c q
    exact ⟨v, o, (same c (I.cne x c q)).trans e1, e2⟩
  free := I.free
  freeC := I.freeC
  pin := fun p hp => by
    obtain ⟨e1, e2, e3, e4⟩ := I.pin p hp
    exact ⟨(same _ e3).trans e1, e2, e3, e4⟩
  hok := fun b u q => (I.hok b u q).stay (fun c w hc z => (same c fun e => by
    subst e
    rcases hc with hc | hc
    · rw [← hc, I.free] at q; cases q
    · rw [I.free] at hc; cases hc).trans z) (fun _ z => z) fun _ _ z => z
  len := by simp [blank]

/-- the wish of a suite under a name -/
abbrev outXe (X : Cx) (a : Addr) (n : Str) (pos : Pos) : Value → Shared → Prop :=
  AsSuiteRaised (model X.prog X.w) (X.A.mark (some (.ref a))) X.env n pos (notedBy (model X.prog X.w) (X.A.mark (some (.ref a))) X.env (cameBackBy (model X.prog X.w) X.A X.env X.xe))
abbrev hotX (X : Cx) (a : Addr) (pn : List (Addr × PySem.Obj)) (n : Str) (pos : Pos) : Cx := (L2H.suiteX X a pn).wish (outXe X a n pos)
/-- what a suite lets out: the name goes, the refusal goes on -/
theorem suite_out {a : Addr} {oe : PySem.Obj} {n : Str} {pos : Pos} {W : WX} (ok : X.Ok) (hs : X.stack = X.env :: X.outer) (hf : X.env.frame = some X.env.locals) (hk : X.env.kindOf n = some .local) (tk : Takes X W) :
    Takes (hotX X a ((a, oe) :: (X.pn ++ pins)) n pos) (fun cls d _ H => W cls d (blank X.N.length) H) := by
  rintro u s' ⟨e, B, sI, pn2, σ, H, cls, d, rfl, I0, nb, up, sky, na, os, ag, w⟩
  have I : Inv X pins σ H sI := L2H.unsuiteX (Inv.unwish I0) ok
  have sky : Sky B (X.env :: X.outer) e (Zc cls d) X.env.locals s'.heap := hs ▸ sky
  have hfr : (X.A.mark (some (.ref a))).frames = some (X.env :: X.outer) := ok.frames.trans (congrArg some hs)
  have first : ∀ {Q : Unit → Shared → Prop} {N : Value → Shared → Prop}, (∀ g, HandSPX.HeldZ B (X.env :: X.outer) e (Zc cls d) X.env.locals g → s'.heap.UpToSlots g → Q () { s' with heap := g }) →
      wpAny (model X.prog X.w) (X.A.mark (some (.ref a))) (noteFrame (.ref e) X.env) Q N s' := fun {Q N} k => by
    rcases sky with ⟨z1, z2, z3, ob, vs, z4, z5, z6, z7⟩ | fl | hh
    · exact HandSPX.look_newZ Zc.steady hfr z3 hf z4 z1 z2 z6 z7 z5 k
    · exact HandSPX.looks_onZ Zc.steady hfr hf fl k
    · exact HandSPX.againZ hf hh.2.2.2 (k _ hh (Heap.UpToSlots.refl _))
  refine first fun g1 held1 up1 => ?_
  obtain ⟨m, ⟨o, es, ep, e1, e2, e3, e4⟩, _⟩ := id I.loc
  have noF : ∀ vs, o.data ≠ .fields vs := fun vs z => by rw [e2] at z; cases z
  obtain ⟨sl, e5⟩ := (up.trans up1) _ o e1 noF
  have ns1 : g1.Ns X.env.locals m := ⟨_, es, ep, e5, e2, e3, e4⟩
  refine wpAny_nameGoes_keeps hk ns1 (by rw [ok.kind]; rfl) fun g2 v ns2 sb => ?_
  obtain ⟨b1, b2, b3, b4⟩ := held1
  have bL : B.get? X.env.locals = none := by
    obtain ⟨_, ⟨L, _, q1, q2, _⟩, _⟩ := b3
    rw [hf] at q1
    cases q1
    exact q2
  have held2 : HandSPX.HeldZ B (X.env :: X.outer) e (Zc cls d) X.env.locals g2 := by
    refine ⟨fun b ob q => (sb.2 b fun z => by rw [z, bL] at q; cases q).trans (b1 b ob q), b2, Heap.FunFrames.sameBut sb ns2 b3, ?_⟩
    obtain ⟨ob, vs, T, oT, ts, q1, q2, q3, q4, q5, q6, q7, q8, q9⟩ := b4
    have ne : ∀ {b : Addr} {ob2 : PySem.Obj} {vs2 : Array Value}, g1.get? b = some ob2 → ob2.data = .fields vs2 → b ≠ X.env.locals := fun {b ob2 vs2} x1 x2 z => by
      rw [z, e5] at x1
      cases x1
      exact noF _ x2
    exact ⟨ob, vs, T, oT, ts, (sb.2 _ (ne q1 q3)).trans q1, q2, q3, q4, q5, q6, (sb.2 _ (ne q7 q8)).trans q7, q8, q9⟩
  obtain ⟨ob, vs, T, oT, ts, q1, q2, q3, q4, q5⟩ := id held2.2.2.2
  unfold PySem.passOn
  refine wpAny_bind (wpAny_field q1 q3 q4 ?_)
  rw [if_neg (show ¬ ((Value.ref T == Value.none) = true) from by simp)]
  have go : ∀ g3, HandSPX.HeldZ B (X.env :: X.outer) e (Zc cls d) X.env.locals g3 → g2.UpToSlots g3 →
      notedBy (model X.prog X.w) (X.A.mark (some (.ref a))) X.env (cameBackBy (model X.prog X.w) X.A X.env X.xe) (.ref e) { s' with heap := g3, toks := s'.toks + 1 } := fun g3 held3 up3 => by
    show wpAny _ _ (noteFrame (.ref e) X.env) _ _ _
    refine HandSPX.againZ hf held3.2.2.2 ?_
    obtain ⟨ob, vs, T, oT, ts, q1, q2, q3, q4, q5⟩ := id held3.2.2.2
    show wpAny _ X.A (do
      if (← field (.ref e) 1) == .none then unsupported "frame.own-activation:exception-without-traceback"
      setFlight (.ref e) X.env.frame) _ _ _
    refine wpAny_bind (wpAny_field q1 q3 q4 ?_)
    rw [if_neg (show ¬ ((Value.ref T == Value.none) = true) from by simp), hf]
    refine HandSPX.setFlight_onZ held3 fun g4 held4 up4 => ?_
    obtain ⟨oL, es2, ep2, f1, f2, f3⟩ := ns2
    have frz : oL.isFreed = false := by
      obtain ⟨oc, od, dt, osl⟩ := oL
      have f2 : dt = .dict es2 ep2 := f2
      subst f2
      rfl
    have selfL : (sI.heap.update X.env.locals fun _ => oL).get? X.env.locals = some oL := Heap.get?_update_self _ e1 frz
    have oth : ∀ b, b ≠ X.env.locals → (sI.heap.update X.env.locals fun _ => oL).get? b = sI.heap.get? b := fun b hb => Heap.get?_update_other _ _ (Ne.symm hb)
    have inF : X.env.locals ∈ frs X.stack := by rw [hs]; exact List.mem_filterMap.mpr ⟨X.env, List.mem_cons_self, hf⟩
    have up5 := up3.trans up4
    refine tk _ _ ⟨e, B, { sI with heap := sI.heap.update X.env.locals fun _ => oL }, pins, blank X.N.length, H, cls, d, rfl, inv_blank I ⟨oL, es2, ep2, selfL, f2, f3⟩ oth, fun b o2 q hb => ?_, fun b o2 q nf => ?_, .inr (.inr (hs ▸ held4)), na, os, ag, w⟩
    · exact nb b o2 ((oth b fun z => hb (z ▸ inF)).symm.trans q) hb
    · by_cases hb : b = X.env.locals
      · subst hb
        rw [selfL] at q
        cases q
        exact up5 _ _ f1 nf
      · rw [oth b hb] at q
        obtain ⟨sl1, x1⟩ := (up.trans up1) b o2 q nf
        obtain ⟨sl2, x2⟩ := up5 b _ ((sb.2 b hb).trans x1) nf
        exact ⟨sl2, x2⟩
  first
    | exact wpAny_bind (wpAny_pure (wpAny_bind (hf ▸ HandSPX.setFlight_onZ held2 fun g3 held3 up3 => wpAny_throw (go g3 held3 up3))))
    | exact wpAny_bind (hf ▸ HandSPX.setFlight_onZ held2 fun g3 held3 up3 => wpAny_throw (go g3 held3 up3))
end
section
variable {X : Cx} {x n : Str} {c : Value} {i : Nat} {body suite : List Stmt} {b₀ : Stmt} {np pos pos' : Pos} {tb : WX → TS} {ts : Addr → Value → Option Addr → TS} {Wout : WX}
/-- try: body / except x as n: a suite that may raise. The body's refusals are raised where nothing is handled -/
theorem ps_try_asX (hs : X.stack = X.env :: X.outer) (hf : X.env.frame = some X.env.locals) (hN : X.N.Nodup) (hi : X.N[i]? = some n) (hln : X.env.kindOf n = some .local) (hc : Names X x c) (tk : Takes X Wout)
    (hb : ∀ (W : WX) (pn : List (Addr × PySem.Obj)) (xe : Value → Shared → Prop), L2N.Takes (X.tr pn xe) W → PassesOwn (model X.prog X.w) X.A X.env xe → PSs (X.tr pn xe) body (tb W))
    (hsu : ∀ (a : Addr) (oe : PySem.Obj) (cls : Value) (d : Option Addr) (pn : List (Addr × PySem.Obj)), L2N.Zn cls d oe → (∃ vs, oe.data = .fields vs) → Takes (hotX X a ((a, oe) :: pn) n pos') (fun cls d _ H => Wout cls d (blank X.N.length) H) →
      L2H.HotC (hotX X a ((a, oe) :: pn) n pos') → PSs (hotX X a ((a, oe) :: pn) n pos') (b₀ :: suite) (ts a cls d)) :
    PS X (.Try body [.ExceptHandler (some (.Name x np)) (some n) (b₀ :: suite) pos'] [] [] pos) (fun D σ H => tb (wAs X.K c i ts Wout D) D σ H) := by
  refine ⟨fun pins s σ H D I h => wpAny_Try_except ?_⟩
  have ok := I.ok
  have hfr : X.A.frames = some (X.env :: X.outer) := ok.frames.trans (congrArg some hs)
  have bodyRun := (hb (wAs X.K c i ts Wout D) (X.pn ++ pins) (fun u z1 => wpAny (model X.prog X.w) X.A (noteFrame u X.env) (fun _ z2 => wpAny (model X.prog X.w) X.A (setFlight u none) (fun _ z3 =>
    wpAny (model X.prog X.w) X.A (handleBy u X.env [.ExceptHandler (some (.Name x np)) (some n) (b₀ :: suite) pos']) (SP X pins D) X.xe z3) X.xe z2) X.xe z1) (fun u z xx => ?_) PassesOwn.looking).run [] s σ H D (I.toTry _) h
  · refine wpAny_mono bodyRun (fun f z hsp => ?_) fun _ _ q => q
    cases f with
    | next => obtain ⟨σ2, H2, J2, q⟩ := hsp; exact wpAny_execs_nil ⟨σ2, H2, J2.ofTry ok, q⟩
    | brk => obtain ⟨σ2, H2, J2, q⟩ := hsp; exact ⟨σ2, H2, J2.ofTry ok, q⟩
    | cont => obtain ⟨σ2, H2, J2, q⟩ := hsp; exact ⟨σ2, H2, J2.ofTry ok, q⟩
    | ret u => obtain ⟨v, σ2, H2, J2, r, q⟩ := hsp; exact ⟨v, σ2, H2, J2.ofTry ok, r, q⟩
  · obtain ⟨a, B, sI, pins2, σ2, H2, cls, d, rfl, J0, nb, up, sky, na, os, ag, b, hb1, hyes, hno⟩ := xx
    have J : Inv X pins σ2 H2 sI := J0.ofTry ok
    have sky2 : Sky B (X.env :: X.outer) a (L2N.Zn cls d) X.env.locals z.heap := hs ▸ sky
    show wpAny (model X.prog X.w) X.A (noteFrame (.ref a) X.env) _ _ _
    refine L2N.Sky.land L2N.Zn.steady hfr hf sky2 fun g fl upg => ?_
    have J3 : Inv X pins σ2 H2 { z with heap := g } := J.landed nb fl.1 (up.trans upg) os ag
    obtain ⟨ob3, vs3, he3, hz3, hd3⟩ := fl.there
    have nfr : a ∉ frs (X.env :: X.outer) := fun hm => by
      obtain ⟨_, o2, q2, hnf⟩ := fl.2.2.1.mem hm
      rw [he3] at q2
      cases q2
      exact hnf _ hd3
    have nL : a ≠ X.env.locals := fun e => nfr (List.mem_filterMap.mpr ⟨X.env, List.mem_cons_self, hf.trans (congrArg some e.symm)⟩)
    have nF : a ∉ X.fs := fun hm => by
      obtain ⟨e, h1, h2⟩ := List.mem_filterMap.mp hm
      exact nfr (List.mem_filterMap.mpr ⟨e, List.mem_cons_of_mem _ h1, h2⟩)
    refine wpAny_handleBy_cons (codeAny_handlers_test ?_) (by intro q; cases q)
    have LT : PySem.W.Looks (model X.prog X.w) g (typeOf (.ref a)) cls := fun A Q E s k q => wpAny_typeOf_ref (k _ _ he3) (by rw [hz3.1]; exact q)
    have LM := PySem.W.exm_one (M := model X.prog X.w) J3.kIn LT hb1
    have S3 : Inv (X.suite a (X.pn ++ pins)) [] σ2 H2 { z with heap := g } := inv_hot J3
    have test : ∀ {Q : Value → Shared → Prop} {E : Value → Shared → Prop}, Q c { z with heap := g } → wpAny (model X.prog X.w) (X.A.mark (some (.ref a))) (eval (.Name x np) X.env) Q E { z with heap := g } := fun {Q E} q => by
      obtain ⟨hg, hdbg, hm | ⟨hm, hv, hnn⟩⟩ := hc
      · exact ld_glob (X := X.suite a (X.pn ++ pins)) S3 hg hm q hdbg
      · exact ld_blt (X := X.suite a (X.pn ++ pins)) S3 hg hm hv q hnn hdbg
    refine test (LM.here ?_)
    cases b with
    | false =>
      show wpAny _ X.A (handleBy (.ref a) X.env []) _ _ _
      refine wpAny_handleBy_nil ?_
      obtain ⟨_, _, _, oe, vs, T, oT, ts2, he, hz, hd, h1, hr⟩ := id fl
      unfold PySem.passOn
      refine wpAny_bind (wpAny_field he hd h1 ?_)
      rw [if_neg (show ¬ ((Value.ref T == Value.none) = true) from by simp)]
      have flc : HandSPX.FlyingZ B (X.env :: X.outer) a (Zc cls d) g := L2H.flyingZ_imp (fun _ z => z.zc) fl
      have fin : wpAny (model X.prog X.w) X.A (setFlight (.ref a) X.env.frame) (fun _ s4 => wpAny (model X.prog X.w) X.A (throw (Value.ref a) : PySem.Sem Flow) (SP X pins D) X.xe s4) X.xe { z with heap := g } := by
        rw [hf]
        refine HandSPX.setFlight_upZ flc fun h4 hh4 up4 => wpAny_throw (tk _ _ ⟨a, B, sI, pins, σ2, H2, cls, d, rfl, J, nb, (up.trans upg).trans up4, .inr (.inr (hs ▸ hh4)), na, os, ag, hno rfl⟩)
      first
        | exact wpAny_bind (wpAny_pure (wpAny_bind fin))
        | exact wpAny_bind fin
    | true =>
      refine codeAny_handlers_suite_as ?_
      refine HandSPX.lands_againZ fl fun g4 fl4 up4 => ?_
      obtain ⟨ob4, vs4, he4, hz4, hd4⟩ := fl4.there
      have J4 : Inv X pins σ2 H2 { z with heap := g4 } := J.landed nb fl4.1 ((up.trans upg).trans up4) os ag
      have S4 : Inv (hotX X a ((a, ob4) :: (X.pn ++ pins)) n pos') [] σ2 H2 { z with heap := g4 } := Inv.wish (L2H.suiteX_of (J4.suite he4 hd4 na nL nF)) _
      have hot : L2H.HotC (hotX X a ((a, ob4) :: (X.pn ++ pins)) n pos') := ⟨(a, ob4), ⟨rfl, vs4, hd4, hz4.2.2 vs4 hd4⟩, List.mem_cons_self⟩
      refine store_ok (X := hotX X a ((a, ob4) :: (X.pn ++ pins)) n pos') (v := .ref a) S4 hN hi (.inl hln) rfl (fun s5 S5 => ?_) (.inr hln)
      refine wpAny_mono ((hsu a ob4 cls d (X.pn ++ pins) hz4 ⟨_, hd4⟩ (suite_out ok hs hf hln tk) hot).run [] s5 _ H2 _ S5 (hyes rfl a na)) (fun f s6 hsp => ?_) (fun _ _ q => q)
      have gone : ∀ {σ6 : L2.St} {H6 : Hp} {Q : Shared → Prop}, Inv (hotX X a ((a, ob4) :: (X.pn ++ pins)) n pos') [] σ6 H6 s6 → (∀ s7, Inv X pins (σ6.set i none) H6 s7 → Q s7) →
          wpAny (model X.prog X.w) X.A (do bindName X.env n .none; unbindBehindTheSuite X.env n pos') (fun _ s7 => Q s7) X.xe s6 := fun {σ6 H6 Q} S6 k => gone_ok (L2H.unsuiteX (Inv.unwish S6) ok) hN hi hln k
      cases f with
      | next => obtain ⟨σ6, H6, S6, q6⟩ := hsp; exact gone S6 fun s7 J7 => ⟨_, _, J7, q6⟩
      | brk => obtain ⟨σ6, H6, S6, q6⟩ := hsp; exact gone S6 fun s7 J7 => ⟨_, _, J7, q6⟩
      | cont => obtain ⟨σ6, H6, S6, q6⟩ := hsp; exact gone S6 fun s7 J7 => ⟨_, _, J7, q6⟩
      | ret u => obtain ⟨v6, σ6, H6, S6, r6, q6⟩ := hsp; exact gone S6 fun s7 J7 => ⟨_, _, _, J7, r6, q6⟩
end
section
variable {X : Cx} {x : Str} {e : Expr} {es : List Expr} {ta : TA} {p pos : Pos} {C fI : Addr} {k : Nat} {fd : FuncData} {ps : List Str} {sp : Sp} {CX : CXT}
/-- a refusal with fields made where nothing is handled: its context is None -/
theorem pmk_cold (T : OexC X.K C) (iC : PySem.W.findIn X.K (.ref C) "__init__" = some (some (.ref fI))) (tI : PySem.W.typeIn X.K (.ref fI) = some (.type "function")) (F1 : FnOk X.prog X.w X.K X.mg X.base CX k fI fd ps sp) (room : Room (k + 1) X.A) (hb : Binds X.K fd ps [])
    (hx : Passes CX X (fun _ _ _ => False)) (hg : Gl X x) (hm : X.mg x = some (.ref C)) (ha : PA X (e :: es) ta) (hdb : (x == ("__debug__" : Str)) = false) (he : starEach (e :: es) X.env = (false, eval e X.env) :: starEach es X.env)
    (hpl : (backTo pos (starEach es X.env)).any (·.1) = false) : L2N.PMk X (.Call (.Name x p) (e :: es) [] pos) (tMkO C sp [] ta) := by
  intro pins s σ H Q I h
  obtain ⟨_, _, _, _, bm, _, _, _, _, _, _, _, _, _, _, clsAt, ve⟩ := T.cls
  refine wpAny_Call_Name_kw (ld_glob I hg hm (PySem.W.callWith_K (h₀ := X.base) I.ok.mod.kin T.kC (thn (ha.run pos pins s σ H _ I h) ?_) he hpl) hdb)
  rintro us ⟨g0, gs, dr, tk, os⟩ ⟨vs, H1, I1, r1, two, ask⟩
  refine ⟨I1.kIn, ?_⟩
  show wpAny _ _ (call (.ref C) us) _ _ _
  obtain ⟨a, ea⟩ : ∃ a, a = g0.objs.size + 1 := ⟨_, rfl⟩
  obtain ⟨g1, eg⟩ : ∃ g1, g1 = (g0.push (PySem.W.kdv_tup us)).push (PySem.HandSPX.excO C g0.objs.size) := ⟨_, rfl⟩
  have old : g0.objs.size ≤ a := by omega
  have keep : ∀ b o, g0.get? b = some o → g1.get? b = some o := fun b o q => by rw [eg]; exact Heap.get?_push_of_some _ (Heap.get?_push_of_some _ q)
  have there : g1.get? a = some (PySem.HandSPX.excO C g0.objs.size) := by rw [eg, ea]; heap_get
  have free1 : H1 a = none := I1.hok.fresh old
  have ask1 := ask a free1
  rw [List.append_nil] at ask1
  have I2 : Inv X pins σ (upd H1 a (exo a C none)) ⟨g1, gs, dr, tk, os⟩ := I1.laid (t' := tk) (a := a) (o := exo a C none) (h' := g1) keep old (exo_ok there)
  have rel : Vals (V.ref a :: vs) (Value.ref a :: us) := .cons rfl r1
  have cnt : (Value.ref a :: us ++ []).length = ps.length := by rw [List.append_nil, ← rel.length]; exact F1.len _ _ _ _ ask1
  have fits : us.length ≤ sizeLine := by rw [← Paired.length r1, sizeLine_eq]; omega
  have binds := hb ⟨g1, gs, dr, tk, os⟩ (Value.ref a :: us) I2.kIn cnt
  rw [List.append_nil] at binds
  have run := F1.run _ X.stack _ _ ⟨Value.ref a :: us, []⟩ (Value.ref a :: us) _ _ (fun _ _ _ => False) (room.make C us []) (I2.env0.make C us []) binds rel ask1
  subst ea eg
  refine wpAny_call (PySem.HandSPX.call_own F.excBase_ValueError (fun Y => PySem.HandSPX.refsVE_contains Y bm ve) (I1.kIn _ _ clsAt) (PySem.W.looks_findIn I1.kIn iC) (fun self => PySem.W.bind_fn I1.kIn self tI) fits (codeAny_mono run fun r s2 out => ?_))
  match r, out with
  | .error er, out => exact hx pins σ _ _ er s2 I2 out
  | .ok .next, out => exact out.elim
  | .ok .brk, out => exact out.elim
  | .ok .cont, out => exact out.elim
  | .ok (.ret u), ⟨v, H2, os2, bare2, un2, hok2, rv, ev, d, fs, ea, ed, hd1, q2⟩ =>
    subst ev
    obtain ⟨h2, g2, d2, t2, os3⟩ := s2
    obtain ⟨t0, G, J, kG, ge, hoe, na⟩ := mk_end0 (d2 := d2) (t2 := t2) I1 old keep un2 hok2 os2 bare2 ea ed hd1
    exact ⟨rv, _, _, _, ⟨G, g2, d2, t2, os3⟩, _, .ref C, some d, rfl, J, kG, ge, hoe, ⟨rfl, rfl, fun ws hw => by cases hw; rfl⟩, rfl, rfl, na, rfl, bare2, raises_own T.exC T.tyC, q2⟩
end
section
variable {P : Program} {w : World} {K : PySem.W.Frag} {mg : Str → Option Value} {hb : Heap}
/-- .. its __init__, run while another refusal is handled -/
theorem ini_fnH {qual base : Str} {st : Stmt} {fI C B : Addr} {fd : FuncData} {fs : List Str} (F : Fun K "__init__" qual st fI fd) (Sc : FnScope (("self" : Str) :: fs) (("self" : Str) :: fs) (defScope st)) (T : OexC K C) (hfs : fs ≠ []) (hl : fs.length < 100)
    (hi : isIni base fs (defBody st) = true) (hloc : (((("self" : Str) :: fs).all fun f => decide ((defScope st).names.lookup f = some .local) && !dbg f && !dcl f) && isGl (defScope st) base) = true) (hno : ∀ f ∈ fs, PySem.W.findIn K (.ref C) f = some none)
    (hm : mg base = some (.ref B)) (b : BaseAt K B) : L2H.FnH P w K mg hb L2.CX0 1 fI fd (("self" : Str) :: fs) (spIni C fs) := by
  rw [Bool.and_eq_true] at hloc
  obtain ⟨hloc, hgl⟩ := hloc
  have loc : ∀ f ∈ (("self" : Str) :: fs), (defScope st).names.lookup f = some .local ∧ dbg f = false ∧ dcl f = false := fun f hf => by
    have := List.all_eq_true.mp hloc f hf
    simp only [Bool.and_eq_true, decide_eq_true_eq, Bool.not_eq_true'] at this
    exact ⟨this.1.1, this.1.2, this.2⟩
  unfold isGl at hgl
  simp only [Bool.and_eq_true, Bool.not_eq_true', decide_eq_true_eq] at hgl
  obtain ⟨oc, od, kV, doc, pm, an, cdv, ct, osl, rfl, lk, hcd⟩ := F.ex
  refine L2H.fn_ofH lk hcd Sc ?_ ?_
  · rintro vs H Q E ⟨a, ws, rfl, hw, _⟩
    rw [List.length_cons, List.length_cons, hw]
  · rintro A outer s H vs Q E p hot hr ⟨a, ws, rfl, hw, ea, q⟩
    refine ⟨rIni C fs, ini_ok T ⟨rfl, (loc _ List.mem_cons_self).1⟩ hfs hl hi (fun m f hmf => ?_) hgl.2 hgl.1 hm b, ⟨a, ws, rfl, hw, fun m w hmw => ?_, ea, fun d hd ne => q d hd ne⟩⟩
    · have hf := List.mem_of_getElem? hmf
      refine ⟨⟨?_, loc f (List.mem_cons_of_mem _ hf)⟩, hno f hf⟩
      show (("self" : Str) :: fs)[1 + m]? = some f
      rw [show 1 + m = m + 1 by omega, List.getElem?_cons_succ, hmf]
    · unfold L2.start
      have hlt : m < ws.length := (List.getElem?_eq_some_iff.mp hmw).1
      rw [List.getElem?_append_left (by simp; omega), List.getElem?_map, show 1 + m = m + 1 by omega, List.getElem?_cons_succ, hmw]
      rfl
end
end Z

set_option Elab.async false
set_option linter.all false
set_option maxRecDepth 100000
set_option maxHeartbeats 1000000
/-! Z, part KC: f-strings, things made of classes, their methods. -/
namespace Z
open PySem PySem.Spec PyProof.Rows L2
section
variable {S : Stat} {n : Nat} {sc : Scope} {X : Cx} {W : WX}
/-- never come to -/
theorem snd_nev : Snd S .nev where
  e n sc X W ex o c := ⟨fun pins s σ H Q I ⟨a, env, Qd, Xd, eH, sr, er, hb, kq, kx⟩ => hb.elim⟩
  t n sc X W ex o c := ⟨fun pins s σ H Q I ⟨a, env, Qd, Xd, eH, sr, er, hb, kq, kx⟩ => hb.elim⟩
  w n sc X W op es pos o c := ⟨fun wh pins s σ H Q I ⟨a, env, Qd, Xd, eH, sr, er, hb, kq, kx⟩ => hb.elim⟩
  a n sc X W es o c := by cases c
  i n sc X W tg ex o c := ⟨fun pins s σ H R I ⟨a, env, Qd, Xd, eH, sr, er, hb, kq, kx⟩ => hb.elim⟩
  p n sc X W ob o c := ⟨fun pins s σ H Q I ⟨a, env, Qd, Xd, eH, sr, er, hb, kq, kx⟩ => hb.elim⟩
/-! ### f-strings -/
noncomputable def tFp (S : Stat) (p : Fp) : TE := fun σ H Q => ∃ (a : Pt) (env : Env) (x : Z.D) (y : Str), a.H = H ∧ SR S.K S.cl a ∧ ER S.K a env σ ∧ fpD env a.h p = some x ∧ fmtD x = some y ∧ ∀ b : Pt, a.Le b → SR S.K S.cl b → b.h = a.h → Q (.str y) b.H
theorem fmt_of {K : PySem.W.Frag} {a : Pt} {x : Z.D} {y : Str} {v : V} (r : VR K a x v) (e : fmtD x = some y) {R : V → Prop} (h : R (.str y)) : (∃ z : Str, v = .str z ∧ z.length ≤ sizeLine ∧ R (.str z)) ∨ ∃ i : Int, v = .int i ∧ i.natAbs.log2 < 1920 ∧ R (.str (toString i)) := by
  cases r with
  | str z =>
    have e : (if line z.length then some z else none) = some y := e
    split at e
    · rename_i hl; cases e; exact .inl ⟨_, rfl, line_le hl, h⟩
    · cases e
  | int i =>
    have e : (if i.natAbs.log2 < 1920 then some ((toString i : String) : Str) else none) = some y := e
    split at e
    · rename_i hl; cases e; exact .inr ⟨_, rfl, hl, h⟩
    · cases e
  | _ => cases e
theorem fp_pe (o : XOk S n sc X W) {p : Fp} {e : Expr} (h : fpC S.nm X.N sc p e = true) : PE X e (tFp S p) := by
  cases p with
  | lit x =>
    cases e with
    | Constant k _ _ =>
      cases k with
      | str z =>
        obtain rfl : x = z := of_decide_eq_true h
        refine impE pe_str fun σ H Q ⟨a, env, x2, y, eH, sr, er, e1, e2, q⟩ => ?_
        subst eH
        cases (show some (Z.D.str x) = some x2 from e1)
        have e2 : (if line x.length then some x else none) = some y := e2
        split at e2
        · cases e2; exact q a Pt.Le.rfl sr rfl
        · cases e2
      | _ => cases h
    | _ => cases h
  | v i =>
    have shp : ∃ x q pos, e = .FormattedValue (.Name x q) (-1) none pos ∧ isSlot X.N sc x i = true := by
      unfold fpC at h
      simp only at h
      split at h
      · exact ⟨_, _, _, rfl, h⟩
      · cases h
    obtain ⟨x, q, pos, rfl, hs⟩ := shp
    refine impE (pe_fmt ((snd_v (S := S) i).e n sc X W (.Name x q) o hs)) fun σ H Q ⟨a, env, x2, y, eH, sr, er, e1, e2, q⟩ => ?_
    refine ⟨a, env, fun d h => d = x2 ∧ h = a.h, fun _ _ => False, eH, sr, er, ?_, fun b d v l s r ⟨ed, eh⟩ => ?_, fun _ _ _ _ _ _ _ z => z.elim⟩
    · show bnd ((vget env i).map (·, a.h)) _
      rw [show vget env i = some x2 from e1]
      exact ⟨rfl, rfl⟩
    · subst ed
      exact fmt_of (R := fun v => Q v b.H) r e2 (q b l s eh)
  | fld i f =>
    have shp : ∃ x q p2 pos, e = .FormattedValue (.Attribute (.Name x q) f p2) (-1) none pos ∧ isSlot X.N sc x i = true ∧ S.nm.fld.contains f = true := by
      unfold fpC at h
      simp only at h
      split at h
      · simp only [Bool.and_eq_true, decide_eq_true_eq] at h
        obtain ⟨⟨h1, rfl⟩, h2⟩ := h
        exact ⟨_, _, _, _, rfl, h1, h2⟩
      · cases h
    obtain ⟨x, q, p2, pos, rfl, hs, hf⟩ := shp
    have hc : (ck S.nm X.N (.fld (.v i) f)).e sc (.Attribute (.Name x q) f p2) = true := by
      show (recvOk (.Name x q) && isSlot X.N sc x i && decide (f = f) && S.nm.fld.contains f) = true
      rw [hs, hf, decide_eq_true rfl]
      rfl
    refine impE (pe_fmt ((snd_fld (f := f) (snd_v (S := S) i)).e n sc X W _ o hc)) fun σ H Q ⟨a, env, x2, y, eH, sr, er, e1, e2, q⟩ => ?_
    refine ⟨a, env, fun d h => d = x2 ∧ h = a.h, fun _ _ => False, eH, sr, er, ?_, fun b d v l s r ⟨ed, eh⟩ => ?_, fun _ _ _ _ _ _ _ z => z.elim⟩
    · show bnd ((vget env i).map (·, a.h)) (fun x h1 => bnd (fldD f x h1) _)
      obtain ⟨x0, e3, e4⟩ := Option.bind_eq_some_iff.mp (show ((vget env i).bind fun x => (fldD f x a.h).map (·.1)) = some x2 from e1)
      obtain ⟨⟨d1, h1⟩, e5, e6⟩ := Option.map_eq_some_iff.mp e4
      rw [e3]
      show bnd (fldD f x0 a.h) _
      have hh : h1 = a.h := by
        cases x0 with
        | ref m =>
          have e5 : (match a.h[m]? with
            | some (.exc _ fs) => (fs.lookup f).map (·, a.h)
            | some (.ins _ fs) => (fs.lookup f).map (·, a.h)
            | _ => none) = some (d1, h1) := e5
          split at e5
          · obtain ⟨_, _, z⟩ := Option.map_eq_some_iff.mp e5; cases z; rfl
          · obtain ⟨_, _, z⟩ := Option.map_eq_some_iff.mp e5; cases z; rfl
          · cases e5
        | _ => cases e5
      rw [e5]
      exact ⟨e6, hh⟩
    · subst ed
      exact fmt_of (R := fun v => Q v b.H) r e2 (q b l s eh)
theorem fps_pj (o : XOk S n sc X W) : ∀ {ps : List Fp} {es : List Expr}, fpsC S.nm X.N sc ps es = true → PJ X es (ps.map (tFp S))
  | [], [], _ => .nil
  | p :: ps, e :: es, h => by
    have h : (fpC S.nm X.N sc p e && fpsC S.nm X.N sc ps es) = true := h
    rw [Bool.and_eq_true] at h
    exact .cons (fp_pe o h.1) (fps_pj o h.2)
  | [], _ :: _, h => by cases h
  | _ :: _, [], h => by cases h
theorem fps_run {env : Env} {σ : L2.St} {F : Str → Hp → Prop} : ∀ {ps : List Fp} {acc z : Str} {a : Pt}, SR S.K S.cl a → ER S.K a env σ → fsD env a.h ps acc = some z → (∀ b : Pt, a.Le b → SR S.K S.cl b → b.h = a.h → F z b.H) → tJs (ps.map (tFp S)) acc σ a.H F
  | [], acc, z, a, sr, er, e, k => by
    cases (show some acc = some z from e)
    exact k a Pt.Le.rfl sr rfl
  | p :: ps, acc, z, a, sr, er, e, k => by
    obtain ⟨x, e1, e2⟩ := Option.bind_eq_some_iff.mp (show ((fpD env a.h p).bind fun x => (fmtD x).bind fun y => (catS acc y).bind fun z => fsD env a.h ps z) = some z from e)
    obtain ⟨y, e3, e4⟩ := Option.bind_eq_some_iff.mp e2
    obtain ⟨w, e5, e6⟩ := Option.bind_eq_some_iff.mp e4
    refine ⟨a, env, x, y, rfl, sr, er, e1, e3, fun b l s eh => ?_⟩
    have e5 : (if line (acc ++ y).length then some (acc ++ y) else none) = some w := e5
    split at e5
    · rename_i hl
      cases e5
      refine ⟨y, rfl, line_le hl, fps_run s (er.mono l) (by rw [eh]; exact e6) fun c l2 s2 eh2 => k c (l.trans l2) s2 (eh2.trans eh)⟩
    · cases e5
theorem snd_fs {ps : List Fp} : Snd S (.fs ps) := by
  refine Snd.ofVal' (fun _ => rfl) (fun _ => ⟨fun _ _ => rfl, fun _ _ _ => rfl, fun _ o => by cases o <;> rfl⟩) (fun _ _ _ _ _ => rfl) (fun N sc ex env c w => ?_) (fun n sc X W ex o c => ?_)
  · cases ex <;> first | rfl | cases c
  · cases ex with
    | JoinedStr vs pos =>
      match vs, c with
      | v1 :: v2 :: r, c =>
        refine impE (pe_joined (fps_pj o (show fpsC S.nm X.N sc ps (v1 :: v2 :: r) = true from c))) fun σ H Q ⟨a, env, Qd, Xd, eH, sr, er, hb, kq, kx⟩ => ?_
        subst eH
        obtain ⟨d, h', e, hq⟩ := bndE1 hb
        obtain ⟨z, e1, e2⟩ := Option.map_eq_some_iff.mp e
        cases e2
        exact fps_run sr er e1 fun b l s eh => kq b (.str z) (.str z) l s (.str z) (by rw [eh]; exact hq)
      | [_], c => cases c
      | [], c => cases c
    | _ => cases c
/-! ### things made of classes -/
theorem mthAt_some {p : Pg} {c m : Str} {f : Nat} (h : p.mthAt c m = some f) : ∃ k, p.mth[k]? = some (c, m) ∧ f = p.ng + k := by
  obtain ⟨k, h1, h2⟩ := Option.map_eq_some_iff.mp (show (p.mth.findIdx? fun q => decide (q = (c, m))).map (p.ng + ·) = some f from h)
  obtain ⟨h3, h4, _⟩ := List.findIdx?_eq_some_iff_getElem.mp h1
  exact ⟨k, by rw [List.getElem?_eq_getElem h3, of_decide_eq_true h4], h2.symm⟩
theorem mk_run {CX : CXT} {k : Nat} {C f : Addr} {fd : FuncData} {ps : List Str} {sp : Sp} {E : L2.St → XK} {pins : List (Addr × PySem.Obj)} {σ : L2.St} {H : Hp} {s : Shared} {Q : VK} {us : List Value} {vs : List V} (mk : Mk X.K C f) (fo : FnOk X.prog X.w X.K X.mg X.base CX k f fd ps sp)
    (rm : Room (k + 1) X.A) (bd : Binds X.K fd ps []) (px : PassesAt CX X σ (E σ)) (J : Inv X pins σ H s) (rv : Vals vs us)
    (hyp : ∀ x dx, H x = none → H dx = none → dx ≠ x → sp (.ref x :: vs) (upd (upd H dx (.own x)) x (.ins C dx [])) (fun v H2 => v = .non ∧ Q (.ref x) H2) (E σ)) :
    wpAny (model X.prog X.w) X.A (call (.ref C) us) (EP X pins σ Q) X.xe s := by
  have ready := hyp (s.heap.objs.size + 1) s.heap.objs.size (J.hok.fresh (Nat.le_succ _)) (J.hok.fresh (Nat.le_refl _)) (Nat.ne_of_lt (Nat.lt_succ_self _))
  have J2 := Inv.made (C := C) J
  have rv2 : Vals (V.ref (s.heap.objs.size + 1) :: vs) (Value.ref (s.heap.objs.size + 1) :: us) := .cons rfl rv
  have len : (Value.ref (s.heap.objs.size + 1) :: us).length = ps.length := by rw [← rv2.length]; exact fo.len _ _ _ _ ready
  have bound := bd _ (Value.ref (s.heap.objs.size + 1) :: us) J2.kIn (by rw [List.append_nil]; exact len)
  rw [List.append_nil] at bound
  refine wpAny_call (make_map (f := f) J.kIn mk.makes mk.init (beq_iff_eq.mp mk.fn) (codeAny_mono (fo.run _ X.stack _ _ ⟨Value.ref (s.heap.objs.size + 1) :: us, []⟩ _ _ _ (E σ) (rm.make C us []) (J2.env0.make C us []) bound rv2 ready) fun end1 s' got => ?_))
  match end1, got with
  | .error e, got => exact px pins _ _ e s' J2 got
  | .ok (.ret u), got =>
    obtain ⟨v, H', J3, rv', rfl, q3⟩ := J2.after got
    exact ⟨rv', V.ref (s.heap.objs.size + 1), H', J3, rfl, q3⟩
theorem arg_nil {es : E} {g : G} {N : List Str} {env : Env} {h : Hh} {Qd : List Z.D → Hh → Prop} {Xd : KX} (z : (sem g es).arg env h Qd Xd) (ce : (ck S.nm N es).a sc [] = true) : Qd [] h := by
  cases es with
  | nil => exact z
  | cons _ _ => cases ce
  | _ => exact z.elim
/-- what is told ahead of __init__ -/
theorem mk_imp {f : Nat} {c : Str} {C : Addr} {b : Pt} {ds : List Z.D} {vs : List V} {Qd : KD} {Xd : KX} {Q : VK} {E : XK} (hC : S.cl c = some C) (cc : L2.Cls S.K C) (s : SR S.K S.cl b) (r : VRs S.K b ds vs)
    (q : S.pg.run n f (.ref b.h.length :: ds) (b.h ++ [O.ins c []]) (fun d h2 => isNon d = true ∧ Qd (.ref b.h.length) h2) Xd) (kq : KQ S.K S.cl b Qd Q) (kx : KXQ S.K S.cl b Xd E) (x dx : Addr) (hx : b.H x = none) (hdx : b.H dx = none) (ne : dx ≠ x) :
    spF S n f (.ref x :: vs) (upd (upd b.H dx (.own x)) x (.ins C dx [])) (fun v H2 => v = .non ∧ Q (.ref x) H2) E := by
  have l1 : b.Le (b.side dx (.own x)) := Pt.side_le hdx
  have hx2 : (b.side dx (.own x)).H x = none := by
    show upd b.H dx _ x = none
    rw [upd_ne fun z => ne z.symm]
    exact hx
  have l2 : (b.side dx (.own x)).Le ((b.side dx (.own x)).lay x (.ins c []) (.ins C dx [])) := Pt.lay_le hx2
  have l := l1.trans l2
  have at0 : ((b.side dx (.own x)).lay x (.ins c []) (.ins C dx [])).ρ b.h.length = x := Pt.lay_at (a := b.side dx (.own x))
  have s2 : SR S.K S.cl ((b.side dx (.own x)).lay x (.ins c []) (.ins C dx [])) := (s.side hdx).lay hx2 ⟨C, dx, [], hC, cc, upd_same, .nil⟩
  refine ⟨(b.side dx (.own x)).lay x (.ins c []) (.ins C dx []), .ref b.h.length :: ds, _, Xd, rfl, s2, .cons ?_ (r.mono l), q, fun b3 d v l3 s3 rv z => ?_, kx.mono l⟩
  · have := VR.ref (K := S.K) (a := (b.side dx (.own x)).lay x (.ins c []) (.ins C dx [])) (n := b.h.length) (by show _ < (b.h ++ [_]).length; simp)
    rwa [at0] at this
  · cases d with
    | non =>
      cases rv
      refine ⟨rfl, kq b3 (.ref b.h.length) (.ref x) (l.trans l3) s3 ?_ z.2⟩
      have hlt : b.h.length < b3.h.length := Nat.lt_of_lt_of_le (by show _ < (b.h ++ [_]).length; simp) l3.n
      have := VR.ref (K := S.K) (a := b3) hlt
      rwa [l3.r _ (by show _ < (b.h ++ [_]).length; simp), at0] at this
    | _ => cases z.1
theorem snd_mk {c : Str} {es : E} (ha : Snd S es) : Snd S (.mk c es) := by
  refine Snd.ofVal' (fun _ => rfl) (fun _ => ⟨fun _ _ => rfl, fun _ _ _ => rfl, fun _ o => by cases o <;> rfl⟩) (fun _ _ _ _ _ => rfl) (fun N sc ex env c w => ?_) (fun n sc X W ex o ch => ?_)
  · cases ex <;> first | rfl | cases c
  · cases ex with
    | Call fn ys kws p =>
      cases fn with
      | Name x q =>
        cases kws with
        | cons _ _ => cases ch
        | nil =>
          have ch : (!S.nm.cold && decide (x = c) && isGl sc x && S.nm.mks.contains c && (ck S.nm X.N es).a sc ys) = true := ch
          simp only [Bool.and_eq_true, decide_eq_true_eq, List.contains_iff_mem, Bool.not_eq_true'] at ch
          obtain ⟨⟨⟨⟨c0, rfl⟩, c2⟩, c3⟩, c4⟩ := ch
          have hp := ck_plain _ _ _ _ _ c4
          obtain ⟨h1, h2⟩ := o.gl c2
          obtain ⟨C, k1, k2, k3, k4, k5, k6⟩ := (o.tx.mks x c3).ok
          have hA := ha.a n sc X W ys o c4
          have hm : X.mg x = some (.ref C) := by rw [o.mg]; exact k3
          have kK : PySem.W.keepIn X.K (.ref C) = true := by rw [o.K]; exact k6
          -- behind the arguments
          have fin : ∀ (pins : List (Addr × PySem.Obj)) (s1 : Shared) (σ : L2.St) (Q : VK) (b : Pt) (ds : List Z.D) (vs : List V) (us : List Value) (Qd : KD) (Xd : KX), Inv X pins σ b.H s1 → Vals vs us → SR S.K S.cl b → VRs S.K b ds vs →
              mthQ (S.pg.mthAt x "__init__") (fun f => S.pg.run n f (.ref b.h.length :: ds) (b.h ++ [O.ins x []]) (fun d h2 => isNon d = true ∧ Qd (.ref b.h.length) h2) Xd) → KQ S.K S.cl b Qd Q → KXQ S.K S.cl b Xd (fun c d H => W c d σ H) →
              wpAny (model X.prog X.w) X.A (call (.ref C) us) (EP X pins σ Q) X.xe s1 := fun pins s1 σ Q b ds vs us Qd Xd I1 rv s r q kq kx => by
            cases hf : S.pg.mthAt x "__init__" with
            | none => rw [hf] at q; exact q.elim
            | some f =>
              rw [hf] at q
              obtain ⟨k, e1, e2⟩ := mthAt_some hf
              subst e2
              obtain ⟨C', fa, fd, ps, m1, m2, m3, m4, m5⟩ := (o.mths k x "__init__" e1).ok
              rw [k1] at m1
              cases m1
              rw [← o.P, ← o.w, ← o.K, ← o.mg, ← o.base] at m5
              have M : Mk X.K C fa := ⟨by rw [o.K]; exact k5, by rw [o.K]; exact m3.at_, by rw [o.K]; exact m3.fn, kK⟩
              exact mk_run (E := WE W) M m5 (o.room.mono (by omega)) (by rw [o.K]; exact m4) (passAt (o.take c0) σ) I1 rv fun x' dx hx hdx ne => mk_imp k1 k4 s r q kq kx x' dx hx hdx ne
          refine ⟨fun pins s σ H Q I ⟨a, env, Qd, Xd, eH, sr, er, hb, kq, kx⟩ => ?_⟩
          refine wpAny_Call_Name_kw (ld_glob I h1 hm ?_ h2)
          cases ys with
          | nil =>
            subst eH
            exact PySem.W.callWith_K0 I.kIn kK (fin pins _ σ Q a [] [] [] Qd Xd (I.tok _) .nil sr .nil (arg_nil (show (sem _ es).arg env a.h _ _ from hb) c4) kq kx)
          | cons y ys =>
            rw [List.all_cons, Bool.and_eq_true] at hp
            refine PySem.W.callWith_K (h₀ := X.base) I.ok.mod.kin kK (thn (hA.run p pins _ σ H (fun vs H1 => ∃ b ds, b.H = H1 ∧ a.Le b ∧ SR S.K S.cl b ∧ VRs S.K b ds vs ∧ mthQ (S.pg.mthAt x "__init__") (fun f => S.pg.run n f (.ref b.h.length :: ds) (b.h ++ [O.ins x []]) (fun d h2 => isNon d = true ∧ Qd (.ref b.h.length) h2) Xd)) I
              ⟨a, env, _, Xd, eH, sr, er, hb, fun b ds vs l s r q => ⟨b, ds, rfl, l, s, r, q⟩, kx⟩) fun us s1 ⟨vs, H1, I1, r, b, ds, eH1, l, s, rd, q⟩ => ⟨I1.kIn, ?_⟩) (star_plain hp.1 _ _) (back_any _ _ _ hp.2)
            subst eH1
            exact fin pins _ σ Q b ds vs us Qd Xd I1 r s rd q (kq.mono l) (kx.mono l)
      | _ => cases ch
    | _ => cases ch
/-! ### o.m(..) -/
theorem clsOf_some {m c : Str} {d : Z.D} {h : Hh} (e : clsOf m d h = some c) : ∃ k fs, d = .ref k ∧ h[k]? = some (.ins c fs) ∧ fs.lookup m = none := by
  cases d with
  | ref k =>
    have e : (match h[k]? with
      | some (.ins c fs) => if (fs.lookup m).isNone then some c else none
      | _ => none) = some c := e
    split at e
    · rename_i c0 fs hk
      split at e
      · rename_i hn
        cases e
        exact ⟨k, fs, rfl, hk, Option.isNone_iff_eq_none.mp hn⟩
      · cases e
    · cases e
  | _ => cases e
theorem kvr_none {K : PySem.W.Frag} {a : Pt} {f : Str} {fs : List (Str × Z.D)} {ws : List (Str × V)} (r : KVR K a fs ws) (e : fs.lookup f = none) : ws.lookup f = none := by
  induction r with
  | nil => rfl
  | @cons x y xs ys hh _ ih =>
    obtain ⟨x1, x2⟩ := x
    obtain ⟨y1, y2⟩ := y
    obtain ⟨e1, e2⟩ := hh
    dsimp only at e1 e2
    subst e1
    rw [List.lookup_cons] at e ⊢
    split at e
    · cases e
    · exact ih e
theorem snd_cm {q : E} {m : Str} {es : E} (hq : Snd S q) (ha : Snd S es) : Snd S (.cm q m es) := by
  refine Snd.ofVal' (fun _ => rfl) (fun _ => ⟨fun _ _ => rfl, fun _ _ _ => rfl, fun _ o => by cases o <;> rfl⟩) (fun _ _ _ _ _ => rfl) (fun N sc ex env c w => ?_) (fun n sc X W ex o c => ?_)
  · cases ex <;> first | rfl | cases c
  · cases ex with
    | Call fn ys kws cp =>
      cases fn with
      | Attribute o' x ap =>
        cases kws with
        | cons _ _ => cases c
        | nil =>
          have c : (!S.nm.cold && decide (x = m) && (ap.endLine == cp.line) && recvOk o' && (ck S.nm X.N q).e sc o' && decide (ys.length < 20) && (ck S.nm X.N es).a sc ys) = true := c
          simp only [Bool.and_eq_true, decide_eq_true_eq, Bool.not_eq_true'] at c
          obtain ⟨⟨⟨⟨⟨⟨c0, rfl⟩, c2⟩, c3⟩, c4⟩, c5⟩, c6⟩ := c
          have hp := ck_plain _ _ _ _ _ c6
          have ho := hq.e n sc X W o' o c4
          have hA := ha.a n sc X W ys o c6
          have ht := mcall_eq (m := x) (ap := ap) (pos := cp) (recv_base c3 x X.env) hp c5 c2
          refine ⟨fun pins s σ H Q I ⟨a1, env, Qd, Xd, eH, sr, er, hb, kq, kx⟩ => ?_⟩
          refine PySem.W.methodCall_KW (thn (ho.run pins s σ H (fun v H1 => ∃ b d, b.H = H1 ∧ a1.Le b ∧ SR S.K S.cl b ∧ VR S.K b d v ∧ mthQ ((clsOf x d b.h).bind fun c => S.pg.mthAt c x) fun f => (sem (S.pg.g (S.pg.run n)) es).arg env b.h (fun ds h2 => S.pg.run n f (d :: ds) h2 Qd Xd) Xd) I
            ⟨a1, env, _, Xd, eH, sr, er, hb, fun b d v l s r q => ⟨b, d, rfl, l, s, r, q⟩, kx⟩) fun u s1 ⟨v, H1, I1, r1, b, d, eH1, l, sb, rv, q2⟩ => ?_) ht
          subst eH1
          cases hf : (clsOf x d b.h).bind fun c => S.pg.mthAt c x with
          | none => rw [hf] at q2; exact q2.elim
          | some f =>
            rw [hf] at q2
            have q2 : (sem (S.pg.g (S.pg.run n)) es).arg env b.h (fun ds h2 => S.pg.run n f (d :: ds) h2 Qd Xd) Xd := q2
            obtain ⟨cn, f1, f2⟩ := Option.bind_eq_some_iff.mp hf
            obtain ⟨k, fs, rfl, e1, e2⟩ := clsOf_some f1
            obtain ⟨j, e3, rfl⟩ := mthAt_some f2
            obtain ⟨C, fa, fd, ps, m1, m2, m3, m4, m5⟩ := (o.mths j cn x e3).ok
            obtain ⟨C', dx, ws, g1, g2, g3, g4⟩ := sb.obj k _ e1
            rw [m1] at g1
            cases g1
            rw [← o.P, ← o.w, ← o.K, ← o.mg, ← o.base] at m5
            have g2' : L2.Cls X.K C := by rw [o.K]; exact g2
            have m3' : L2.Meth X.K C x fa := by rw [o.K]; exact m3
            have m4' : Binds X.K fd ps [] := by rw [o.K]; exact m4
            cases rv with
            | ref hk =>
              obtain rfl : u = Value.ref (b.ρ k) := r1
              refine getmeth_ok I1 g3 g2' m3' (kvr_none g4 e2) ?_
              have spf : ∀ (b2 : Pt) (ds : List Z.D) (vs : List V), b.Le b2 → SR S.K S.cl b2 → VRs S.K b2 ds vs → S.pg.run n (S.pg.ng + j) (.ref k :: ds) b2.h Qd Xd → spF S n (S.pg.ng + j) (.ref (b.ρ k) :: vs) b2.H Q (fun c d H => W c d σ H) := fun b2 ds vs l2 s2 r2 q3 =>
                ⟨b2, .ref k :: ds, Qd, Xd, rfl, s2, .cons ((VR.ref (K := S.K) hk).mono l2) r2, q3, kq.mono (l.trans l2), kx.mono (l.trans l2)⟩
              cases ys with
              | nil =>
                exact PySem.W.callWith_K0 (first := [.ref (b.ρ k)]) I1.kIn m3'.kp (run_fnS (E := WE W) (us := [.ref (b.ρ k)]) (vs := [.ref (b.ρ k)]) m5 (o.room.mono (by omega)) m4' (passAt (o.take c0) σ) I1 (.cons rfl .nil) (spf b [] [] Pt.Le.rfl sb .nil (arg_nil q2 c6)))
              | cons y ys =>
                rw [List.all_cons, Bool.and_eq_true] at hp
                refine PySem.W.callWith_K (first := [.ref (b.ρ k)]) (h₀ := X.base) I1.ok.mod.kin m3'.kp (thn (hA.run cp pins _ σ b.H (fun vs H2 => spF S n (S.pg.ng + j) (.ref (b.ρ k) :: vs) H2 Q (fun c d H => W c d σ H)) I1 ⟨b, env, _, Xd, rfl, sb, er.mono l, q2, fun b2 ds vs l2 s2 r2 q3 => spf b2 ds vs l2 s2 r2 q3, kx.mono l⟩)
                  fun us s2 ⟨vs, H2, I2, r, q3⟩ => ⟨I2.kIn, ?_⟩) (star_plain hp.1 _ _) (back_any _ _ _ hp.2)
                exact run_fnS (E := WE W) (us := .ref (b.ρ k) :: us) (vs := .ref (b.ρ k) :: vs) m5 (o.room.mono (by omega)) m4' (passAt (o.take c0) σ) I2 (.cons rfl r) q3
            
      | _ => cases c
    | _ => cases c
end
end Z

set_option Elab.async false
set_option linter.all false
set_option maxRecDepth 100000
/-! Z, part L: enumerate over a tuple. -/
namespace Z
open PySem PySem.Spec PyProof.Rows L2
open Sem (wp)

set_option maxHeartbeats 1000000 in
theorem enumT_meets {v : Value} {o : PySem.Obj} {Hy : Heap → Prop} (B : Begins v o Hy) :
    Meets (Builtin.«enumerate.__new__» ⟨[.type "enumerate", v], []⟩) (fun _ R s => Hy s.heap ∧
      R (.ok (.ret (.ref (s.heap.push o).objs.size))) { s with heap := (s.heap.push o).push { cls := .type "enumerate", data := .fields #[.none, .bool false, .ref s.heap.objs.size, rawInt 0, .none, .none] } }) :=
  .of_wp fun prog w A R s h => by
    obtain ⟨hp, g, d, tk, os⟩ := s
    obtain ⟨h1, h⟩ := h
    have hsub := sub_enumerate
    have q1 : ∀ {A' : Around} {E : Value → Shared → Prop} {Q : Value → Shared → Prop}, Q (.ref hp.objs.size) ⟨hp.push o, g, d, tk, os⟩ → wpAny (model prog w) A' (pyIter v) Q E ⟨hp, g, d, tk, os⟩ :=
      fun q => B.iter prog w _ _ ⟨hp, g, d, tk, os⟩ _ h1 q
    wp_walk using q1
    refine wpAny_stack_any fun st => wpAny_pure ?_
    split
    · rename_i c _ _ _ _ _
      cases (c == Value.type "enumerate")
      · wp_walk using q1
        exact ⟨_, rfl, h⟩
      · wp_walk using q1
        exact ⟨_, rfl, h⟩
    · wp_walk using q1
      exact ⟨_, rfl, h⟩
section
variable {prog : Program} {w : World} {A : Around} {E : Value → Shared → Prop} {s : Shared}
theorem enumT_call {v : Value} {o : PySem.Obj} {Hy : Heap → Prop} {Q : Value → Shared → Prop} (B : Begins v o Hy) (h1 : Hy s.heap)
    (h : ∀ h', IsEnum h' (s.heap.objs.size + 1) s.heap.objs.size 0 .none → h'.get? s.heap.objs.size = some o → (∀ b u, s.heap.get? b = some u → h'.get? b = some u) →
      Q (.ref (s.heap.objs.size + 1)) { s with heap := h' }) : wpAny (model prog w) A (call (.type "enumerate") [v]) Q E s := by
  refine callType_new F.called_enumerate (by decide) (F.typeCall_enumerate_1 _) (F.newCall_enumerate_1 _) (fun obj => F.args_object_init_2 obj _) F.entry_enumerate_new
    (enumT_meets B) ⟨h1, ?_⟩
  have hz : (s.heap.push o).objs.size = s.heap.objs.size + 1 := Heap.size_push ..
  have he : IsEnum ((s.heap.push o).push { cls := .type "enumerate", data := .fields #[.none, .bool false, .ref s.heap.objs.size, rawInt 0, .none, .none] }) (s.heap.objs.size + 1) s.heap.objs.size 0 .none := by
    have q := Heap.get?_push_size (s.heap.push o) (o := { cls := .type "enumerate", data := .fields #[.none, .bool false, .ref s.heap.objs.size, rawInt 0, .none, .none] }) rfl
    rw [hz] at q
    exact q
  show _ ∧ _
  rw [hz]
  exact ⟨⟨_, he, rfl⟩, h _ he (Heap.get?_push_of_some _ (Heap.get?_push_size _ B.free)) fun b u x => Heap.get?_push_of_some _ (Heap.get?_push_of_some _ x)⟩
end
noncomputable def IteT (K : PySem.W.Frag) (a : Addr) : It :=
  ⟨fun i H => ∃ (xs : List V) (x : V), SqT K H a xs ∧ xs[i]? = some x, fun i H v H' => ∃ T x, v = .ref T ∧ H T = none ∧ H' = upd H T (.tup [.int (i : Nat), x]) ∧ ∀ xs, SqT K H a xs → xs[i]? = some x, fun i H => ∃ xs : List V, SqT K H a xs ∧ xs.length ≤ i⟩
theorem turn_enumT {P : Program} {w : World} {K : PySem.W.Frag} {elts : List Expr} {kk : Nat} {tpos : Pos} (a e it : Addr) :
    Turn P w K (.Tuple elts kk tpos) (IteT K a) [e, it] e (fun i h => (∃ old, IsEnum h e it ((i : Nat) : Int) old) ∧ h.IsTupleIter it a i ∧ e ≠ it) where
  mem := by simp
  obj := fun i h st b hb => by
    obtain ⟨⟨old, he⟩, ⟨o, ho, hc, hd⟩, _⟩ := st
    have e' : b = e ∨ b = it := by simpa using hb
    rcases e' with z | z
    · subst z
      exact ⟨_, he, fun _ q => nomatch q⟩
    · subst z
      exact ⟨o, ho, fun _ q => by
        rw [hd] at q
        cases q⟩
  keep := fun i h h' st k => by
    obtain ⟨⟨old, he⟩, hi, hne⟩ := st
    exact ⟨⟨old, k e (by simp) _ he⟩, hi.at fun o q => k it (by simp) o q, hne⟩
  item := by
    intro X hP hw hK hc i pins s σ H E I hf st hg
    subst hP hw hK
    obtain ⟨⟨old, he⟩, hit, hne⟩ := st
    obtain ⟨xs, x, hq, hx⟩ := hg
    obtain ⟨its, rv, p, hz⟩ := I.tuple hq
    obtain ⟨u, hu, ru⟩ := rv.get hx
    have ht : s.heap.IsTuple a its.toArray := p
    have hel : e < s.heap.objs.size := Heap.lt_size he
    have hil : it < s.heap.objs.size := by
      obtain ⟨_, q, _⟩ := hit
      exact Heap.lt_size q
    have ait : a ≠ it := fun z => by
      obtain ⟨o1, h1, c1, _⟩ := hit
      obtain ⟨o2, h2, c2, _⟩ := ht
      rw [z, h1] at h2
      cases h2
      rw [c1] at c2
      injection c2 with c3
      exact absurd c3 (by decide)
    have ea : e ≠ a := fun z => by
      obtain ⟨o2, h2, c2, _⟩ := ht
      rw [← z, he] at h2
      cases h2
      injection c2 with c3
      exact absurd c3 (by decide)
    have D := Draws.tuple (prog := X.prog) (w := X.w) (A := X.A.in1) (I.ok.hd hc) it a ait its.toArray
    have hlt : i < its.toArray.size := by simpa using (List.getElem?_eq_some_iff.mp hu).1
    refine wpAny_pyNext_enum_itemD D he ⟨hit, ht⟩ hlt hne (by simp [hne, ea]) fun y h' tk hy ho hst' hT hsz hk => ?_
    have ey : y = u := by
      have : its[i]? = some y := by simpa using hy
      rw [hu] at this
      exact (Option.some.inj this).symm
    subst ey
    refine ⟨_, rfl, wpAny_letOwnedTupleGo_enum (s := { s with heap := h', toks := tk + 1 }) ho fun h'' he' sb => ?_⟩
    have hT2 : h''.get? s.heap.objs.size = some { cls := .type "tuple", data := .seq #[.int i tk, y] } := (sb.2 _ (Nat.ne_of_gt hel)).trans hT
    have new : ObjOk X.prog X.w (upd H s.heap.objs.size (.tup [.int (i : Nat), x])) h'' s.heap.objs.size (.tup [.int (i : Nat), x]) :=
      ⟨by show 2 ≤ sizeLine; decide, [.int i tk, y], .cons ⟨_, rfl⟩ (.cons ru .nil), ⟨_, hT2, rfl, _, rfl⟩⟩
    have I1 : Inv X pins σ (upd H s.heap.objs.size (.tup [.int (i : Nat), x])) { s with heap := h'', toks := tk + 1 } := by
      refine I.turnedNew (ch := [e, it]) (fun b ob hb q => ?_) hf (Nat.le_refl _) new
      exact (sb.2 b (fun z => hb (by simp [z]))).trans (hk b ob (fun z => hb (by simp [z])) (fun z => hb (by simp [z])) q)
    refine ⟨.ref s.heap.objs.size, _, I1, rfl, ⟨_, x, rfl, I.hok.fresh (Nat.le_refl _), rfl, fun ys hy => by rw [I.tuple_inj hy hq]; exact hx⟩, ⟨⟨y, ?_⟩, hst'.1.at fun o q => (sb.2 it (Ne.symm hne)).trans q, hne⟩, fun b hb => ?_⟩
    · rw [show ((i + 1 : Nat) : Int) = (i : Int) + 1 by omega]
      exact he'
    · have hb' : b < s.heap.objs.size := by
        have e' : b = e ∨ b = it := by simpa using hb
        rcases e' with z | z
        · rw [z]; exact hel
        · rw [z]; exact hil
      rw [upd_ne (Nat.ne_of_lt hb')]
      exact (hf b hb).1
  done := by
    intro X hP hw hK hc i pins s σ H E I hf st hg
    subst hP hw hK
    obtain ⟨⟨old, he⟩, hit, hne⟩ := st
    obtain ⟨xs, hq, hx⟩ := hg
    obtain ⟨its, rv, p, hz⟩ := I.tuple hq
    have ht : s.heap.IsTuple a its.toArray := p
    obtain ⟨f0, f1, f2, f3, f4, f5⟩ := hf it (by simp)
    have hT : s.TypeIs (.ref e) "enumerate" := ⟨_, he, rfl⟩
    have hl := rv.length
    unfold pyNext
    refine wpAny_bind (wpAny_attempt (wpAny_callSpecial?_slot (name := Str.ofString "__next__") hT F.slot_enumerate_next
      (wpAny_call_entry F.slot_enumerate_next hT F.entry_enumerate_next ?_ (F.args_enumerate_next_1 _))))
    show wpAny _ _ (field (.ref e) 2 >>= _) _ _ _
    refine wpAny_bind (wpAny_field he rfl (x := .ref it) rfl ?_)
    refine wpAny_bind (wpAny_nextOf_tuple_end (show X.A.in1.handled = none from I.ok.hd hc) hit ht (by simp; omega) fun h' x he' hx' => ?_)
    obtain ⟨o, ho, hcl⟩ := hx'
    refine wpAny_bind (wpAny_isInstance (b := true) (T := "StopIteration") ⟨o, ho, hcl⟩ isSubtype_stop ?_)
    exact wpAny_pure ⟨rfl, I.turned (t' := s.toks) (fun b o hb q => he' b o hb q) f0 f1 f3 f4 f5⟩
  self := fun A i s Q E st h => let ⟨⟨_, he⟩, _⟩ := st; wpAny_pyIter_enum he h
end Z

set_option Elab.async false
set_option linter.all false
set_option maxRecDepth 100000
/-! Z, part M: iterables; the whole of the expressions. -/
namespace Z
open PySem PySem.Spec PyProof.Rows L2
variable {S : Stat}

noncomputable def iEnA (K : PySem.W.Frag) (te : TE) : TI := fun σ H R => te σ H fun v H1 => ∃ p xs, v = .ref p ∧ ((SqL K H1 p xs ∧ R (Ite K p) H1) ∨ (SqT K H1 p xs ∧ R (IteT K p) H1))
theorem pi_enA {X : Cx} {e : Expr} {te : TE} {p pos tpos : Pos} {elts : List Expr} {kk : Nat} (hg : Gl X "enumerate") (hm : X.mg "enumerate" = none) (he : PE X e te) (hs : starEach [e] X.env = (false, eval e X.env) :: starEach [] X.env) :
    PI X (.Tuple elts kk tpos) (.Call (.Name "enumerate" p) [e] [] pos) (iEnA X.K te) := by
  refine ⟨fun pins s σ H R I h => ?_⟩
  refine Call_ (ld_blt I hg hm boot_enumerate (PyProof.Rows.callWith_type1 (args_cons (thn (he.run pins s σ H _ I h) ?_) hs) hs rfl))
  rintro u s1 ⟨v, H1, I1, r1, a, xs, rfl, q⟩
  obtain rfl : u = Value.ref a := r1
  refine args_nil ?_
  have two : ∀ b, b ∈ [s1.heap.objs.size + 1, s1.heap.objs.size] → s1.heap.objs.size ≤ b := fun b hb => by
    have : b = s1.heap.objs.size + 1 ∨ b = s1.heap.objs.size := by simpa using hb
    rcases this with z | z
    · rw [z]; exact Nat.le_succ _
    · rw [z]; exact Nat.le_refl _
  rcases q with ⟨hq, q⟩ | ⟨hq, q⟩
  · obtain ⟨its, rv, p', hz⟩ := I1.list hq
    refine call_enumerate_list p'.isList fun h' he' hit hsz hk => wpAny_pyIter_enum he' ?_
    refine ⟨s1.heap.objs.size + 1, [s1.heap.objs.size + 1, s1.heap.objs.size], _, _, H1, rfl, I1.kept (t' := s1.toks) hk, turn_enum a _ _, ⟨⟨.none, he'⟩, hit, Nat.succ_ne_self _⟩, fun b hb => ?_, q⟩
    exact I1.fpOk (two b hb) (I1.hok.fresh (two b hb))
  · obtain ⟨its, rv, p', hz⟩ := I1.tuple hq
    have ht : s1.heap.IsTuple a its.toArray := p'
    refine enumT_call (begins_tuple a its.toArray) ht fun h' he' hit hk => wpAny_pyIter_enum he' ?_
    refine ⟨s1.heap.objs.size + 1, [s1.heap.objs.size + 1, s1.heap.objs.size], _, _, H1, rfl, I1.kept (t' := s1.toks) hk, turn_enumT a _ _, ⟨⟨.none, he'⟩, ⟨_, hit, rfl, rfl⟩, Nat.succ_ne_self _⟩, fun b hb => ?_, q⟩
    exact I1.fpOk (two b hb) (I1.hok.fresh (two b hb))
theorem walk_enumT {K : PySem.W.Frag} {a : Addr} {xs : List V} : Walk (IteT K a) xs.length (fun H => SqT K H a xs) (YPair (fun i => some (.int (i : Nat))) (fun i => xs[i]?)) := by
  refine ⟨fun i _ hi q => ⟨xs, xs[i], q, by simp [hi]⟩, fun _ q => ⟨xs, q, Nat.le_refl _⟩, fun i H v H' _ q y => ?_⟩
  obtain ⟨T, x, h1, h2, h3, h4⟩ := y
  exact ⟨T, .int (i : Nat), x, h1, h2, h3, rfl, h4 xs q⟩
theorem walk_zipT {K : PySem.W.Frag} {a b : Addr} {xs ys : List V} : Walk (RZ.ItzT K a b) (min xs.length ys.length) (fun H => SqT K H a xs ∧ SqT K H b ys) (YPair (fun i => xs[i]?) (fun i => ys[i]?)) := by
  refine ⟨fun i _ hi q => ?_, fun _ q => ⟨xs, ys, q.1, q.2, by omega⟩, fun i H v H' _ q y => ?_⟩
  · have h1 : i < xs.length := by omega
    have h2 : i < ys.length := by omega
    exact ⟨xs, ys, xs[i], ys[i], q.1, q.2, by simp [h1], by simp [h2]⟩
  · obtain ⟨T, x, z, h1, h2, h3, h4, h5⟩ := y
    exact ⟨T, x, z, h1, h2, h3, h4 xs q.1, h5 ys q.2⟩
theorem walk_revT {K : PySem.W.Frag} {a : Addr} {xs : List V} : Walk (RT.ItvT K a xs.length) xs.length (fun H => SqT K H a xs) (fun i H x H' => H' = H ∧ xs[xs.length - 1 - i]? = some x) := by
  refine ⟨fun i _ hi q => ⟨hi, xs, xs[xs.length - 1 - i]'(by omega), q, by simp [show xs.length - 1 - i < xs.length by omega]⟩, fun _ _ => Nat.le_refl _, fun _ _ _ _ _ q y => ⟨y.1, y.2 xs q⟩⟩

theorem enum_items (ds : List D) (i : Nat) : ((List.range ds.length).zipWith (fun (i : Nat) d => D.tup [.int (i : Nat), d]) ds)[i]? = (ds[i]?).map fun d => .tup [.int (i : Nat), d] := by
  rw [List.getElem?_zipWith]
  by_cases h : i < ds.length
  · rw [List.getElem?_range h, List.getElem?_eq_getElem h]; rfl
  · rw [List.getElem?_eq_none (by simpa using h), List.getElem?_eq_none (l := ds) (by omega)]; rfl
theorem zip_items (xs ys : List D) (i : Nat) (x y : D) (hx : xs[i]? = some x) (hy : ys[i]? = some y) : (List.zipWith (fun a b => D.tup [a, b]) xs ys)[i]? = some (.tup [x, y]) := by
  rw [List.getElem?_zipWith, hx, hy]
/-- the item at a place, whatever it is -/
noncomputable def atD (ds : List D) (i : Nat) : D := (ds[i]?).getD .non
theorem atD_of {ds : List D} {i : Nat} (h : i < ds.length) : ds[i]? = some (atD ds i) := by
  unfold atD
  rw [List.getElem?_eq_getElem h]; rfl
theorem VRs.atD {K : PySem.W.Frag} {a : Pt} {ds : List D} {vs : List V} (r : VRs K a ds vs) {i : Nat} {x : V} (e : vs[i]? = some x) : ds[i]? = some (Z.atD ds i) ∧ VR K a (Z.atD ds i) x := by
  have hi : i < ds.length := by
    rw [r.length]
    exact (List.getElem?_eq_some_iff.mp e).1
  refine ⟨atD_of hi, ?_⟩
  obtain ⟨v, g1, g2⟩ := r.get (atD_of hi)
  rw [e] at g1
  cases g1
  exact g2
section
variable {n : Nat} {sc : Scope} {X : Cx} {W : WX}
theorem wk_enumT {a0 : Pt} {ds : List D} {p : Addr} {vs : List V} (t : TR S.K a0.H p vs) (r : VRs S.K a0 ds vs) : WkR S a0 (.pure ((List.range ds.length).zipWith (fun i d => .tup [.int (i : Nat), d]) ds)) (IteT S.K p) := fun a l s _ =>
  pairs_at (f := fun i => .int (i : Nat)) (g := atD ds) walk_enumT (by show (List.zipWith _ _ _).length = _; simp [r.length]) s (t.mono l).sq fun i x y hi e1 e2 => by
    cases e1
    obtain ⟨h1, h2⟩ := (r.mono l).atD e2
    refine ⟨?_, .int _, h2⟩
    show (List.zipWith _ _ _)[i]? = _
    rw [enum_items, h1]; rfl
theorem wk_enumL {a0 : Pt} {m : Nat} {ds : List D} (hm : m < a0.h.length) : WkR S a0 (.enumL m ds) (Ite S.K (a0.ρ m)) := fun a l s gd => by
  obtain ⟨ws, hs, r⟩ := s.seq (n := m) (ds := ds) gd
  rw [l.r m hm] at hs
  exact pairs_at (f := fun i => .int (i : Nat)) (g := atD ds) (walk_enum (xs := ws)) (by show (List.zipWith _ _ _).length = _; simp [r.length]) s hs fun i x y hi e1 e2 => by
    cases e1
    obtain ⟨h1, h2⟩ := r.atD e2
    refine ⟨?_, .int _, h2⟩
    show (List.zipWith _ _ _)[i]? = _
    rw [enum_items, h1]; rfl
theorem wk_zipT {a0 : Pt} {ds es : List D} {p q : Addr} {vs us : List V} (t : TR S.K a0.H p vs) (r : VRs S.K a0 ds vs) (t2 : TR S.K a0.H q us) (r2 : VRs S.K a0 es us) :
    WkR S a0 (.pure (List.zipWith (fun a b => .tup [a, b]) ds es)) (RZ.ItzT S.K p q) := fun a l s _ =>
  pairs_at (f := atD ds) (g := atD es) walk_zipT (by show (List.zipWith _ _ _).length = _; simp [r.length, r2.length]) s ⟨(t.mono l).sq, (t2.mono l).sq⟩ fun i x y hi e1 e2 => by
    obtain ⟨h1, h2⟩ := (r.mono l).atD e1
    obtain ⟨h3, h4⟩ := (r2.mono l).atD e2
    exact ⟨zip_items ds es i _ _ h1 h3, h2, h4⟩
theorem wk_zipL {a0 : Pt} {m k : Nat} {ds es : List D} (hm : m < a0.h.length) (hk : k < a0.h.length) : WkR S a0 (.zipL m k ds es) (Itz S.K (a0.ρ m) (a0.ρ k)) := fun a l s gd => by
  obtain ⟨vs, hs, r⟩ := s.seq (n := m) (ds := ds) gd.1
  obtain ⟨us, hs2, r2⟩ := s.seq (n := k) (ds := es) gd.2
  rw [l.r m hm] at hs
  rw [l.r k hk] at hs2
  exact pairs_at (f := atD ds) (g := atD es) (walk_zip (xs := vs) (ys := us) rfl) (by show (List.zipWith _ _ _).length = _; simp [r.length, r2.length]) s ⟨hs, hs2⟩ fun i x y hi e1 e2 => by
    obtain ⟨h1, h2⟩ := r.atD e1
    obtain ⟨h3, h4⟩ := r2.atD e2
    exact ⟨zip_items ds es i _ _ h1 h3, h2, h4⟩
theorem wk_revT {a0 : Pt} {ds : List D} {p : Addr} {vs : List V} (t : TR S.K a0.H p vs) (r : VRs S.K a0 ds vs) : WkR S a0 (.pure ds.reverse) (RT.ItvT S.K p vs.length) := by
  intro a l s _
  have w := walk_revT (K := S.K) (a := p) (xs := vs)
  have hs : SqT S.K a.H p vs := (t.mono l).sq
  have el : (Wk.pure ds.reverse).items.length = vs.length := by rw [← r.length]; exact List.length_reverse
  refine ⟨by rw [el]; exact w.stops a.H hs, fun i hi => ?_⟩
  rw [el] at hi
  refine ⟨w.goes i a.H hi hs, fun x H' y => ?_⟩
  obtain ⟨e, ex⟩ := w.yields i a.H x H' hi hs y
  obtain ⟨h1, h2⟩ := (r.mono l).atD ex
  refine ⟨a, _, e.symm, Pt.Le.rfl, s, rfl, ?_, h2⟩
  show ds.reverse[i]? = _
  rw [List.getElem?_reverse (by rw [r.length]; exact hi), r.length]
  exact h1
end
end Z

set_option Elab.async false
set_option linter.all false
set_option maxRecDepth 100000
set_option maxHeartbeats 1000000
/-! Z, part Z: zip of a list and a tuple. -/
namespace Z
open PySem PySem.Spec PyProof.Rows L2
variable {S : Stat}
/-- the list at a and the tuple at b -/
noncomputable def ItzM (K : PySem.W.Frag) (a b : Addr) : It :=
  ⟨fun i H => ∃ (xs ys : List V) (x y : V), SqL K H a xs ∧ SqT K H b ys ∧ xs[i]? = some x ∧ ys[i]? = some y,
    fun i H v H' => ∃ T x y, v = .ref T ∧ H T = none ∧ H' = upd H T (.tup [x, y]) ∧ (∀ xs, SqL K H a xs → xs[i]? = some x) ∧ ∀ ys, SqT K H b ys → ys[i]? = some y,
    fun i H => ∃ xs ys : List V, SqL K H a xs ∧ SqT K H b ys ∧ i ≤ xs.length ∧ i ≤ ys.length ∧ (xs.length = i ∨ ys.length = i)⟩
theorem sep_of {z TI TO i1 i2 a b : Addr} (D : ZipApart z TI TO i1 i2 a b) : ZipSep2 z TI TO i1 i2 [i1, a] [i2, b] where
  TIz := D.TIz
  TOz := D.TOz
  TITO := D.TITO
  TIi1 := D.TIi1
  mem1 := by simp
  zf1 := by simp [Ne.symm D.i1z, Ne.symm D.l1z]
  Tf1 := by simp [D.TOi1, Ne.symm D.l1TO]
  TIi2 := D.TIi2
  mem2 := by simp
  zf2 := by simp [Ne.symm D.i2z, Ne.symm D.l2z]
  Tf2 := by simp [D.TOi2, Ne.symm D.l2TO]
  sep1_2 := by simp [D.i12, Ne.symm D.l2i1]
  sep2_1 := by simp [Ne.symm D.i12, Ne.symm D.l1i2]
theorem turn_zipM {P : Program} {w : World} {K : PySem.W.Frag} {elts : List Expr} {kk : Nat} {tpos : Pos} {a b z TI TO i1 i2 : Addr} (D : ZipApart z TI TO i1 i2 a b) :
    Turn P w K (.Tuple elts kk tpos) (ItzM K a b) [z, TI, TO, i1, i2] z (fun i h => IsZip h z TI TO .none ∧ IsPair h TI (.ref i1) (.ref i2) ∧ (∃ x y, IsPair h TO x y) ∧ h.IsListIter i1 a i ∧ h.IsTupleIter i2 b i) where
  mem := by simp
  obj := fun i h st c hc => by
    obtain ⟨hz, hTI, ⟨x, y, hTO⟩, ⟨o1, e1, _, d1⟩, ⟨o2, e2, _, d2⟩⟩ := st
    have e' : c = z ∨ c = TI ∨ c = TO ∨ c = i1 ∨ c = i2 := by simpa using hc
    rcases e' with q | q | q | q | q
    · rw [q]; exact ⟨_, hz, fun v q => nomatch q⟩
    · rw [q]; exact ⟨_, hTI, fun v q => nomatch q⟩
    · rw [q]; exact ⟨_, hTO, fun v q => nomatch q⟩
    · rw [q]; exact ⟨o1, e1, fun v q => by rw [d1] at q; cases q⟩
    · rw [q]; exact ⟨o2, e2, fun v q => by rw [d2] at q; cases q⟩
  keep := fun i h h' st k => by
    obtain ⟨hz, hTI, ⟨x, y, hTO⟩, h1, h2⟩ := st
    exact ⟨k z (by simp) _ hz, k TI (by simp) _ hTI, ⟨x, y, k TO (by simp) _ hTO⟩, h1.at fun o q => k i1 (by simp) o q, h2.at fun o q => k i2 (by simp) o q⟩
  item := by
    intro X hP hw hK hc i pins s σ H E I hf st hg
    subst hP hw hK
    obtain ⟨hz, hTI, ⟨x0, y0, hTO⟩, h1, h2⟩ := st
    obtain ⟨xs, ys, x, y, hqx, hqy, hx, hy⟩ := hg
    obtain ⟨its, rv, p, _⟩ := I.list hqx
    obtain ⟨its2, rv2, p2, _⟩ := I.tuple hqy
    have ht : s.heap.IsTuple b its2.toArray := p2
    obtain ⟨u, hu, ru⟩ := rv.get hx
    obtain ⟨u2, hu2, ru2⟩ := rv2.get hy
    have hzl : z < s.heap.objs.size := Heap.lt_size hz
    have D1 := Draws.list (prog := X.prog) (w := X.w) (A := X.A.in1) (I.ok.hd hc) i1 a D.l1i1 its.toArray
    have D2 := Draws.tuple (prog := X.prog) (w := X.w) (A := X.A.in1) (I.ok.hd hc) i2 b D.l2i2 its2.toArray
    have q1 : i < its.toArray.size := by simpa using (List.getElem?_eq_some_iff.mp hu).1
    have q2 : i < its2.toArray.size := by simpa using (List.getElem?_eq_some_iff.mp hu2).1
    refine wpAny_pyNext_zipD2_item (sep_of D) D1 D2 hz hTI hTO ⟨h1, p.isList⟩ ⟨h2, ht⟩ q1 q2 fun x1 x2 h' tk y1 y2 z' TO' st1 st2 hT hsz hk => ?_
    have e1 : x1 = u := by
      have : its[i]? = some x1 := by simpa using y1
      rw [hu] at this
      exact (Option.some.inj this).symm
    have e2 : x2 = u2 := by
      have : its2[i]? = some x2 := by simpa using y2
      rw [hu2] at this
      exact (Option.some.inj this).symm
    subst e1 e2
    refine ⟨_, rfl, wpAny_letOwnedTupleGo_zip (s := { s with heap := h', toks := tk }) z' fun h'' z'' sb => ?_⟩
    have hT2 : h''.get? s.heap.objs.size = some { cls := .type "tuple", data := .seq #[x1, x2] } := (sb.2 _ (Nat.ne_of_gt hzl)).trans hT
    have new : ObjOk X.prog X.w (upd H s.heap.objs.size (.tup [x, y])) h'' s.heap.objs.size (.tup [x, y]) :=
      ⟨by show 2 ≤ sizeLine; decide, [x1, x2], .cons ru (.cons ru2 .nil), ⟨_, hT2, rfl, _, rfl⟩⟩
    have I1 : Inv X pins σ (upd H s.heap.objs.size (.tup [x, y])) { s with heap := h'', toks := tk } :=
      I.turnedNew (t' := tk) (ch := [z, TI, TO, i1, i2]) (fun c o hb q => (sb.2 c (fun q' => hb (by simp [q']))).trans (hk c o (fun q' => hb (by simp [q'])) (fun q' => hb (by simp [q'])) (fun q' => hb (by simp [q'])) (fun q' => hb (by simp [q'])) q)) hf (Nat.le_refl _) new
    refine ⟨.ref s.heap.objs.size, _, I1, rfl, ⟨_, x, y, rfl, I.hok.fresh (Nat.le_refl _), rfl, fun l hl => by rw [I.list_inj hl hqx]; exact hx, fun l hl => by rw [I.tuple_inj hl hqy]; exact hy⟩, ⟨z'', ?_, ⟨x1, x2, ?_⟩, ?_, ?_⟩, fun c hcm => ?_⟩
    · exact (sb.2 _ D.TIz).trans (hk _ _ D.TIz D.TITO D.TIi1 D.TIi2 hTI)
    · exact (sb.2 _ D.TOz).trans TO'
    · exact st1.1.at fun o q => (sb.2 _ D.i1z).trans q
    · exact st2.1.at fun o q => (sb.2 _ D.i2z).trans q
    · have hlt : c < s.heap.objs.size := by
        have e' : c = z ∨ c = TI ∨ c = TO ∨ c = i1 ∨ c = i2 := by simpa using hcm
        rcases e' with q | q | q | q | q
        · rw [q]; exact hzl
        · rw [q]; exact Heap.lt_size hTI
        · rw [q]; exact Heap.lt_size hTO
        · rw [q]; obtain ⟨_, e1, _⟩ := h1; exact Heap.lt_size e1
        · rw [q]; obtain ⟨_, e2, _⟩ := h2; exact Heap.lt_size e2
      rw [upd_ne (Nat.ne_of_lt hlt)]
      exact (hf c hcm).1
  done := by
    intro X hP hw hK hc i pins s σ H E I hf st hg
    subst hP hw hK
    obtain ⟨hz, hTI, ⟨x0, y0, hTO⟩, h1, h2⟩ := st
    obtain ⟨xs, ys, hqx, hqy, hl1, hl2, hend⟩ := hg
    obtain ⟨its, rv, p, _⟩ := I.list hqx
    obtain ⟨its2, rv2, p2, _⟩ := I.tuple hqy
    have ht : s.heap.IsTuple b its2.toArray := p2
    have l1 := rv.length
    have l2 := rv2.length
    have D1 := Draws.list (prog := X.prog) (w := X.w) (A := X.A.in1) (I.ok.hd hc) i1 a D.l1i1 its.toArray
    have D2 := Draws.tuple (prog := X.prog) (w := X.w) (A := X.A.in1) (I.ok.hd hc) i2 b D.l2i2 its2.toArray
    exact wpAny_pyNext_zipD2_end (sep_of D) D1 D2 hz hTI hTO ⟨h1, p.isList⟩ ⟨h2, ht⟩ (by simp; omega) (by simp; omega) (by simp; omega) fun h' tk hk => ⟨rfl, I.turnedL (t' := tk) (ch := [z, TI, TO, i1, i2]) (fun c o hb q =>
      hk c o (fun q' => hb (by simp [q'])) (fun q' => hb (by simp [q'])) (fun q' => hb (by simp [q'])) (fun q' => hb (by simp [q'])) q) hf⟩
  self := fun A i s Q E st h => wpAny_pyIter_zip st.1 h
noncomputable def iZipB (K : PySem.W.Frag) (ta : TA) : TI := fun σ H R => ta σ H fun vs H1 => ∃ a b xs ys, vs = [.ref a, .ref b] ∧ ((SqL K H1 a xs ∧ SqL K H1 b ys ∧ R (Itz K a b) H1) ∨ (SqT K H1 a xs ∧ SqT K H1 b ys ∧ R (RZ.ItzT K a b) H1) ∨ (SqL K H1 a xs ∧ SqT K H1 b ys ∧ R (ItzM K a b) H1))
theorem pi_zipB {X : Cx} {e e2 : Expr} {ta : TA} {p pos tpos : Pos} {elts : List Expr} {kk : Nat} (hg : Gl X "zip") (hm : X.mg "zip" = none) (ha : PA X [e, e2] ta)
    (hs : starEach [e, e2] X.env = (false, eval e X.env) :: starEach [e2] X.env) (hpl : (backTo pos (starEach [e2] X.env)).any (·.1) = false) :
    PI X (.Tuple elts kk tpos) (.Call (.Name "zip" p) [e, e2] [] pos) (iZipB X.K ta) := by
  refine ⟨fun pins s σ H R I h => ?_⟩
  refine Call_ (ld_blt I hg hm PyProof.Rows.boot_zip (PyProof.Rows.callWith_type1 (thn (ha.run pos pins s σ H _ I h) fun us s1 ⟨vs, H1, I1, r1, q1⟩ => ?_) hs hpl))
  obtain ⟨a, b, xs, ys, ex, q1⟩ := q1
  subst ex
  cases r1 with
  | cons r rr =>
    cases rr with
    | cons r' rr =>
      cases rr
      cases r
      cases r'
      have fresh5 : ∀ c, c ∈ [s1.heap.objs.size + 4, s1.heap.objs.size + 2, s1.heap.objs.size + 3, s1.heap.objs.size, s1.heap.objs.size + 1] → FpOk X pins H1 c := fun c hcm => by
        have e' : c = s1.heap.objs.size + 4 ∨ c = s1.heap.objs.size + 2 ∨ c = s1.heap.objs.size + 3 ∨ c = s1.heap.objs.size ∨ c = s1.heap.objs.size + 1 := by simpa using hcm
        have hle : s1.heap.objs.size ≤ c := by
          rcases e' with z | z | z | z | z
          · rw [z]; exact Nat.le_add_right _ _
          · rw [z]; exact Nat.le_add_right _ _
          · rw [z]; exact Nat.le_add_right _ _
          · rw [z]; exact Nat.le_refl _
          · rw [z]; exact Nat.le_add_right _ _
        exact I1.fpOk hle (I1.hok.fresh hle)
      rcases q1 with ⟨hqx, hqy, q⟩ | ⟨hqx, hqy, q⟩ | ⟨hqx, hqy, q⟩
      · obtain ⟨its, rv, p1, _⟩ := I1.list hqx
        obtain ⟨its2, rv2, p2, _⟩ := I1.list hqy
        refine call_zip_2 p1.isList p2.isList fun h' hz hTI hTO h1 h2 hsz hk => wpAny_pyIter_zip hz ?_
        have I2 : Inv X pins σ H1 { s1 with heap := h' } := I1.kept (t' := s1.toks) hk
        exact ⟨s1.heap.objs.size + 4, [s1.heap.objs.size + 4, s1.heap.objs.size + 2, s1.heap.objs.size + 3, s1.heap.objs.size, s1.heap.objs.size + 1], _, _, H1, rfl, I2, turn_zip (PySem.W.ktu_apart s1.heap.objs.size a b p1.lt p2.lt), ⟨hz, hTI, ⟨_, _, hTO⟩, h1, h2⟩, fresh5, q⟩
      · obtain ⟨its, rv, p1, _⟩ := I1.tuple hqx
        obtain ⟨its2, rv2, p2, _⟩ := I1.tuple hqy
        obtain ⟨o1, ho1, _⟩ := id p1
        obtain ⟨o2, ho2, _⟩ := id p2
        refine RZ.call_zipT (show s1.heap.IsTuple a its.toArray from p1) (show s1.heap.IsTuple b its2.toArray from p2) fun h' hz hTI hTO h1 h2 hsz hk => wpAny_pyIter_zip hz ?_
        have I2 : Inv X pins σ H1 { s1 with heap := h' } := I1.kept (t' := s1.toks) hk
        exact ⟨s1.heap.objs.size + 4, [s1.heap.objs.size + 4, s1.heap.objs.size + 2, s1.heap.objs.size + 3, s1.heap.objs.size, s1.heap.objs.size + 1], _, _, H1, rfl, I2, RZ.turn_zipT (PySem.W.ktu_apart s1.heap.objs.size a b (Heap.lt_size ho1) (Heap.lt_size ho2)), ⟨hz, hTI, ⟨_, _, hTO⟩, h1, h2⟩, fresh5, q⟩
      · obtain ⟨its, rv, p1, _⟩ := I1.list hqx
        obtain ⟨its2, rv2, p2, _⟩ := I1.tuple hqy
        obtain ⟨o2, ho2, _⟩ := id p2
        refine zip_begins2 (begins_list a its.toArray) (begins_tuple b its2.toArray) p1.isList (show s1.heap.IsTuple b its2.toArray from p2) fun h' hz hTI hTO g1 g2 hsz hk => wpAny_pyIter_zip hz ?_
        have I2 : Inv X pins σ H1 { s1 with heap := h' } := I1.kept (t' := s1.toks) hk
        exact ⟨s1.heap.objs.size + 4, [s1.heap.objs.size + 4, s1.heap.objs.size + 2, s1.heap.objs.size + 3, s1.heap.objs.size, s1.heap.objs.size + 1], _, _, H1, rfl, I2, turn_zipM (PySem.W.ktu_apart s1.heap.objs.size a b p1.lt (Heap.lt_size ho2)), ⟨hz, hTI, ⟨_, _, hTO⟩, ⟨_, g1, rfl, rfl⟩, ⟨_, g2, rfl, rfl⟩⟩, fresh5, q⟩
theorem walk_zipM {K : PySem.W.Frag} {a b : Addr} {xs ys : List V} : Walk (ItzM K a b) (min xs.length ys.length) (fun H => SqL K H a xs ∧ SqT K H b ys) (YPair (fun i => xs[i]?) (fun i => ys[i]?)) := by
  refine ⟨fun i _ hi q => ?_, fun _ q => ⟨xs, ys, q.1, q.2, by omega, by omega, by omega⟩, fun i H v H' _ q y => ?_⟩
  · have h1 : i < xs.length := by omega
    have h2 : i < ys.length := by omega
    exact ⟨xs, ys, xs[i], ys[i], q.1, q.2, by simp [h1], by simp [h2]⟩
  · obtain ⟨T, x, z, h1, h2, h3, h4, h5⟩ := y
    exact ⟨T, x, z, h1, h2, h3, h4 xs q.1, h5 ys q.2⟩
theorem wk_zipM {a0 : Pt} {m : Nat} {ds es : List D} {q : Addr} {us : List V} (hm : m < a0.h.length) (t2 : TR S.K a0.H q us) (r2 : VRs S.K a0 es us) : WkR S a0 (.zipM m ds es) (ItzM S.K (a0.ρ m) q) := fun a l s gd => by
  obtain ⟨vs, hs, r⟩ := s.seq (n := m) (ds := ds) gd
  rw [l.r m hm] at hs
  exact pairs_at (f := atD ds) (g := atD es) walk_zipM (by show (List.zipWith _ _ _).length = _; simp [r.length, r2.length]) s ⟨hs, (t2.mono l).sq⟩ fun i x y hi e1 e2 => by
    obtain ⟨h1, h2⟩ := r.atD e1
    obtain ⟨h3, h4⟩ := (r2.mono l).atD e2
    exact ⟨zip_items ds es i _ _ h1 h3, h2, h4⟩
end Z

set_option Elab.async false
set_option linter.all false
set_option maxRecDepth 100000
/-! Z, part N: the whole of the expressions. -/
namespace Z
open PySem PySem.Spec PyProof.Rows L2
variable {S : Stat}

/-- an iterable alone -/
theorem Snd.ofItr {q : E} (hk : ∀ N sc, (∀ e, (ck S.nm N q).e sc e = false) ∧ (∀ es, (ck S.nm N q).a sc es = false) ∧ ∀ o, (ck S.nm N q).p sc o = false)
    (h : ∀ n sc X W tg ex, XOk S n sc X W → (ck S.nm X.N q).i sc tg ex = true → PI X tg ex (tI S W (sem (S.pg.g (S.pg.run n)) q).itr)) : Snd S q where
  e n sc X W ex o c := by rw [(hk X.N sc).1] at c; cases c
  t n sc X W ex o c := by rw [(hk X.N sc).1] at c; cases c
  w n sc X W op es pos o c := by rw [(hk X.N sc).1] at c; cases c
  a n sc X W es o c := by rw [(hk X.N sc).2.1] at c; cases c
  i := h
  p n sc X W ob o c := by rw [(hk X.N sc).2.2] at c; cases c
theorem s62 {i : Int} (h : small62 i = true) : -(2 ^ 62) ≤ i ∧ i < 2 ^ 62 := by
  unfold small62 at h
  simpa only [Bool.and_eq_true, decide_eq_true_eq] using h
theorem bndW_ite {c : Bool} {w : Wk} {Q : KW} {h : Hh} (e : bndW (if c = true then some w else none) Q h) : c = true ∧ Q w h := by
  cases c with
  | true => exact ⟨rfl, e⟩
  | false => exact e.elim
/-- a value, and the walk it gives -/
theorem itr_one {W : WX} {va : Env → Hh → KD → KX → Prop} {F : D → Hh → KW → Prop} {σ : L2.St} {H : Hp} {R : It → Hp → Prop} {r : V → Hp → (It → Hp → Prop) → Prop}
    (hr : ∀ (a : Pt) d v (Qd : KW), SR S.K S.cl a → VR S.K a d v → F d a.h Qd → (∀ w J, WkR S a w J → Qd w a.h → R J a.H) → r v a.H R) (h : tI S W (fun env h Q X => va env h (fun d h1 => F d h1 Q) X) σ H R) : tE S W va σ H fun x H1 => r x H1 R := by
  obtain ⟨a, env, Qd, Xd, eH, sr, er, hb, kq, kx⟩ := h
  exact ⟨a, env, _, Xd, eH, sr, er, hb, fun b d v l s rv q => hr b d v Qd s rv q fun w J wr qw => kq b w J l s wr qw, kx⟩
theorem itr_two {W : WX} {va vb : Env → Hh → KD → KX → Prop} {F : D → D → Hh → KW → Prop} {σ : L2.St} {H : Hp} {R : It → Hp → Prop} {r : V → V → Hp → (It → Hp → Prop) → Prop}
    (hr : ∀ (a : Pt) d e v u (Qd : KW), SR S.K S.cl a → VR S.K a d v → VR S.K a e u → F d e a.h Qd → (∀ w J, WkR S a w J → Qd w a.h → R J a.H) → r v u a.H R) (h : tI S W (fun env h Q X => va env h (fun d h1 => vb env h1 (fun e h2 => F d e h2 Q) X) X) σ H R) :
    tE S W va σ H fun x H1 => tE S W vb σ H1 fun y H2 => r x y H2 R := by
  obtain ⟨a, env, Qd, Xd, eH, sr, er, hb, kq, kx⟩ := h
  refine ⟨a, env, _, Xd, eH, sr, er, hb, fun b d v l s rv q => ?_, kx⟩
  exact ⟨b, env, _, Xd, rfl, s, er.mono l, q, fun c e u l2 s2 ru q2 => hr c d e v u Qd s2 (rv.mono l2) ru q2 fun w J wr qw => kq c w J (l.trans l2) s2 wr qw, kx.mono l⟩
theorem snd_irange {a : E} (ha : Snd S a) : Snd S (.irange a) := by
  refine Snd.ofItr (fun _ _ => ⟨fun _ => rfl, fun _ => rfl, fun _ => rfl⟩) fun n sc X W tg ex o c => ?_
  have shp : ∃ x q y p, ex = .Call (.Name x q) [y] [] p := by
    unfold ck at c
    simp only [itCk] at c
    split at c
    · exact ⟨_, _, _, _, rfl⟩
    · cases c
  obtain ⟨x, q, y, p, rfl⟩ := shp
  have c : (decide (x = "range") && isGl sc x && plainH y && (ck S.nm X.N a).e sc y) = true := c
  simp only [Bool.and_eq_true, decide_eq_true_eq] at c
  obtain ⟨⟨⟨rfl, c2⟩, c3⟩, c4⟩ := c
  obtain ⟨h1, h2⟩ := o.gl c2
  have hs := star_plain c3 [] X.env
  refine impI (pi_range1 h1 (by rw [o.mg]; exact o.mgi.2.1) (pa_cons (ha.e n sc X W y o c4) pa_nil hs) hs) fun σ H R q => itr_one (r := fun x H1 R => ∃ j : Int, [x] = [.int j] ∧ -(2 ^ 62) ≤ j ∧ j < 2 ^ 62 ∧ R (Itr 0 j.toNat) H1) (fun a d v Qd s rv q k => ?_) q
  cases rv with
  | int j =>
    obtain ⟨q1, q2⟩ := bndW_ite q
    obtain ⟨b1, b2⟩ := s62 q1
    refine ⟨j, rfl, b1, b2, k _ _ (walk_ints (f := fun i => (i : Nat)) ?_) q2⟩
    have w := walk_range (lo := 0) (n := j.toNat)
    exact ⟨w.goes, w.stops, fun i H x H' hi g y => by have := w.yields i H x H' hi g y; simpa [YFn] using this⟩
  | _ => exact q.elim
theorem snd_irange2 {a b : E} (ha : Snd S a) (hb : Snd S b) : Snd S (.irange2 a b) := by
  refine Snd.ofItr (fun _ _ => ⟨fun _ => rfl, fun _ => rfl, fun _ => rfl⟩) fun n sc X W tg ex o c => ?_
  have shp : ∃ x q y z p, ex = .Call (.Name x q) [y, z] [] p := by
    unfold ck at c
    simp only [itCk] at c
    split at c
    · exact ⟨_, _, _, _, _, rfl⟩
    · cases c
  obtain ⟨x, q, y, z, p, rfl⟩ := shp
  have c : (decide (x = "range") && isGl sc x && plainH y && (ck S.nm X.N a).e sc y && plainH z && (ck S.nm X.N b).e sc z) = true := c
  simp only [Bool.and_eq_true, decide_eq_true_eq] at c
  obtain ⟨⟨⟨⟨⟨rfl, c2⟩, c3⟩, c4⟩, c5⟩, c6⟩ := c
  obtain ⟨h1, h2⟩ := o.gl c2
  have hs := star_plain c3 [z] X.env
  have hs2 := star_plain c5 [] X.env
  refine impI (pi_range2 h1 (by rw [o.mg]; exact o.mgi.2.1) (pa_cons (ha.e n sc X W y o c4) (pa_cons (hb.e n sc X W z o c6) pa_nil hs2) hs) (by rw [hs, hs2]; rfl) (by rw [hs2]; rfl)) fun σ H R q =>
    itr_two (r := fun x y H1 R => ∃ i j : Int, [x, y] = [.int i, .int j] ∧ (-(2 ^ 62) ≤ i ∧ i < 2 ^ 62 ∧ -(2 ^ 62) ≤ j ∧ j < 2 ^ 62) ∧ R (Itr i (j - i).toNat) H1) (fun a d e v u Qd s rv ru q k => ?_) q
  cases rv with
  | int i =>
    cases ru with
    | int j =>
      obtain ⟨q1, q2⟩ := bndW_ite q
      rw [Bool.and_eq_true] at q1
      obtain ⟨b1, b2⟩ := s62 q1.1
      obtain ⟨b3, b4⟩ := s62 q1.2
      exact ⟨i, j, rfl, ⟨b1, b2, b3, b4⟩, k _ _ (walk_ints (f := fun k => i + (k : Nat)) walk_range) q2⟩
    | _ => exact q.elim
  | _ => exact q.elim
theorem itr_three {W : WX} {va vb vc : Env → Hh → KD → KX → Prop} {F : D → D → D → Hh → KW → Prop} {σ : L2.St} {H : Hp} {R : It → Hp → Prop} {r : V → V → V → Hp → (It → Hp → Prop) → Prop}
    (hr : ∀ (a : Pt) d e f v u w (Qd : KW), SR S.K S.cl a → VR S.K a d v → VR S.K a e u → VR S.K a f w → F d e f a.h Qd → (∀ w J, WkR S a w J → Qd w a.h → R J a.H) → r v u w a.H R) (h : tI S W (fun env h Q X => va env h (fun d h1 => vb env h1 (fun e h2 => vc env h2 (fun f h3 => F d e f h3 Q) X) X) X) σ H R) :
    tE S W va σ H fun x H1 => tE S W vb σ H1 fun y H2 => tE S W vc σ H2 fun z H3 => r x y z H3 R := by
  obtain ⟨a, env, Qd, Xd, eH, sr, er, hb, kq, kx⟩ := h
  refine ⟨a, env, _, Xd, eH, sr, er, hb, fun b d v l s rv q => ?_, kx⟩
  refine ⟨b, env, _, Xd, rfl, s, er.mono l, q, fun c e u l2 s2 ru q2 => ?_, kx.mono l⟩
  exact ⟨c, env, _, Xd, rfl, s2, er.mono (l.trans l2), q2, fun g f w l3 s3 rw q3 => hr g d e f v u w Qd s3 (rv.mono (l2.trans l3)) (ru.mono l3) rw q3 fun w J wr qw => kq g w J ((l.trans l2).trans l3) s3 wr qw, kx.mono (l.trans l2)⟩
theorem snd_irange3 {a b d : E} (ha : Snd S a) (hb : Snd S b) (hd : Snd S d) : Snd S (.irange3 a b d) := by
  refine Snd.ofItr (fun _ _ => ⟨fun _ => rfl, fun _ => rfl, fun _ => rfl⟩) fun n sc X W tg ex o c => ?_
  have shp : ∃ x q y z w p, ex = .Call (.Name x q) [y, z, w] [] p := by
    unfold ck at c
    simp only [itCk] at c
    split at c
    · exact ⟨_, _, _, _, _, _, rfl⟩
    · cases c
  obtain ⟨x, q, y, z, w, p, rfl⟩ := shp
  have c : (decide (x = "range") && isGl sc x && plainH y && (ck S.nm X.N a).e sc y && plainH z && (ck S.nm X.N b).e sc z && plainH w && (ck S.nm X.N d).e sc w) = true := c
  simp only [Bool.and_eq_true, decide_eq_true_eq] at c
  obtain ⟨⟨⟨⟨⟨⟨⟨rfl, c2⟩, c3⟩, c4⟩, c5⟩, c6⟩, c7⟩, c8⟩ := c
  obtain ⟨h1, h2⟩ := o.gl c2
  have hs := star_plain c3 [z, w] X.env
  have hs2 := star_plain c5 [w] X.env
  have hs3 := star_plain c7 [] X.env
  refine impI (pi_range3 h1 (by rw [o.mg]; exact o.mgi.2.1) (pa_cons (ha.e n sc X W y o c4) (pa_cons (hb.e n sc X W z o c6) (pa_cons (hd.e n sc X W w o c8) pa_nil hs3) hs2) hs) hs (by rw [hs2, hs3]; rfl)) fun σ H R q =>
    itr_three (r := fun x y z H1 R => ∃ (i j c : Int) (n : Nat), [x, y, z] = [.int i, .int j, .int c] ∧ RgC i j c n ∧ R (Itc i c n) H1) (fun a d e f v u w Qd s rv ru rw q k => ?_) q
  cases rv with
  | int i =>
    cases ru with
    | int j =>
      cases rw with
      | int m =>
        obtain ⟨q1, q2⟩ := bndW_ite q
        rw [Bool.and_eq_true, Bool.and_eq_true, decide_eq_true_eq, decide_eq_true_eq] at q1
        exact ⟨i, j, m, _, rfl, ⟨q1.1.1, q1.1.2, q1.2, PyProof.Rows.rangeSize_toNat i j m⟩, k _ _ (walk_ints (f := fun k => i + (k : Nat) * m) L2.walk_rangeC) q2⟩
      | _ => exact q.elim
    | _ => exact q.elim
  | _ => exact q.elim
theorem snd_irevr {a : E} (ha : Snd S a) : Snd S (.irevr a) := by
  refine Snd.ofItr (fun _ _ => ⟨fun _ => rfl, fun _ => rfl, fun _ => rfl⟩) fun n sc X W tg ex o c => ?_
  have shp : ∃ x q x' q' y p p', ex = .Call (.Name x q) [.Call (.Name x' q') [y] [] p'] [] p := by
    unfold ck at c
    simp only [itCk] at c
    split at c
    · exact ⟨_, _, _, _, _, _, _, rfl⟩
    · cases c
  obtain ⟨x, q, x', q', y, p, p', rfl⟩ := shp
  have c : (decide (x = "reversed") && isGl sc x && decide (x' = "range") && isGl sc x' && plainH y && (ck S.nm X.N a).e sc y) = true := c
  simp only [Bool.and_eq_true, decide_eq_true_eq] at c
  obtain ⟨⟨⟨⟨⟨rfl, c2⟩, rfl⟩, c4⟩, c5⟩, c6⟩ := c
  obtain ⟨h1, h2⟩ := o.gl c2
  obtain ⟨h3, h4⟩ := o.gl c4
  have hs := star_plain c5 [] X.env
  refine impI (pi_revR h1 (by rw [o.mg]; exact o.mgi.2.2.2.2.1) (prg_1 h3 (by rw [o.mg]; exact o.mgi.2.1) (ha.e n sc X W y o c6) hs) rfl) fun σ H R q =>
    itr_one (r := fun x H1 R => ∃ n, x = .int n ∧ -(2 ^ 62) ≤ (0 : Int) ∧ (0 : Int) < 2 ^ 62 ∧ -(2 ^ 62) ≤ n ∧ n < 2 ^ 62 ∧ R (Itc (0 + (((n - 0).toNat : Nat) : Int) - 1) (-1) (n - 0).toNat) H1) (fun a d v Qd s rv q k => ?_) q
  cases rv with
  | int j =>
    obtain ⟨q1, q2⟩ := bndW_ite q
    obtain ⟨b1, b2⟩ := s62 q1
    have w := walk_ints (S := S) (a0 := a) (f := fun i => 0 + (((j - 0).toNat : Nat) : Int) - 1 + (i : Nat) * (-1)) (walk_rangeC (lo := 0 + (((j - 0).toNat : Nat) : Int) - 1) (c := -1) (n := (j - 0).toNat))
    have e : (List.range j.toNat).reverse.map (fun i => D.int (i : Nat)) = (List.range (j - 0).toNat).map fun i => D.int (0 + (((j - 0).toNat : Nat) : Int) - 1 + (i : Nat) * (-1)) := by
      rw [Int.sub_zero]
      apply List.ext_getElem?
      intro i
      rw [List.getElem?_map, List.getElem?_map]
      by_cases hi : i < j.toNat
      · rw [List.getElem?_reverse (by simpa using hi), List.length_range, List.getElem?_range hi, List.getElem?_range (by omega)]
        show some (D.int _) = some (D.int _)
        congr 2
        omega
      · rw [List.getElem?_eq_none (by simp; omega), List.getElem?_eq_none (by simp; omega)]
        rfl
    rw [e] at q2
    exact ⟨j, rfl, by omega, by omega, b1, b2, k _ _ w q2⟩
  | _ => exact q.elim
theorem snd_ienum {a : E} (ha : Snd S a) : Snd S (.ienum a) := by
  refine Snd.ofItr (fun _ _ => ⟨fun _ => rfl, fun _ => rfl, fun _ => rfl⟩) fun n sc X W tg ex o c => ?_
  have shp : ∃ x q y p, ex = .Call (.Name x q) [y] [] p := by
    unfold ck at c
    simp only [itCk] at c
    split at c
    · exact ⟨_, _, _, _, rfl⟩
    · cases c
  obtain ⟨x, q, y, p, rfl⟩ := shp
  have c : (decide (x = "enumerate") && isGl sc x && plainH y && (ck S.nm X.N a).e sc y && isTup tg) = true := c
  simp only [Bool.and_eq_true, decide_eq_true_eq] at c
  obtain ⟨⟨⟨⟨rfl, c2⟩, c3⟩, c4⟩, c5⟩ := c
  obtain ⟨h1, h2⟩ := o.gl c2
  cases tg with
  | Tuple elts kk tpos =>
    refine impI (pi_enA h1 (by rw [o.mg]; exact o.mgi.2.2.1) (ha.e n sc X W y o c4) (star_plain c3 [] X.env)) fun σ H R q =>
      itr_one (r := fun v H1 R => ∃ p xs, v = .ref p ∧ ((SqL X.K H1 p xs ∧ R (Ite X.K p) H1) ∨ (SqT X.K H1 p xs ∧ R (IteT X.K p) H1))) (fun a d v Qd s rv q k => ?_) q
    rw [o.K]
    cases rv with
    | tup t r => exact ⟨_, _, rfl, .inr ⟨t.sq, k _ _ (wk_enumT t r) q⟩⟩
    | ref hm =>
      rename_i m
      have q : bndW (match a.h[m]? with
        | some (.lst ds) => some (.enumL m ds)
        | some (.fro ds) => some (.enumL m ds)
        | _ => none) Qd a.h := q
      split at q
      · rename_i ds e
        obtain ⟨vs, g1, g2⟩ := s.seq (.inl e)
        exact ⟨_, vs, rfl, .inl ⟨g1, k _ _ (wk_enumL hm) q⟩⟩
      · rename_i ds e
        obtain ⟨vs, g1, g2⟩ := s.seq (.inr e)
        exact ⟨_, vs, rfl, .inl ⟨g1, k _ _ (wk_enumL hm) q⟩⟩
      · exact q.elim
    | _ => exact q.elim
  | _ => cases c5
theorem snd_izip {a b : E} (ha : Snd S a) (hb : Snd S b) : Snd S (.izip a b) := by
  refine Snd.ofItr (fun _ _ => ⟨fun _ => rfl, fun _ => rfl, fun _ => rfl⟩) fun n sc X W tg ex o c => ?_
  have shp : ∃ x q y z p, ex = .Call (.Name x q) [y, z] [] p := by
    unfold ck at c
    simp only [itCk] at c
    split at c
    · exact ⟨_, _, _, _, _, rfl⟩
    · cases c
  obtain ⟨x, q, y, z, p, rfl⟩ := shp
  have c : (decide (x = "zip") && isGl sc x && plainH y && plainH z && (ck S.nm X.N a).e sc y && (ck S.nm X.N b).e sc z && isTup tg) = true := c
  simp only [Bool.and_eq_true, decide_eq_true_eq] at c
  obtain ⟨⟨⟨⟨⟨⟨rfl, c2⟩, c3⟩, c4⟩, c5⟩, c6⟩, c7⟩ := c
  obtain ⟨h1, h2⟩ := o.gl c2
  have hs := star_plain c3 [z] X.env
  have hs2 := star_plain c4 [] X.env
  cases tg with
  | Tuple elts kk tpos =>
    refine impI (pi_zipB h1 (by rw [o.mg]; exact o.mgi.2.2.2.1) (pa_cons (ha.e n sc X W y o c5) (pa_cons (hb.e n sc X W z o c6) pa_nil hs2) hs) hs (by rw [hs2]; rfl)) fun σ H R q =>
      itr_two (r := fun x y H1 R => ∃ a b xs ys, [x, y] = [.ref a, .ref b] ∧ ((SqL X.K H1 a xs ∧ SqL X.K H1 b ys ∧ R (Itz X.K a b) H1) ∨ (SqT X.K H1 a xs ∧ SqT X.K H1 b ys ∧ R (RZ.ItzT X.K a b) H1) ∨ (SqL X.K H1 a xs ∧ SqT X.K H1 b ys ∧ R (ItzM X.K a b) H1))) (fun a d e v u Qd s rv ru q k => ?_) q
    rw [o.K]
    cases rv with
    | tup t r =>
      cases ru with
      | tup t2 r2 => exact ⟨_, _, _, _, rfl, .inr (.inl ⟨t.sq, t2.sq, k _ _ (wk_zipT t r t2 r2) q⟩)⟩
      | _ => exact q.elim
    | ref hm =>
      cases ru with
      | ref hk =>
        rename_i m j
        have q : bndW (match lstOf a.h (.ref m), lstOf a.h (.ref j) with
          | some xs, some ys => some (.zipL m j xs ys)
          | _, _ => none) Qd a.h := q
        split at q
        · rename_i xs ys e1 e2
          obtain ⟨vs, g1, g2⟩ := s.seq (lstOf_is e1)
          obtain ⟨us, g3, g4⟩ := s.seq (lstOf_is e2)
          exact ⟨_, _, vs, us, rfl, .inl ⟨g1, g3, k _ _ (wk_zipL hm hk) q⟩⟩
        · exact q.elim
      | tup t2 r2 =>
        rename_i m p2 us2 ds2
        have q : bndW ((lstOf a.h (.ref m)).map fun xs => .zipM m xs ds2) Qd a.h := q
        cases hl : lstOf a.h (.ref m) with
        | none => rw [hl] at q; exact q.elim
        | some xs =>
          rw [hl] at q
          obtain ⟨vs, g1, g2⟩ := s.seq (lstOf_is hl)
          exact ⟨_, _, vs, us2, rfl, .inr (.inr ⟨g1, t2.sq, k _ _ (wk_zipM hm t2 r2) q⟩)⟩
      | _ => exact q.elim
    | _ => exact q.elim
  | _ => cases c7
theorem snd_irev {a : E} (ha : Snd S a) : Snd S (.irev a) := by
  refine Snd.ofItr (fun _ _ => ⟨fun _ => rfl, fun _ => rfl, fun _ => rfl⟩) fun n sc X W tg ex o c => ?_
  have shp : ∃ x q y p, ex = .Call (.Name x q) [y] [] p := by
    unfold ck at c
    simp only [itCk] at c
    split at c
    · exact ⟨_, _, _, _, rfl⟩
    · cases c
  obtain ⟨x, q, y, p, rfl⟩ := shp
  have c : (decide (x = "reversed") && isGl sc x && plainH y && (ck S.nm X.N a).e sc y) = true := c
  simp only [Bool.and_eq_true, decide_eq_true_eq] at c
  obtain ⟨⟨⟨rfl, c2⟩, c3⟩, c4⟩ := c
  obtain ⟨h1, h2⟩ := o.gl c2
  refine impI (RT.pi_revA h1 (by rw [o.mg]; exact o.mgi.2.2.2.2.1) (ha.e n sc X W y o c4) (star_plain c3 [] X.env)) fun σ H R q =>
    itr_one (r := fun v H1 R => ∃ (p : Addr) (xs : List V), v = .ref p ∧ ((SqL X.K H1 p xs ∧ R (Itv X.K p xs.length) H1) ∨ (SqT X.K H1 p xs ∧ R (RT.ItvT X.K p xs.length) H1))) (fun a d v Qd s rv q k => ?_) q
  rw [o.K]
  cases rv with
  | tup t r => exact ⟨_, _, rfl, .inr ⟨t.sq, k _ _ (wk_revT t r) q⟩⟩
  | ref hm =>
    rename_i m
    have q : bndW (match a.h[m]? with
      | some (.lst ds) => some (.revL m ds)
      | some (.fro ds) => some (.revL m ds)
      | _ => none) Qd a.h := q
    split at q
    · rename_i ds e
      obtain ⟨vs, g1, g2⟩ := s.seq (.inl e)
      exact ⟨_, vs, rfl, .inl ⟨g1, k _ _ (walk_revL hm g2) q⟩⟩
    · rename_i ds e
      obtain ⟨vs, g1, g2⟩ := s.seq (.inr e)
      exact ⟨_, vs, rfl, .inl ⟨g1, k _ _ (walk_revL hm g2) q⟩⟩
    · exact q.elim
  | _ => exact q.elim
/-! ### dicts -/
theorem ditems_at (kvs : List (DKey × D)) (k : Dk) : (ditems kvs k).length = kvs.length := by cases k <;> exact List.length_map ..
theorem kvr_at {K : PySem.W.Frag} {a : Pt} : ∀ {kvs : List (DKey × D)} {ws : List (DKey × V)}, KVR K a kvs ws → ∀ {i : Nat} {p : DKey × V}, ws[i]? = some p → ∃ d, kvs[i]? = some (p.1, d) ∧ VR K a d p.2
  | _, _, .nil, _, _, e => by simp at e
  | q :: qs, _, .cons r t, 0, _, e => by
    have e := Option.some.inj e
    subst e
    exact ⟨q.2, congrArg some (Prod.ext r.1 rfl), r.2⟩
  | _, _, .cons r t, i + 1, _, e => kvr_at t (i := i) (by simpa using e)
theorem wk_frz {a0 : Pt} {m : Nat} {kvs : List (DKey × D)} {ws : List (DKey × V)} {od : Obj} (hm : m < a0.h.length) (hd : a0.H (a0.ρ m) = some (.frz od (.dK ws))) (rk : KVR S.K a0 kvs ws) :
    WkR S a0 (.dctL m kvs .keys) (Itk (a0.ρ m) od ws) ∧ WkR S a0 (.dctL m kvs .keysM) (Itk (a0.ρ m) od ws) ∧ WkR S a0 (.dctL m kvs .vals) (Itd (a0.ρ m) od ws) ∧ WkR S a0 (.dctL m kvs .items) (Iti (a0.ρ m) od ws) := by
  have hl : kvs.length = ws.length := Paired.length rk
  have keys : ∀ k : Dk, ditems kvs k = (kvs.map fun kv => ofKey kv.1) → WkR S a0 (.dctL m kvs k) (Itk (a0.ρ m) od ws) := fun k ek a l s _ => by
    have hH := l.f _ _ _ hd
    have w := walk_keys (d := a0.ρ m) (o := od) (kvs := ws)
    have el : (Wk.dctL m kvs k).items.length = ws.length := (ditems_at kvs k).trans hl
    refine ⟨by rw [el]; exact w.stops a.H hH, fun i hi => ?_⟩
    rw [el] at hi
    refine ⟨w.goes i a.H hi hH, fun x H' y => ?_⟩
    obtain ⟨e, k1, v, e1, e2⟩ := w.yields i a.H x H' hi hH y
    obtain ⟨d, g1, g2⟩ := kvr_at rk e1
    refine ⟨a, ofKey k1, e.symm, Pt.Le.rfl, s, rfl, ?_, by rw [e2]; exact VR.key k1⟩
    show (ditems kvs k)[i]? = _
    rw [ek, List.getElem?_map, g1]; rfl
  refine ⟨keys .keys rfl, keys .keysM rfl, fun a l s _ => ?_, fun a l s _ => ?_⟩
  · have hH := l.f _ _ _ hd
    have w := walk_values (d := a0.ρ m) (o := od) (kvs := ws)
    have el : (Wk.dctL m kvs .vals).items.length = ws.length := (ditems_at kvs .vals).trans hl
    refine ⟨by rw [el]; exact w.stops a.H hH, fun i hi => ?_⟩
    rw [el] at hi
    refine ⟨w.goes i a.H hi hH, fun x H' y => ?_⟩
    obtain ⟨e, k1, e1⟩ := w.yields i a.H x H' hi hH y
    obtain ⟨d, g1, g2⟩ := kvr_at rk e1
    refine ⟨a, d, e.symm, Pt.Le.rfl, s, rfl, ?_, g2.mono l⟩
    show (ditems kvs .vals)[i]? = _
    show (kvs.map fun kv => kv.2)[i]? = _
    rw [List.getElem?_map, g1]; rfl
  · have hH := l.f _ _ _ hd
    have w := walk_items (d := a0.ρ m) (o := od) (kvs := ws)
    have el : (Wk.dctL m kvs .items).items.length = ws.length := (ditems_at kvs .items).trans hl
    refine pairs_at (f := fun i => ((kvs[i]?).map fun kv => ofKey kv.1).getD .non) (g := fun i => ((kvs[i]?).map fun kv => kv.2).getD .non) w el s hH fun i x y hi e1 e2 => ?_
    obtain ⟨p, e3, e4⟩ := Option.map_eq_some_iff.mp e1
    obtain ⟨p2, e5, e6⟩ := Option.map_eq_some_iff.mp e2
    rw [e3] at e5
    cases e5
    obtain ⟨d, g1, g2⟩ := kvr_at rk e3
    refine ⟨?_, ?_, ?_⟩
    · show (kvs.map fun kv => D.tup [ofKey kv.1, kv.2])[i]? = _
      rw [List.getElem?_map, g1]; rfl
    · rw [g1, ← e4]; exact VR.key _
    · rw [g1, ← e6]; exact g2.mono l
theorem frz_of {b : Pt} {m : Nat} {kvs : List (DKey × D)} (s : SR S.K S.cl b) (em : b.h[m]? = some (.dfr kvs)) : ∃ od ws, b.H (b.ρ m) = some (.frz od (.dK ws)) ∧ KVR S.K b kvs ws := s.obj m _ em
/-- a dict is locked -/
theorem SR.lockD {b : Pt} {m : Nat} {kvs : List (DKey × D)} {ws : List (DKey × V)} {od : Obj} (s : SR S.K S.cl b) (em : b.h[m]? = some (.dct kvs)) (rk : KVR S.K b kvs ws) :
    b.Le (b.put m (.dfr kvs) (.frz od (.dK ws))) ∧ SR S.K S.cl (b.put m (.dfr kvs) (.frz od (.dK ws))) ∧ (b.put m (.dfr kvs) (.frz od (.dK ws))).H (b.ρ m) = some (.frz od (.dK ws)) := by
  have l := Pt.put_le (o := .dfr kvs) (u := .frz od (.dK ws)) s em
  exact ⟨l, s.put em ⟨od, ws, upd_same, KVR.mono l rk⟩, upd_same⟩
/-- .. and let go: what was there ahead of the lock stays -/
theorem SR.unlD {a b : Pt} {m : Nat} {kvs : List (DKey × D)} {ws : List (DKey × V)} {od : Obj} (sa : SR S.K S.cl a) (em : a.h[m]? = some (.dct kvs)) (rk : KVR S.K a kvs ws) (hd : a.H (a.ρ m) = some (.dK ws))
    (l : (a.put m (.dfr kvs) (.frz od (.dK ws))).Le b) (s : SR S.K S.cl b) (eb : b.h[m]? = some (.dfr kvs)) :
    b.H (a.ρ m) = some (.frz od (.dK ws)) ∧ b.ρ m = a.ρ m ∧ b.Lw (b.put m (.dct kvs) (.dK ws)) ∧ a.Le (b.put m (.dct kvs) (.dK ws)) ∧ SR S.K S.cl (b.put m (.dct kvs) (.dK ws)) := by
  have hm : m < a.h.length := (List.getElem?_eq_some_iff.mp em).1
  have l1 := Pt.put_le (o := .dfr kvs) (u := .frz od (.dK ws)) sa em
  have hf : b.H (a.ρ m) = some (.frz od (.dK ws)) := l.f _ _ _ upd_same
  have er : b.ρ m = a.ρ m := (l1.trans l).r m hm
  have lw : b.Lw (b.put m (.dct kvs) (.dK ws)) := Pt.put_lw s eb
  have rk2 : KVR S.K b kvs ws := KVR.mono (l1.trans l) rk
  refine ⟨hf, er, lw, ⟨(l1.trans l).toLw.trans lw, fun p ob u e => ?_⟩, s.put eb ⟨ws, upd_same, KVR.monoW lw rk2⟩⟩
  have ne : p ≠ b.ρ m := fun z => by
    rw [z, er, hd] at e
    cases e
  show upd b.H (b.ρ m) _ p = _
  rw [upd_ne ne]
  exact (l1.trans l).f p ob u e
theorem idct_imp {W : WX} {k : Dk} {va : Env → Hh → KD → KX → Prop} {σ : L2.St} {H : Hp} {R : It → Hp → Prop} {r : V → Hp → (It → Hp → Prop) → Prop}
    (hr : ∀ (b : Pt) (m : Nat) (kvs : List (DKey × D)) (ws : List (DKey × V)) (od : Obj), SR S.K S.cl b → b.h[m]? = some (.dfr kvs) → b.H (b.ρ m) = some (.frz od (.dK ws)) → KVR S.K b kvs ws → (∀ J, WkR S b (.dctL m kvs k) J → R J b.H) → r (.ref (b.ρ m)) b.H R)
    (h : tI S W (fun env h Q X => va env h (fun d h1 => bndWH (iDct k h1 d) Q) X) σ H R) :
    tE S W va σ H fun v H1 => r v H1 R ∨ ∃ d u, H1 d = some u ∧ Mut (some u) ∧ ∀ od, r v (upd H1 d (.frz od u)) R := by
  obtain ⟨a, env, Qd, Xd, eH, sr, er, hb, kq, kx⟩ := h
  refine ⟨a, env, _, Xd, eH, sr, er, hb, fun b d v l s rv q => ?_, kx⟩
  cases rv with
  | ref hn =>
    rename_i m
    have q : bndWH (match b.h[m]? with
      | some (.dct kvs) => some (.dctL m kvs k, b.h.set m (.dfr kvs))
      | some (.dfr kvs) => some (.dctL m kvs k, b.h)
      | _ => none) Qd := q
    split at q
    · rename_i kvs em
      obtain ⟨ws, g1, g2⟩ := s.obj m _ em
      refine .inr ⟨b.ρ m, .dK ws, g1, trivial, fun od => ?_⟩
      obtain ⟨l2, s2, hf⟩ := s.lockD (od := od) em g2
      refine hr (b.put m (.dfr kvs) (.frz od (.dK ws))) m kvs ws od s2 ?_ hf (KVR.mono l2 g2) fun J wr => kq _ _ J (l.trans l2) s2 wr q
      show (b.h.set m _)[m]? = _
      rw [List.getElem?_set_self hn]
    · rename_i kvs em
      obtain ⟨od, ws, g1, g2⟩ := frz_of s em
      exact .inl (hr b m kvs ws od s em g1 g2 fun J wr => kq b _ J l s wr q)
    · exact q.elim
  | _ => exact q.elim
theorem snd_idct {k : Dk} {a : E} (ha : Snd S a) : Snd S (.idct k a) := by
  refine Snd.ofItr (fun _ _ => ⟨fun _ => rfl, fun _ => rfl, fun _ => rfl⟩) fun n sc X W tg ex o c => ?_
  cases k with
  | keys =>
    have c : (ck S.nm X.N a).e sc ex = true := c
    exact impI (pi_keys (pe_then (ha.e n sc X W ex o c))) fun σ H R q => idct_imp (k := .keys) (r := fun x H1 R => ∃ d o, x = .ref d ∧ ((∃ kvs, H1 d = some (.frz o (.dK kvs)) ∧ R (Itk d o kvs) H1) ∨ ∃ kvs, H1 d = some (.frz o (.dT kvs)) ∧ R (Itkt d o kvs) H1))
      (fun b m kvs ws od s em hf rk kr => ⟨_, od, rfl, .inl ⟨ws, hf, kr _ (wk_frz (List.getElem?_eq_some_iff.mp em).1 hf rk).1⟩⟩) q
  | keysM =>
    have shp : ∃ z m ap mp, ex = .Call (.Attribute z m ap) [] [] mp ∧ (decide (m = "keys") && (ap.endLine == mp.line) && recvOk z && (ck S.nm X.N a).e sc z) = true := by
      unfold ck at c
      dsimp only [itCk] at c
      split at c
      · exact ⟨_, _, _, _, rfl, c⟩
      · cases c
    obtain ⟨z, m, ap, mp, rfl, c9⟩ := shp
    simp only [Bool.and_eq_true, decide_eq_true_eq] at c9
    obtain ⟨⟨⟨rfl, c2⟩, c3⟩, c4⟩ := c9
    exact impI (pi_keysM (pe_then (ha.e n sc X W z o c4)) (recv_base c3 _ X.env) c2) fun σ H R q => idct_imp (k := .keysM) (r := fun x H1 R => ∃ d o kvs, x = .ref d ∧ H1 d = some (.frz o (.dK kvs)) ∧ R (Itk d o kvs) H1)
      (fun b m kvs ws od s em hf rk kr => ⟨_, od, ws, rfl, hf, kr _ (wk_frz (List.getElem?_eq_some_iff.mp em).1 hf rk).2.1⟩) q
  | vals =>
    have shp : ∃ z m ap mp, ex = .Call (.Attribute z m ap) [] [] mp ∧ (decide (m = "values") && (ap.endLine == mp.line) && recvOk z && (ck S.nm X.N a).e sc z) = true := by
      unfold ck at c
      dsimp only [itCk] at c
      split at c
      · exact ⟨_, _, _, _, rfl, c⟩
      · cases c
    obtain ⟨z, m, ap, mp, rfl, c9⟩ := shp
    simp only [Bool.and_eq_true, decide_eq_true_eq] at c9
    obtain ⟨⟨⟨rfl, c2⟩, c3⟩, c4⟩ := c9
    exact impI (pi_values (pe_then (ha.e n sc X W z o c4)) (recv_base c3 _ X.env) c2) fun σ H R q => idct_imp (k := .vals) (r := fun x H1 R => ∃ d o kvs, x = .ref d ∧ H1 d = some (.frz o (.dK kvs)) ∧ R (Itd d o kvs) H1)
      (fun b m kvs ws od s em hf rk kr => ⟨_, od, ws, rfl, hf, kr _ (wk_frz (List.getElem?_eq_some_iff.mp em).1 hf rk).2.2.1⟩) q
  | items =>
    have shp : ∃ z m ap mp, ex = .Call (.Attribute z m ap) [] [] mp ∧ (decide (m = "items") && (ap.endLine == mp.line) && recvOk z && (ck S.nm X.N a).e sc z && isTup tg) = true := by
      unfold ck at c
      dsimp only [itCk] at c
      split at c
      · exact ⟨_, _, _, _, rfl, c⟩
      · cases c
    obtain ⟨z, m, ap, mp, rfl, c9⟩ := shp
    simp only [Bool.and_eq_true, decide_eq_true_eq] at c9
    obtain ⟨⟨⟨⟨rfl, c2⟩, c3⟩, c4⟩, c5⟩ := c9
    cases tg with
    | Tuple elts kk tpos =>
      exact impI (pi_items (pe_then (ha.e n sc X W z o c4)) (recv_base c3 _ X.env) c2) fun σ H R q => idct_imp (k := .items) (r := fun x H1 R => ∃ d o kvs, x = .ref d ∧ H1 d = some (.frz o (.dK kvs)) ∧ R (Iti d o kvs) H1)
        (fun b m kvs ws od s em hf rk kr => ⟨_, od, ws, rfl, hf, kr _ (wk_frz (List.getElem?_eq_some_iff.mp em).1 hf rk).2.2.2⟩) q
    | _ => cases c5
theorem lkAt_cases {h : Hh} {r : Option D} {q : Nat × List (DKey × D)} (e : lkAt h r = some q) : h[q.1]? = some (.dct q.2) := by
  unfold lkAt at e
  split at e
  · rename_i m
    obtain ⟨kvs, e1, e2⟩ := Option.map_eq_some_iff.mp e
    subst e2
    unfold dctAt at e1
    split at e1
    · rename_i kvs0 em
      cases e1
      exact em
    · cases e1
  · cases e
theorem lkd_imp {W : WX} {p : E} {va : Env → Hh → KD → KX → Prop} {σ : L2.St} {H : Hp} {Q : VK} (h : tE S W (fun env h Q X => lkQ (lkAt h (pv env h p)) (va env h Q X) fun q => va env (h.set q.1 (.dfr q.2)) (fun d h1 => unlQ q.1 q.2 h1 (Q d)) X) σ H Q) :
    tE S W va σ H Q ∨ tLockE (tE S W va) σ H Q := by
  obtain ⟨a, env, Qd, Xd, rfl, sr, er, hb, kq, kx⟩ := h
  cases hr : lkAt a.h (pv env a.h p) with
  | none => rw [hr] at hb; exact .inl ⟨a, env, Qd, Xd, rfl, sr, er, hb, kq, kx⟩
  | some q =>
    rw [hr] at hb
    obtain ⟨m, kvs⟩ := q
    have em : a.h[m]? = some (.dct kvs) := lkAt_cases hr
    obtain ⟨ws, g1, g2⟩ := sr.obj m _ em
    refine .inr ⟨a.ρ m, .dK ws, g1, trivial, fun od => ?_⟩
    obtain ⟨l1, s1, hf⟩ := sr.lockD (od := od) em g2
    refine ⟨a.put m (.dfr kvs) (.frz od (.dK ws)), env, _, Xd, rfl, s1, er.mono l1, hb, fun b d v l s rv ⟨eb, z⟩ => ?_, fun b x c d l => kx b x c d (l1.trans l)⟩
    obtain ⟨h1, h2, lw, h3, h4⟩ := sr.unlD (od := od) em g2 g1 l s eb
    refine ⟨h1, ?_⟩
    have := kq _ d v h3 h4 (rv.monoW lw) z
    have e4 : (b.put m (.dct kvs) (.dK ws)).H = upd b.H (a.ρ m) (.dK ws) := by
      show upd b.H (b.ρ m) _ = _
      rw [h2]
    rw [e4] at this
    exact this
theorem pe_or {X : Cx} {e : Expr} {t1 t2 : TE} (h1 : PE X e t1) (h2 : PE X e t2) : PE X e fun σ H Q => t1 σ H Q ∨ t2 σ H Q :=
  ⟨fun pins s σ H Q I q => q.elim (h1.run pins s σ H Q I) (h2.run pins s σ H Q I)⟩
theorem snd_lkd {p a : E} (ha : Snd S a) : Snd S (.lkd p a) := by
  refine Snd.ofVal' (fun _ => rfl) (fun _ => ⟨fun _ _ => rfl, fun _ _ _ => rfl, fun _ o => by cases o <;> rfl⟩) (fun _ _ _ _ _ => rfl) (fun N sc ex env c w => ?_) (fun n sc X W ex o c => ?_)
  · cases ex <;> first | rfl | cases c
  · have c : (ck S.nm X.N a).e sc ex = true := by
      cases ex <;> first | exact c | cases c
    have hE := ha.e n sc X W ex o c
    exact impE (pe_or hE (pe_lock hE)) fun σ H Q q => lkd_imp (p := p) q
/-- EVERY EXPRESSION -/
theorem snd (q : E) : Snd S q := by
  induction q with
  | v i => exact snd_v i
  | gc k => exact snd_gc k
  | ci n => exact snd_ci n
  | cb b => exact snd_cb b
  | cn => exact snd_cn
  | cs x => exact snd_cs x
  | bin op a b ha hb => exact snd_bin ha hb
  | cmp op a b ha hb => exact snd_cmp ha hb
  | chn o1 o2 a b c ha hb hc => exact snd_chn ha hb hc
  | and a b ha hb => exact snd_and ha hb
  | or a b ha hb => exact snd_or ha hb
  | not a ha => exact snd_not ha
  | neg a ha => exact snd_neg ha
  | ix a b ha hb => exact snd_ix ha hb
  | sl a b c ha hb hc => exact snd_sl ha hb hc
  | sls a b c ha hb hc => exact snd_sls ha hb hc
  | lst es h => exact snd_lst h
  | tup es h => exact snd_tup h
  | nil => exact snd_nil
  | cons e es h1 h2 => exact snd_cons h1 h2
  | call f es h => exact snd_call h
  | cald f es h => exact snd_cald h
  | blt f es h => exact snd_blt h
  | isi a t h => exact snd_isi h
  | un u a h => exact snd_un h
  | isx a cs h => exact snd_isx h
  | isk a t h => exact snd_isk h
  | fld a f h => exact snd_fld h
  | dnew => exact snd_dnew
  | d1 a b h1 h2 => exact snd_d1 h1 h2
  | d2 a b c d h1 h2 h3 h4 => exact snd_d2 h1 h2 h3 h4
  | dzip l a b h1 h2 => exact snd_dzip h1 h2
  | met o m es h1 h2 => exact snd_met h1 h2
  | nev => exact snd_nev
  | fs ps => exact snd_fs
  | mk c es h => exact snd_mk h
  | cm o m es h1 h2 => exact snd_cm h1 h2
  | cpr elt tg it cond own h1 h2 h3 => exact snd_cpr h1 h2 h3
  | lkd p c h1 h2 => exact snd_lkd h2
  | idct k a h => exact snd_idct h
  | irange a h => exact snd_irange h
  | irange2 a b h1 h2 => exact snd_irange2 h1 h2
  | irange3 a b c h1 h2 h3 => exact snd_irange3 h1 h2 h3
  | ienum a h => exact snd_ienum h
  | izip a b h1 h2 => exact snd_izip h1 h2
  | irev a h => exact snd_irev h
  | irevr a h => exact snd_irevr h
end Z

set_option Elab.async false
set_option linter.all false
set_option maxRecDepth 100000
/-! Z, part O: statements. -/
namespace Z
open PySem PySem.Spec PyProof.Rows L2

/-! ### the check -/
structure CkS where
  s : Scope → Stmt → Bool
  b : Scope → List Stmt → Bool
noncomputable def stCk (f : Scope → Stmt → Bool) : CkS where
  s := f
  b sc l := match l with
    | [x] => f sc x
    | _ => false
noncomputable def isDisp : Expr → Bool
  | .Tuple .. => true
  | .List .. => true
  | _ => false
noncomputable def isName : Expr → Bool
  | .Name .. => true
  | _ => false
/-- name = [..] : the name's store and the old value change places, or not -/
noncomputable def compTo (sc : Scope) (tg e : Expr) : Bool := match e, tg with
  | .ListComp _ [⟨_, _, _, 0⟩] scope p, .Name y py => (decide (sc.names.lookup y = some .local) && (py.line == p.line) && !(scope.names.any fun (m, k) => m == y && (k == .local || k == .cell)))
  | _, _ => false
noncomputable def isLk : E → Bool
  | .lkd _ _ => true
  | _ => false
noncomputable def cellTo (sc : Scope) (tg : Expr) : Bool := match tg with
  | .Name y _ => decide (sc.names.lookup y = some .cell)
  | _ => false
variable (nm : Nm) (N : List Str)
noncomputable def raC (sc : Scope) (e : Str) (i : Nat) : List Ra → List Expr → Bool
  | [], [] => true
  | .v j :: as, .Name x _ :: es => decide (j ≠ i) && isVis N sc j x && raC sc e i as es
  | .fl f :: as, .Attribute (.Name x _) g _ :: es => decide (x = e) && decide (g = f) && nm.fld.contains f && raC sc e i as es
  | _, _ => false
theorem cold_of {c b : Bool} (h : (!c && b) = true) : c = false ∧ b = true := by
  cases c with
  | true => cases h
  | false => exact ⟨rfl, h⟩
/-- the suite of an except -/
noncomputable def ckSu (sc : Scope) (su : Su) (st : Stmt) : Bool := match su with
  | .ret e => match st with
    | .Return (some e') _ => (constD e).isSome && (ck nm N e).e sc e'
    | _ => false
  | .set i e => match st with
    | .Assign [.Name x _] e' _ => isLoc N sc x i && (constD e).isSome && (ck nm N e).e sc e'
    | _ => false
  | .nev => true
/-- e.f, .. -/
noncomputable def fldsC (e : Str) : List Str → List Expr → Bool
  | [], [] => true
  | f :: fs, .Attribute (.Name x _) g _ :: es => decide (x = e) && decide (g = f) && nm.fld.contains f && fldsC e fs es
  | _, _ => false
noncomputable def hkC (sc : Scope) (e : Str) (hk : Hk) (st : Stmt) : Bool := match hk with
  | .keep k => match st with
    | .Assign [.Name y _] (.Name z _) _ => decide (z = e) && isLoc N sc y k
    | _ => false
  | .retf fs => match st with
    | .Return (some (.Tuple es _ _)) _ => fldsC nm e fs es && decide (es.length < 100)
    | _ => false
  | .setf k f => match st with
    | .Assign [.Name y _] (.Attribute (.Name z _) g _) _ => decide (z = e) && decide (g = f) && nm.fld.contains f && isLoc N sc y k
    | _ => false
  | .never => true
noncomputable def cs : S → CkS
  | .nev => ⟨fun _ _ => true, fun _ _ => true⟩
  | .nop => stCk fun _ st => match st with
    | .Pass _ => true
    | _ => false
  | .brk => stCk fun _ st => match st with
    | .Break _ => true
    | _ => false
  | .done => { stCk (fun _ _ => false) with b := fun _ l => l.isEmpty }
  | .lkd _ s => stCk fun sc st => (cs s).s sc st
  | .rai c => stCk fun sc st => match st with
    | .Raise (some (.Call (.Name x _) [.Constant (.str _) _ _] [] _)) none _ => decide (x = c) && isGl sc x && nm.exs.contains c
    | _ => false
  | .raix c fs es => stCk fun sc st => match st with
    | .Raise (some (.Call (.Name x _) (y :: ys) [] _)) none _ => decide (x = c) && isGl sc x && nm.exi.contains (c, fs) && (ck nm N es).a sc (y :: ys)
    | _ => false
  | .tryn body c i hk => stCk fun sc st => match st with
    | .Try b' [.ExceptHandler (some (.Name x _)) (some e) [su] _] [] [] _ => !nm.cold && (decide (x = c) && isGl sc x && nm.cat.contains c && (cs body).b sc b' && isVis N sc i e && hkC nm N sc e hk su)
    | _ => false
  | .trc k f es c i c2 fs as => stCk fun sc st => match st with
    | .Try [.Assign [.Name y _] (.Call (.Name fx _) (a1 :: al) [] _) _] [.ExceptHandler (some (.Name x _)) (some e) [.Raise (some (.Call (.Name x2 _) (b1 :: bl) [] _)) none _] _] [] [] _ =>
      !nm.cold && (isLoc N sc y k && decide (nm.fn[f]? = some fx) && nm.cl.contains fx && isGl sc fx && (ck nm N es).a sc (a1 :: al) && decide (x = c) && isGl sc x && nm.cat.contains c && isVis N sc i e && decide (x2 = c2) && isGl sc x2 && nm.exi.contains (c2, fs) && raC nm N sc e i as (b1 :: bl))
    | _ => false
  | .tryx body c su els => stCk fun sc st => match st with
    | .Try b' [.ExceptHandler (some (.Name x _)) none [t'] _] e' [] _ => !nm.cold && (decide (x = c) && isGl sc x && nm.cat.contains c && (cs body).b sc b' && ckSu nm N sc su t' && (cs els).b sc e')
    | _ => false
  | .tryy body c su c2 su2 => stCk fun sc st => match st with
    | .Try b' [.ExceptHandler (some (.Name x _)) none [t'] _, .ExceptHandler (some (.Name x2 _)) none [t2] _] [] [] _ => !nm.cold && (decide (x = c) && isGl sc x && nm.cat.contains c && decide (x2 = c2) && isGl sc x2 && nm.cat.contains c2 && (cs body).b sc b' && ckSu nm N sc su t' && ckSu nm N sc su2 t2)
    | _ => false
  | .asg tg e => stCk fun sc st => match st with
    | .Assign [t'] e' _ => okTg N sc tg t' && (ck nm N e).e sc e' && plainH e' &&
        ((noComp e' && (isName t' || !isDisp e')) || (!isLk e && compTo sc t' e') || (cellTo sc t' && !isDisp e'))
    | _ => false
  | .asgl is e => stCk fun sc st => match st with
    | .Assign [.Tuple es _ _] e' _ => tgNames N sc is es && (ck nm N e).e sc e' && plainH e' && noComp e' && !isDisp e'
    | _ => false
  | .setix o i e => stCk fun sc st => match st with
    | .Assign [.Subscript o' i' _] e' _ => (ck nm N o).e sc o' && (ck nm N i).e sc i' && plainH i' && (ck nm N e).e sc e' && plainH e'
    | _ => false
  | .setf o f e => stCk fun sc st => match st with
    | .Assign [.Attribute o' g _] e' _ => (ck nm N o).e sc o' && decide (g = f) && nm.fld.contains f && (ck nm N e).e sc e' && plainH e'
    | _ => false
  | .exp e => stCk fun sc st => match st with
    | .Expr e' _ => (ck nm N e).e sc e' && plainH e' && noComp e'
    | _ => false
  | .ret e => stCk fun sc st => match st with
    | .Return (some e') _ => (ck nm N e).e sc e'
    | .Return none _ => match e with
      | .cn => true
      | _ => false
    | _ => false
  | .ite c a b => stCk fun sc st => match st with
    | .If c' a' b' _ => (ck nm N c).e sc c' && (cs a).b sc a' && (cs b).b sc b'
    | _ => false
  | .for tg it body => stCk fun sc st => match st with
    | .For t' i' b' [] _ => okTg N sc tg t' && (ck nm N it).i sc t' i' && setNo i' && (cs body).b sc b'
    | _ => false
  | .whl c body => stCk fun sc st => match st with
    | .While c' b' [] _ => (ck nm N c).e sc c' && (cs body).b sc b'
    | _ => false
  | .seq a b => { stCk (fun _ _ => false) with b := fun sc l => match l with
    | x :: xs => (cs a).s sc x && (cs b).b sc xs
    | [] => false }

/-! ### readings -/
structure EQ (S : Stat) (W : WX) (a : Pt) (D' : Ends) (D : L2.Ends) : Prop where
  nx : ∀ b env σ, a.Le b → SR S.K S.cl b → ER S.K b env σ → D'.nx env b.h → D.nx σ b.H
  rt : ∀ b d v, a.Le b → SR S.K S.cl b → VR S.K b d v → D'.rt d b.h → D.rt v b.H
  bk : ∀ b env σ, a.Le b → SR S.K S.cl b → ER S.K b env σ → D'.bk env b.h → D.bk σ b.H
  ex : ∀ b x c d env σ, a.Le b → SR S.K S.cl b → ER S.K b env σ → XR S.K S.cl b x c d → D'.ex x env b.h → W c d σ b.H
theorem EQ.mono {S : Stat} {W : WX} {a b : Pt} {D' : Ends} {D : L2.Ends} (q : EQ S W a D' D) (l : a.Le b) : EQ S W b D' D :=
  ⟨fun c env σ l2 => q.nx c env σ (l.trans l2), fun c d v l2 => q.rt c d v (l.trans l2), fun c env σ l2 => q.bk c env σ (l.trans l2), fun c x cc d env σ l2 => q.ex c x cc d env σ (l.trans l2)⟩
noncomputable def tS (S : Stat) (W : WX) (f : Ends → Env → Hh → Prop) : TS := fun D σ H => ∃ a env D', a.H = H ∧ SR S.K S.cl a ∧ ER S.K a env σ ∧ f D' env a.h ∧ EQ S W a D' D
variable {S : Stat}
section
variable {n : Nat} {sc : Scope} {X : Cx} {W : WX}
theorem EQ.kx {a : Pt} {D' : Ends} {D : L2.Ends} (q : EQ S W a D' D) {env : Env} {σ : L2.St} (er : ER S.K a env σ) : KXQ S.K S.cl a (fun x h1 => D'.ex x env h1) (fun c d H => W c d σ H) :=
  fun b x c d l s xr z => q.ex b x c d env σ l s (er.mono l) xr z

theorem comp_false {e : Expr} (h : noComp e = true) (hp : plainH e = true) (t : Option Expr) (l : Nat) (env : PySem.Env) : swapsWith e t l env = pure false := by
  cases e <;> first | rfl | cases h | cases hp
theorem disp_none {e t : Expr} (h : isDisp e = false) (env : PySem.Env) : swappedStores [t] e env = pure none := by
  cases e <;> first | (cases t <;> rfl) | (exact absurd h (by simp [isDisp]))
theorem asg_one {tg : Tg} {t : Expr} (h : okTg X.N sc tg t = true) : (assignEach [t] X.env).map (·.2) = [assign t X.env] := by
  cases tg <;> cases t <;> first | rfl | cases h
theorem cell_false {y : Str} {elt : Expr} {gs : List Comprehension} {scope : Scope} {p py : Pos} {l : Nat} {env : PySem.Env} (h : env.kindOf y = some .cell) : swapsWith (.ListComp elt gs scope p) (some (.Name y py)) l env = pure false := by
  have h2 : (NameKind.cell == NameKind.local) = false := by decide
  unfold swapsWith
  simp only [h]
  simp [h2]
theorem asg_imp {tg : Tg} {va : Env → Hh → KD → KX → Prop} {σ : L2.St} {H : Hp} {D : L2.Ends} (h : tS S W (fun D env h => va env h (fun d h1 => bndE (tg.put d env) fun env1 => D.nx env1 h1) (fun x h1 => D.ex x env h1)) D σ H) :
    tAsg (tE S W va) (gD S tg) D σ H := by
  obtain ⟨a, env, D', eH, sr, er, hf, q⟩ := h
  exact ⟨a, env, _, _, eH, sr, er, hf, fun b d v l s r z => ⟨b, env, d, _, rfl, s, er.mono l, r, z, fun env' σ' er' _ z' => q.nx b env' σ' l s er' z'⟩, q.kx er⟩
/-- a plain name's store alone -/
theorem nm_imp {i : Nat} {va : Env → Hh → KD → KX → Prop} {σ : L2.St} {H : Hp} {D : L2.Ends} (h : tS S W (fun D env h => va env h (fun d h1 => bndE (Tg.put (.nm i) d env) fun env1 => D.nx env1 h1) (fun x h1 => D.ex x env h1)) D σ H) :
    tE S W va σ H fun x H1 => gName i x σ H1 D.nx := by
  obtain ⟨a, env, D', eH, sr, er, hf, q⟩ := h
  exact ⟨a, env, _, _, eH, sr, er, hf, fun b d v l s r z => q.nx b _ _ l s ((er.mono l).set i r) z, q.kx er⟩
end

/-- a def's own frame is the first one -/
noncomputable def Frm (X : Cx) : Prop := X.stack = X.env :: X.outer ∧ X.env.frame = some X.env.locals
structure SndS (S : Stat) (q : Z.S) : Prop where
  s : ∀ n sc X W st, XOk S n sc X W → PassesOwn (model X.prog X.w) X.A X.env X.xe → Frm X → (cs S.nm X.N q).s sc st = true → PS X st (tS S W (wpS (S.pg.g (S.pg.run n)) q))
  b : ∀ n sc X W l, XOk S n sc X W → PassesOwn (model X.prog X.w) X.A X.env X.xe → Frm X → (cs S.nm X.N q).b sc l = true → PSs X l (tS S W (wpS (S.pg.g (S.pg.run n)) q))
theorem SndS.ofSt {q : Z.S} (hb : ∀ N, (cs S.nm N q).b = (stCk (cs S.nm N q).s).b) (h : ∀ n sc X W st, XOk S n sc X W → PassesOwn (model X.prog X.w) X.A X.env X.xe → Frm X → (cs S.nm X.N q).s sc st = true → PS X st (tS S W (wpS (S.pg.g (S.pg.run n)) q))) : SndS S q where
  s := h
  b n sc X W l o po fo c := by
    rw [hb] at c
    match l, c with
    | [x], c => exact pss_one (h n sc X W x o po fo c)
    | [], c => cases c
    | _ :: _ :: _, c => cases c
theorem sts_nop : SndS S .nop := SndS.ofSt (fun _ => rfl) fun n sc X W st o po fo c => by
  cases st with
  | Pass p => exact impS ps_pass fun D σ H ⟨a, env, D', eH, sr, er, hf, q⟩ => by subst eH; exact q.nx a env σ Pt.Le.rfl sr er hf
  | _ => cases c
theorem sts_brk : SndS S .brk := SndS.ofSt (fun _ => rfl) fun n sc X W st o po fo c => by
  cases st with
  | Break p => exact impS ps_break fun D σ H ⟨a, env, D', eH, sr, er, hf, q⟩ => by subst eH; exact q.bk a env σ Pt.Le.rfl sr er hf
  | _ => cases c
theorem sts_done : SndS S .done := ⟨fun n sc X W st o po fo c => (by cases c), fun n sc X W l o po fo c => by
  cases l with
  | nil => exact impSs pss_nil fun D σ H ⟨a, env, D', eH, sr, er, hf, q⟩ => by subst eH; exact q.nx a env σ Pt.Le.rfl sr er hf
  | cons _ _ => cases c⟩
theorem sts_seq {a b : Z.S} (ha : SndS S a) (hb : SndS S b) : SndS S (.seq a b) := ⟨fun n sc X W st o po fo c => (by cases c), fun n sc X W l o po fo c => by
  cases l with
  | nil => cases c
  | cons x xs =>
    have c : ((cs S.nm X.N a).s sc x && (cs S.nm X.N b).b sc xs) = true := c
    rw [Bool.and_eq_true] at c
    refine impSs (pss_cons (ha.s n sc X W x o po fo c.1) (hb.b n sc X W xs o po fo c.2)) fun D σ H ⟨p, env, D', eH, sr, er, hf, q⟩ => ?_
    refine ⟨p, env, _, eH, sr, er, hf, ⟨fun b' env' σ' l s er' z => ?_, q.rt, q.bk, q.ex⟩⟩
    exact ⟨b', env', D', rfl, s, er', z, q.mono l⟩⟩
theorem sts_nev : SndS S .nev := ⟨fun n sc X W st o po fo c => ⟨fun pins s σ H D I ⟨a, env, D', eH, sr, er, hf, q⟩ => hf.elim⟩, fun n sc X W l o po fo c => ⟨fun pins s σ H D I ⟨a, env, D', eH, sr, er, hf, q⟩ => hf.elim⟩⟩
theorem kvr_putF {K : PySem.W.Frag} {a : Pt} {f : Str} {d : Z.D} {v : V} (q : VR K a d v) : ∀ {fs : List (Str × Z.D)} {ws : List (Str × V)}, KVR K a fs ws → KVR K a (putFD f d fs) (L2.putF f v ws)
  | [], _, .nil => .cons ⟨rfl, q⟩ .nil
  | (k, x) :: r, (k2, y) :: ws, .cons h t => by
    obtain ⟨e1, e2⟩ := h
    dsimp only at e1 e2
    subst e1
    show KVR K a (if k = f then (k, d) :: r else (k, x) :: putFD f d r) (if k = f then (k, v) :: ws else (k, y) :: L2.putF f v ws)
    by_cases hk : k = f
    · rw [if_pos hk, if_pos hk]; exact .cons ⟨rfl, q⟩ t
    · rw [if_neg hk, if_neg hk]; exact .cons ⟨rfl, e2⟩ (kvr_putF q t)
theorem sts_setf {x e : E} {f : Str} : SndS S (.setf x f e) := SndS.ofSt (fun _ => rfl) fun n sc X W st o po fo c => by
  have shp : ∃ o' p' e' p, st = .Assign [.Attribute o' f p'] e' p ∧ ((ck S.nm X.N x).e sc o' && S.nm.fld.contains f && (ck S.nm X.N e).e sc e' && plainH e') = true := by
    unfold cs at c
    simp only [stCk] at c
    split at c
    · simp only [Bool.and_eq_true, decide_eq_true_eq] at c
      obtain ⟨⟨⟨⟨c1, rfl⟩, c2⟩, c3⟩, c4⟩ := c
      exact ⟨_, _, _, _, rfl, by rw [c1, c2, c3, c4]; rfl⟩
    · cases c
  obtain ⟨o', p', e', p, rfl, hq⟩ := shp
  simp only [Bool.and_eq_true, List.contains_iff_mem] at hq
  obtain ⟨⟨⟨c1, c2⟩, c3⟩, c4⟩ := hq
  refine impS (ps_fld ((snd x).e n sc X W o' o c1) ((snd e).e n sc X W e' o c3) (by cases e' <;> first | rfl | cases c4)) fun D σ H ⟨a, env, D', eH, sr, er, hf, q⟩ => ?_
  refine ⟨a, env, _, _, eH, sr, er, hf, fun b d v l s rv z => ?_, q.kx er⟩
  refine ⟨b, env, _, _, rfl, s, er.mono l, z, fun b2 d2 v2 l2 s2 rv2 z2 => ?_, (q.mono l).kx (er.mono l)⟩
  cases rv2 with
  | ref hn =>
    rename_i m
    have z2 : bndH (match b2.h[m]? with
      | some (.ins c fs) => if fs.length < 1000 then some (b2.h.set m (.ins c (putFD f d fs))) else none
      | _ => none) (fun h3 => D'.nx env h3) := z2
    split at z2
    · rename_i cn fs hm
      by_cases hl : fs.length < 1000
      · rw [if_pos hl] at z2
        obtain ⟨C, dx, ws, g1, g2, g3, g4⟩ := s2.obj m _ hm
        have hno := o.tx.fld cn C f g1 c2
        rw [← o.K] at g2 hno
        have l3 : b2.Le (b2.put m (.ins cn (putFD f d fs)) (.ins C dx (L2.putF f v ws))) := Pt.put_le s2 hm
        refine ⟨_, C, dx, ws, rfl, g3, g2, hno, by rw [← Paired.length g4]; exact hl, ?_⟩
        rw [o.K] at g2
        exact q.nx (b2.put m (.ins cn (putFD f d fs)) (.ins C dx (L2.putF f v ws))) env σ ((l.trans l2).trans l3) (s2.put hm ⟨C, dx, _, g1, g2, upd_same, KVR.mono l3 (kvr_putF (rv.mono l2) g4)⟩) (er.mono ((l.trans l2).trans l3)) z2
      · rw [if_neg hl] at z2; exact z2.elim
    · exact z2.elim
  | _ => exact z2.elim
theorem sts_exp {e : E} : SndS S (.exp e) := SndS.ofSt (fun _ => rfl) fun n sc X W st o po fo c => by
  cases st with
  | Expr e' p =>
    have c : ((ck S.nm X.N e).e sc e' && plainH e' && noComp e') = true := c
    simp only [Bool.and_eq_true] at c
    refine impS (ps_expr ((snd e).e n sc X W e' o c.1.1) (comp_false c.2 c.1.2 _ _ _)) fun D σ H ⟨a, env, D', eH, sr, er, hf, q⟩ => ?_
    exact ⟨a, env, _, _, eH, sr, er, hf, fun b d v l s r z => q.nx b env σ l s (er.mono l) z, q.kx er⟩
  | _ => cases c
theorem sts_ret {e : E} : SndS S (.ret e) := SndS.ofSt (fun _ => rfl) fun n sc X W st o po fo c => by
  cases st with
  | Return v p =>
    cases v with
    | none =>
      cases e with
      | cn => exact impS ps_retN fun D σ H ⟨a, env, D', eH, sr, er, hf, q⟩ => by subst eH; exact q.rt a .non .non Pt.Le.rfl sr .non hf
      | _ => cases c
    | some e' =>
      refine impS (ps_ret ((snd e).e n sc X W e' o c)) fun D σ H ⟨a, env, D', eH, sr, er, hf, q⟩ => ?_
      exact ⟨a, env, _, _, eH, sr, er, hf, fun b d v l s r z => q.rt b d v l s r z, q.kx er⟩
  | _ => cases c
theorem sts_ite {e : E} {a b : Z.S} (ha : SndS S a) (hb : SndS S b) : SndS S (.ite e a b) := SndS.ofSt (fun _ => rfl) fun n sc X W st o po fo c => by
  cases st with
  | If c' a' b' p =>
    have c : ((ck S.nm X.N e).e sc c' && (cs S.nm X.N a).b sc a' && (cs S.nm X.N b).b sc b') = true := c
    simp only [Bool.and_eq_true] at c
    refine impS (ps_if ((snd e).t n sc X W c' o c.1.1) (ha.b n sc X W a' o po fo c.1.2) (hb.b n sc X W b' o po fo c.2)) fun D σ H ⟨p, env, D', eH, sr, er, hf, q⟩ => ?_
    refine ⟨p, env, _, _, eH, sr, er, hf, fun b1 k l s z => ?_, q.kx er⟩
    cases k with
    | true =>
      simp only [↓reduceIte] at z ⊢
      exact ⟨b1, env, D', rfl, s, er.mono l, z, q.mono l⟩
    | false =>
      simp only [Bool.false_eq_true, ↓reduceIte] at z ⊢
      exact ⟨b1, env, D', rfl, s, er.mono l, z, q.mono l⟩
  | _ => cases c
theorem sts_for {tg : Tg} {it : E} {body : Z.S} (hb : SndS S body) : SndS S (.for tg it body) := SndS.ofSt (fun _ => rfl) fun n sc X W st o po fo c => by
  have shp : ∃ t' i' b' p, st = .For t' i' b' [] p := by
    unfold cs at c
    simp only [stCk] at c
    split at c
    · exact ⟨_, _, _, _, rfl⟩
    · cases c
  obtain ⟨t', i', b', p, rfl⟩ := shp
  have c : (okTg X.N sc tg t' && (ck S.nm X.N it).i sc t' i' && setNo i' && (cs S.nm X.N body).b sc b') = true := c
  simp only [Bool.and_eq_true] at c
  obtain ⟨⟨⟨c1, c2⟩, c3⟩, c4⟩ := c
  refine impS (ps_for po o.calm ((snd it).i n sc X W t' i' o c2) (pg_any o c1) (hb.b n sc X W b' o po fo c4) (fold_plain c3 X.env)) fun D σ H ⟨a, env, D', eH, sr, er, hf, q⟩ => ?_
  refine ⟨a, env, _, _, eH, sr, er, hf, fun a1 w J l1 s1 wr hw => ?_, q.kx er⟩
  refine ⟨fun i m σ H => ∃ (b : Pt) (env : Env), m = w.items.length - i ∧ i ≤ w.items.length ∧ b.H = H ∧ a1.Le b ∧ SR S.K S.cl b ∧ ER S.K b env σ ∧
      walk w.guard (fun d env h K => bndE (tg.put d env) fun env1 => wpS (S.pg.g (S.pg.run n)) body { nx := K, rt := D'.rt, bk := D'.nx, ex := D'.ex } env1 h) D'.nx (w.items.drop i) env b.h,
    ⟨w.items.length, a1, env, rfl, Nat.zero_le _, rfl, Pt.Le.rfl, s1, er.mono l1, hw⟩, ?_⟩
  rintro i m σ1 H1 ⟨b, env1, rfl, hi, rfl, lb, sb, er1, hwk⟩
  by_cases hlt : i < w.items.length
  · rw [List.drop_eq_getElem_cons hlt] at hwk
    obtain ⟨hgd, hstep⟩ := hwk
    obtain ⟨_, hgo⟩ := wr b lb sb hgd
    obtain ⟨hgo1, hyl⟩ := hgo i hlt
    refine .inr ⟨hgo1, fun σ' H' => ∃ (b : Pt) (env : Env), b.H = H' ∧ a1.Le b ∧ SR S.K S.cl b ∧ ER S.K b env σ' ∧
      walk w.guard (fun d env h K => bndE (tg.put d env) fun env1 => wpS (S.pg.g (S.pg.run n)) body { nx := K, rt := D'.rt, bk := D'.nx, ex := D'.ex } env1 h) D'.nx (w.items.drop (i + 1)) env b.h,
      fun σ' H' ⟨b2, env2, e, l2, s2, er2, z⟩ => ⟨w.items.length - (i + 1), by omega, b2, env2, rfl, hlt, e, l2, s2, er2, z⟩, fun x H' y => ?_⟩
    obtain ⟨g, d, rfl, lg, sg, eg, hdi, vr⟩ := hyl x H' y
    rw [List.getElem?_eq_getElem hlt] at hdi
    cases hdi
    rw [← eg] at hstep
    refine ⟨g, env1, _, _, rfl, sg, er1.mono lg, vr, hstep, fun env2 σ2 er2 _ z => ?_⟩
    refine ⟨g, env2, _, rfl, sg, er2, z, ⟨fun b3 env3 σ3 l3 s3 er3 z3 => ?_, ?_, ?_, ?_⟩⟩
    · exact ⟨b3, env3, rfl, (lb.trans lg).trans l3, s3, er3, z3⟩
    · exact fun b3 d3 v3 l3 => q.rt b3 d3 v3 (((l1.trans lb).trans lg).trans l3)
    · exact fun b3 env3 σ3 l3 => q.nx b3 env3 σ3 (((l1.trans lb).trans lg).trans l3)
    · exact fun b3 x3 c3 d3 env3 σ3 l3 => q.ex b3 x3 c3 d3 env3 σ3 (((l1.trans lb).trans lg).trans l3)
  · have e : i = w.items.length := by omega
    subst e
    rw [List.drop_length] at hwk
    exact .inl ⟨(wr b lb sb hwk.1).1, q.nx b env1 σ1 (l1.trans lb) sb er1 hwk.2⟩
theorem lkdS_imp {W : WX} {p : E} {f : Ends → Env → Hh → Prop} {σ : L2.St} {H : Hp} {D : L2.Ends} (h : tS S W (fun D env h => lkQ (lkAt h (pv env h p)) (f D env h) fun q => f (enU q.1 q.2 D) env (h.set q.1 (.dfr q.2))) D σ H) :
    tS S W f D σ H ∨ tLock (tS S W f) D σ H := by
  obtain ⟨a, env, D', rfl, sr, er, hb, q⟩ := h
  cases hr : lkAt a.h (pv env a.h p) with
  | none => rw [hr] at hb; exact .inl ⟨a, env, D', rfl, sr, er, hb, q⟩
  | some r =>
    rw [hr] at hb
    obtain ⟨m, kvs⟩ := r
    have em : a.h[m]? = some (.dct kvs) := lkAt_cases hr
    obtain ⟨ws, g1, g2⟩ := sr.obj m _ em
    refine .inr ⟨a.ρ m, .dK ws, g1, trivial, fun od => ?_⟩
    obtain ⟨l1, s1, hf⟩ := sr.lockD (od := od) em g2
    have key : ∀ b : Pt, (a.put m (.dfr kvs) (.frz od (.dK ws))).Le b → SR S.K S.cl b → b.h[m]? = some (.dfr kvs) →
        b.H (a.ρ m) = some (.frz od (.dK ws)) ∧ (b.put m (.dct kvs) (.dK ws)).H = upd b.H (a.ρ m) (.dK ws) ∧ b.Lw (b.put m (.dct kvs) (.dK ws)) ∧ a.Le (b.put m (.dct kvs) (.dK ws)) ∧ SR S.K S.cl (b.put m (.dct kvs) (.dK ws)) := fun b l s eb => by
      obtain ⟨h1, h2, lw, h3, h4⟩ := sr.unlD (od := od) em g2 g1 l s eb
      refine ⟨h1, ?_, lw, h3, h4⟩
      show upd b.H (b.ρ m) _ = _
      rw [h2]
    refine ⟨a.put m (.dfr kvs) (.frz od (.dK ws)), env, enU m kvs D', rfl, s1, er.mono l1, hb, ⟨fun b env' σ' l s er' ⟨eb, z⟩ => ?_, fun b d v l s rv ⟨eb, z⟩ => ?_, fun b env' σ' l s er' ⟨eb, z⟩ => ?_, fun b x c d env' σ' l => q.ex b x c d env' σ' (l1.trans l)⟩⟩
    · obtain ⟨k1, k2, lw, k3, k4⟩ := key b l s eb
      have := q.nx _ env' σ' k3 k4 (er'.monoW lw) z
      rw [k2] at this
      exact ⟨k1, this⟩
    · obtain ⟨k1, k2, lw, k3, k4⟩ := key b l s eb
      have := q.rt _ d v k3 k4 (rv.monoW lw) z
      rw [k2] at this
      exact ⟨k1, this⟩
    · obtain ⟨k1, k2, lw, k3, k4⟩ := key b l s eb
      have := q.bk _ env' σ' k3 k4 (er'.monoW lw) z
      rw [k2] at this
      exact ⟨k1, this⟩
theorem ps_or {X : Cx} {st : Stmt} {t1 t2 : TS} (h1 : PS X st t1) (h2 : PS X st t2) : PS X st fun D σ H => t1 D σ H ∨ t2 D σ H :=
  ⟨fun pins s σ H D I q => q.elim (h1.run pins s σ H D I) (h2.run pins s σ H D I)⟩
theorem sts_lkd {p : E} {s : Z.S} (hs : SndS S s) : SndS S (.lkd p s) := SndS.ofSt (fun _ => rfl) fun n sc X W st o po fo c => by
  have hS := hs.s n sc X W st o po fo c
  exact impS (ps_or hS (ps_lock hS)) fun D σ H q => lkdS_imp (p := p) q
theorem sts_whl {e : E} {body : Z.S} (hb : SndS S body) : SndS S (.whl e body) := SndS.ofSt (fun _ => rfl) fun n sc X W st o po fo c => by
  have shp : ∃ c' b' p, st = .While c' b' [] p := by
    unfold cs at c
    simp only [stCk] at c
    split at c
    · exact ⟨_, _, _, rfl⟩
    · cases c
  obtain ⟨c', b', p, rfl⟩ := shp
  have c : ((ck S.nm X.N e).e sc c' && (cs S.nm X.N body).b sc b') = true := c
  rw [Bool.and_eq_true] at c
  refine impS (ps_while po ((snd e).t n sc X W c' o c.1) (hb.b n sc X W b' o po fo c.2)) fun D σ H ⟨a, env, D', eH, sr, er, hf, q⟩ => ?_
  obtain ⟨m0, hf⟩ := hf
  refine ⟨fun m σ H => ∃ (b : Pt) (env : Env), b.H = H ∧ a.Le b ∧ SR S.K S.cl b ∧ ER S.K b env σ ∧ whileN (fun env h Q => (sem (S.pg.g (S.pg.run n)) e).tst env h Q (fun x h1 => D'.ex x env h1))
      (fun K env h => wpS (S.pg.g (S.pg.run n)) body { nx := K, rt := D'.rt, bk := D'.nx, ex := D'.ex } env h) D'.nx m env b.h, ⟨m0, a, env, eH, Pt.Le.rfl, sr, er, hf⟩, ?_⟩
  rintro m σ1 H1 ⟨b, env1, rfl, lb, sb, er1, hw⟩
  cases m with
  | zero => exact hw.elim
  | succ m =>
    refine ⟨b, env1, _, _, rfl, sb, er1, hw, fun g k lg sg z => ?_, (q.mono lb).kx er1⟩
    cases k with
    | true =>
      simp only [↓reduceIte] at z ⊢
      refine ⟨fun σ' H' => ∃ (b : Pt) (env : Env), b.H = H' ∧ a.Le b ∧ SR S.K S.cl b ∧ ER S.K b env σ' ∧ whileN (fun env h Q => (sem (S.pg.g (S.pg.run n)) e).tst env h Q (fun x h1 => D'.ex x env h1))
        (fun K env h => wpS (S.pg.g (S.pg.run n)) body { nx := K, rt := D'.rt, bk := D'.nx, ex := D'.ex } env h) D'.nx m env b.h, fun σ' H' z' => ⟨m, Nat.lt_succ_self m, z'⟩, ?_⟩
      refine ⟨g, env1, _, rfl, sg, er1.mono lg, z, ⟨fun b3 env3 σ3 l3 s3 er3 z3 => ?_, ?_, ?_, ?_⟩⟩
      · exact ⟨b3, env3, rfl, (lb.trans lg).trans l3, s3, er3, z3⟩
      · exact fun b3 d3 v3 l3 => q.rt b3 d3 v3 ((lb.trans lg).trans l3)
      · exact fun b3 env3 σ3 l3 => q.nx b3 env3 σ3 ((lb.trans lg).trans l3)
      · exact fun b3 x3 c3 d3 env3 σ3 l3 => q.ex b3 x3 c3 d3 env3 σ3 ((lb.trans lg).trans l3)
    | false =>
      simp only [Bool.false_eq_true, ↓reduceIte] at z ⊢
      exact q.nx g env1 σ1 (lb.trans lg) sg (er1.mono lg) z
theorem sts_asg {tg : Tg} {e : E} : SndS S (.asg tg e) := SndS.ofSt (fun _ => rfl) fun n sc X W st o po fo c => by
  have shp : ∃ t' e' p, st = .Assign [t'] e' p := by
    unfold cs at c
    simp only [stCk] at c
    split at c
    · exact ⟨_, _, _, rfl⟩
    · cases c
  obtain ⟨t', e', p, rfl⟩ := shp
  have c : (okTg X.N sc tg t' && (ck S.nm X.N e).e sc e' && plainH e' && ((noComp e' && (isName t' || !isDisp e')) || (!isLk e && compTo sc t' e') || (cellTo sc t' && !isDisp e'))) = true := c
  simp only [Bool.and_eq_true] at c
  obtain ⟨⟨⟨c1, c2⟩, c3⟩, c4⟩ := c
  have hE := (snd e).e n sc X W e' o c2
  rw [Bool.or_eq_true, Bool.or_eq_true] at c4
  rcases c4 with (c4 | c4) | c4
  · rw [Bool.and_eq_true, Bool.or_eq_true] at c4
    have hsw := comp_false c4.1 c3
    rcases c4.2 with c5 | c5
    · cases t' with
      | Name x q =>
        cases tg with
        | nm i =>
          obtain ⟨h1, h2, h3⟩ := o.loc c1
          exact impS (ps_set (i := i) o.nd h1 h2 hE (hsw _ _ _) h3) fun D σ H q => nm_imp q
        | tp _ => cases c1
      | _ => cases c5
    · exact impS (ps_asg hE (pg_any o c1) (hsw _ _ _) (disp_none (by simpa using c5) _) (asg_one c1)) fun D σ H q => asg_imp q
  · rw [Bool.and_eq_true] at c4
    obtain ⟨c40, c4⟩ := c4
    unfold compTo at c4
    split at c4
    · rename_i elt' tg' it' ifs scope pl y py
      simp only [Bool.and_eq_true, decide_eq_true_eq, Bool.not_eq_true'] at c4
      obtain ⟨⟨k1, k2⟩, k3⟩ := c4
      cases tg with
      | tp _ => cases c1
      | nm i =>
        cases e with
        | cpr elt tg2 it cond own =>
          obtain ⟨h1, h2, h3⟩ := o.loc c1
          have c : (okTg X.N scope tg2 tg' && (ck S.nm X.N it).i sc tg' it' && (ck S.nm X.N elt).e scope elt' && setNo it' &&
              (match (generalizing := false) ifs with
                | [] => isNil cond
                | [c'] => !isNil cond && (ck S.nm X.N cond).e scope c'
                | _ => false) && tgIn tg2 own && blkC X.N sc scope (own.map fun i => (X.N.getD i "", i))) = true := c2
          simp only [Bool.and_eq_true] at c
          obtain ⟨⟨⟨⟨⟨⟨d1, d2⟩, d3⟩, d4⟩, d5⟩, d6⟩, d7⟩ := c
          have hI := (snd it).i n sc X W tg' it' o d2
          have hB := o.blkOk d7
          have hG : ∀ (s : Shared) (H : Hp) (C : Addr) (cl : List (Str × Addr)) (fp : List Addr), PG (X.blk s H scope (compEnvC scope cl C X.env) fp) tg' (gD S tg2) := fun s H C cl fp => pg_any (o.blk s H scope C cl fp) d1
          have hE2 : ∀ (s : Shared) (H : Hp) (C : Addr) (cl : List (Str × Addr)) (fp : List Addr), PE (X.blk s H scope (compEnvC scope cl C X.env) fp) elt' (tE S (fun _ _ _ _ => False) (sem (S.pg.g (S.pg.run n)) elt).val) :=
            fun s H C cl fp => (snd elt).e n scope _ _ elt' (o.blk s H scope C cl fp) d3
          have hloc := o.keep y _ k1 (by decide)
          clear c2
          match ifs, d5 with
          | [], d5 =>
            refine ⟨fun pins s σ H D I h => ?_⟩
            have r := ps_setLc (i := i) (spos := p) o.calm o.nd h1 hloc (sw_true I.ok.kind hloc k2 k3) hI hB hG (fun _ _ _ _ _ => pts_nil) hE2 (fold_plain d4 X.env)
            refine r.run pins s σ H D I ?_
            show tLc _ _ _ _ _ σ H _
            rw [own_map]
            exact lc_imp o d6 (by rw [if_pos d5]) (nm_imp h)
          | [c'], d5 =>
            rw [Bool.and_eq_true, Bool.not_eq_true'] at d5
            refine ⟨fun pins s σ H D I h => ?_⟩
            have r := ps_setLc (i := i) (spos := p) o.calm o.nd h1 hloc (sw_true I.ok.kind hloc k2 k3) hI hB hG (fun s H C cl fp => pts_one ((snd cond).t n scope _ _ c' (o.blk s H scope C cl fp) d5.2)) hE2 (fold_plain d4 X.env)
            refine r.run pins s σ H D I ?_
            show tLc _ _ _ _ _ σ H _
            rw [own_map]
            exact lc_imp o d6 (by rw [if_neg (by rw [d5.1]; decide)]) (nm_imp h)
          | _ :: _ :: _, d5 => cases d5
        | un u a => cases u <;> cases c2
        | lkd p a => cases c40
        | _ => cases c2
    · cases c4
  · rw [Bool.and_eq_true] at c4
    obtain ⟨c4, c5⟩ := c4
    unfold cellTo at c4
    split at c4
    · rename_i y py
      have k1 := of_decide_eq_true c4
      cases tg with
      | tp _ => cases c1
      | nm i =>
        obtain ⟨h1, h2, h3⟩ := o.loc c1
        have hk := o.keep y _ k1 (by decide)
        have hsw : swapsWith e' (some (.Name y py)) p.line X.env = pure false := by
          cases e' with
          | ListComp a b c d => exact cell_false hk
          | _ => first | rfl | cases c3
        exact impS (ps_set (i := i) o.nd h1 h2 hE hsw h3) fun D σ H q => nm_imp q
    · cases c4
theorem pg_or {X : Cx} {e : Expr} {t t' : TG} (h : PG X e t) (h' : PG X e t') : PG X e (fun v σ H Q => t v σ H Q ∨ t' v σ H Q) := ⟨fun pins s σ H v u Q I r q => q.elim (h.run pins s σ H v u Q I r) (h'.run pins s σ H v u Q I r)⟩
theorem sts_asgl {is : List Nat} {e : E} : SndS S (.asgl is e) := SndS.ofSt (fun _ => rfl) fun n sc X W st o po fo c => by
  have shp : ∃ es k p2 e' p, st = .Assign [.Tuple es k p2] e' p := by
    unfold cs at c
    simp only [stCk] at c
    split at c
    · exact ⟨_, _, _, _, _, rfl⟩
    · cases c
  obtain ⟨es, k, p2, e', p, rfl⟩ := shp
  have c : (tgNames X.N sc is es && (ck S.nm X.N e).e sc e' && plainH e' && noComp e' && !isDisp e') = true := c
  simp only [Bool.and_eq_true, Bool.not_eq_true'] at c
  obtain ⟨⟨⟨⟨c1, c2⟩, c3⟩, c4⟩, c5⟩ := c
  obtain ⟨q1, q2, q3⟩ := pgs_nm o is es c1
  have hE := (snd e).e n sc X W e' o c2
  have hsw : swapsWithSole [.Tuple es k p2] e' p.line X.env = pure false := by cases e' <;> first | rfl | cases c4 | cases c3
  have hlen : ∀ {E : Env → Prop} (is : List Nat) (ds : List Z.D) (env : Env), bndE (setAll is ds env) E → ds.length = is.length := fun {E} is => by
    induction is with
    | nil =>
      intro ds env z
      cases ds with
      | nil => rfl
      | cons _ _ => exact z.elim
    | cons j js ih =>
      intro ds env z
      cases ds with
      | nil => exact z.elim
      | cons d ds => rw [List.length_cons, List.length_cons, ih ds _ z]
  refine impS (ps_asg hE (pg_or (pg_unl o.calm q1 q2 q3) (pg_any o (tg := .tp is) (e := .Tuple es k p2) c1)) hsw (disp_none c5 _) rfl) fun D σ H ⟨a, env, D', eH, sr, er, hf, q⟩ => ?_
  refine ⟨a, env, _, _, eH, sr, er, hf, fun b d v l s rv z => ?_, q.kx er⟩
  have z : bndE ((seqOf b.h d).bind fun ds => setAll is ds env) (fun env1 => D'.nx env1 b.h) := z
  cases hl : seqOf b.h d with
  | none => rw [hl] at z; exact z.elim
  | some ds =>
    rw [hl] at z
    have z9 : bndE (setAll is ds env) (fun env1 => D'.nx env1 b.h) := z
    cases rv with
    | ref hn =>
      rename_i m
      obtain ⟨vs, g1, g2⟩ := s.seq (lstOf_is (by unfold seqOf at hl; exact hl))
      refine .inl ⟨_, vs, rfl, by rw [o.K]; exact g1, by rw [← g2.length]; exact hlen is ds env z9, ?_⟩
      exact ⟨b, env, ds, _, rfl, s, er.mono l, g2, z9, fun env' σ' er' _ z' => q.nx b env' σ' l s er' z'⟩
    | tup t r =>
      cases hl
      exact .inr ⟨b, env, _, _, rfl, s, er.mono l, .tup t r, z9, fun env' σ' er' _ z' => q.nx b env' σ' l s er' z'⟩
    | _ => cases hl
theorem sts_setix {x i e : E} : SndS S (.setix x i e) := SndS.ofSt (fun _ => rfl) fun n sc X W st o po fo c => by
  have shp : ∃ o' i' p' e' p, st = .Assign [.Subscript o' i' p'] e' p := by
    unfold cs at c
    simp only [stCk] at c
    split at c
    · exact ⟨_, _, _, _, _, rfl⟩
    · cases c
  obtain ⟨o', i', p', e', p, rfl⟩ := shp
  have c : ((ck S.nm X.N x).e sc o' && (ck S.nm X.N i).e sc i' && plainH i' && (ck S.nm X.N e).e sc e' && plainH e') = true := c
  simp only [Bool.and_eq_true] at c
  obtain ⟨⟨⟨⟨c1, c2⟩, c3⟩, c4⟩, c5⟩ := c
  have r := set_all (X := X) (cl := S.cl) o.hu
  rw [o.K] at r
  have hsub : ∀ v, assign (.Subscript o' i' p') X.env v = (do
      let ov ← holding [v] (eval o' X.env)
      let iv ← holding [v, ov] (eval i' X.env)
      standAt p'
      holding [v, ov, iv] (setItem ov iv v)
      release [v, ov, iv] []) := fun v => by cases i' <;> first | rfl | cases c3
  have hsw : swapsWithSole [.Subscript o' i' p'] e' p.line X.env = pure false := by cases e' <;> first | rfl | cases c5
  have hst : swappedStores [.Subscript o' i' p'] e' X.env = pure none := by cases e' <;> first | rfl | cases c5
  refine impS (ps_asg ((snd e).e n sc X W e' o c4) (pg_sub ((snd x).e n sc X W o' o c1) ((snd i).e n sc X W i' o c2) r hsub) hsw hst rfl) fun D σ H ⟨a, env, D', eH, sr, er, hf, q⟩ => ?_
  refine ⟨a, env, _, _, eH, sr, er, hf, fun b d v l s rv z => ?_, q.kx er⟩
  refine ⟨b, env, _, _, rfl, s, er.mono l, z, fun b2 d2 v2 l2 s2 rv2 z2 => ?_, (q.mono l).kx (er.mono l)⟩
  refine ⟨b2, env, _, _, rfl, s2, er.mono (l.trans l2), z2, fun b3 d3 v3 l3 s3 rv3 z3 => ?_, (q.mono (l.trans l2)).kx (er.mono (l.trans l2))⟩
  refine ⟨b3, d2, d3, d, _, rfl, s3, rv2.mono l3, rv3, rv.mono (l2.trans l3), z3, fun b4 l4 s4 z4 => ?_⟩
  exact q.nx b4 env σ (((l.trans l2).trans l3).trans l4) s4 (er.mono (((l.trans l2).trans l3).trans l4)) z4
/-! ### refusals -/
theorem XOk.tr {n : Nat} {sc : Scope} {X : Cx} {W W' : WX} {pn : List (Addr × Obj)} {xe : Value → Shared → Prop} (o : XOk S n sc X W) (tk : Takes (X.tr pn xe) W') (c0 : S.nm.cold = false) : XOk S n sc (X.tr pn xe) W' :=
  { P := o.P, w := o.w, K := o.K, mg := o.mg, base := o.base, calm := o.calm, nd := o.nd, room := o.room, take := fun _ => tk, takeN := fun h => (by rw [c0] at h; cases h), keep := o.keep, free := o.free, cell := o.cell, fns := o.fns, mths := o.mths, cons := o.cons, blt := o.blt, mgT := o.mgT, mgi := o.mgi, exs := o.exs, tx := o.tx, cat := o.cat }
theorem sts_rai {c : Str} : SndS S (.rai c) := SndS.ofSt (fun _ => rfl) fun n sc X W st o po fo ch => by
  have shp : ∃ x p m j p2 p3 pos, st = .Raise (some (.Call (.Name x p) [.Constant (.str m) j p2] [] p3)) none pos ∧ (decide (x = c) && isGl sc x && S.nm.exs.contains c) = true := by
    unfold cs at ch
    simp only [stCk] at ch
    split at ch
    · exact ⟨_, _, _, _, _, _, _, rfl, ch⟩
    · cases ch
  obtain ⟨x, p, m, j, p2, p3, pos, rfl, hq⟩ := shp
  rw [Bool.and_eq_true, Bool.and_eq_true, decide_eq_true_eq, List.contains_iff_mem] at hq
  obtain ⟨⟨rfl, h1⟩, h2⟩ := hq
  obtain ⟨C, c1, c2, c3, c4, c5, c6, c7, c8⟩ := (o.exs x h2).ok
  obtain ⟨g1, g2⟩ := o.gl h1
  have made : PS X (.Raise (some (.Call (.Name x p) [.Constant (.str m) j p2] [] p3)) none pos) (fun _ σ H => W (.ref C) none σ H) := by
    cases hc : S.nm.cold with
    | false => exact ps_raise o.calm (o.take hc) (pmk_own PySem.F.excBase_ValueError (by rw [o.K]; exact c4) (by rw [o.mg]; exact c3) (by rw [o.K]; exact c5) (raises_own (by rw [o.K]; exact c6) (by rw [o.K]; exact c7)) g1 g2)
    | true => exact L2N.ps_raise o.calm (o.takeN hc) (L2N.pmk_own PySem.F.excBase_ValueError (by rw [o.K]; exact c4) (by rw [o.mg]; exact c3) (by rw [o.K]; exact c5) (raises_own (by rw [o.K]; exact c6) (by rw [o.K]; exact c7)) g1 g2)
  refine impS made fun D σ H ⟨a, env, D', eH, sr, er, hf, q⟩ => ?_
  subst eH
  exact q.ex a (x, []) (.ref C) none env σ Pt.Le.rfl sr er ⟨C, c1, rfl, c8, .inl ⟨rfl, rfl⟩⟩ hf
/-- a constant, in any suite -/
theorem const_pe {e : E} {d : D} {sc : Scope} {N : List Str} {ex : Expr} (hd : constD e = some d) (hc : (ck S.nm N e).e sc ex = true) : ∃ v, (∀ X : Cx, PE X ex (tC v)) ∧ (∀ a : Pt, VR S.K a d v) ∧ plainH ex = true ∧ noComp ex = true := by
  cases e with
  | ci n =>
    cases hd
    cases ex with
    | Constant k _ _ =>
      cases k with
      | int m => have e : n = m := of_decide_eq_true hc; subst e; exact ⟨_, (fun _ => pe_int), fun _ => .int n, rfl, rfl⟩
      | _ => cases hc
    | _ => cases hc
  | cb b =>
    cases hd
    cases ex with
    | Constant k _ _ =>
      cases k with
      | bool m => have e : b = m := by simpa using (show (b == m) = true from hc)
                  subst e; exact ⟨_, (fun _ => pe_bl), fun _ => .bl b, rfl, rfl⟩
      | _ => cases hc
    | _ => cases hc
  | cn =>
    cases hd
    cases ex with
    | Constant k _ _ =>
      cases k with
      | none => exact ⟨_, (fun _ => pe_non), fun _ => .non, rfl, rfl⟩
      | _ => cases hc
    | _ => cases hc
  | cs x =>
    cases hd
    cases ex with
    | Constant k _ _ =>
      cases k with
      | str y => have e : x = y := of_decide_eq_true hc; subst e; exact ⟨_, (fun _ => pe_str), fun _ => .str x, rfl, rfl⟩
      | _ => cases hc
    | _ => cases hc
  | _ => cases hd
theorem su_ts {su : Su} {t' : Stmt} (o : XOk S n sc X W) (h4 : ckSu S.nm X.N sc su t' = true) : ∃ ts : TS, (∀ (a : Addr) (pn : List (Addr × Obj)), PSs (X.suite a pn) [t'] ts) ∧ ∀ (b : Pt) (D' : Ends) (D : L2.Ends) (W : WX) (env : Env) (σ : L2.St), EQ S W b D' D → SR S.K S.cl b → ER S.K b env σ → suS su D' env b.h → ts D σ b.H := by
  cases su with
  | ret e =>
    cases t' with
    | Return v p =>
      cases v with
      | none => cases h4
      | some ex =>
        have h4 : ((constD e).isSome && (ck S.nm X.N e).e sc ex) = true := h4
        rw [Bool.and_eq_true] at h4
        obtain ⟨d, hd⟩ := Option.isSome_iff_exists.mp h4.1
        obtain ⟨v, hv, hr, _, _⟩ := const_pe hd h4.2
        refine ⟨tRet (tC v), fun a pn => pss_one (ps_ret (hv _)), fun b D' D W env σ q s er z => ?_⟩
        have z : bnd ((constD e).map (·, b.h)) D'.rt := z
        rw [hd] at z
        exact q.rt b d v Pt.Le.rfl s (hr b) z
    | _ => cases h4
  | set i e =>
    have shp : ∃ y yp ex p, t' = .Assign [.Name y yp] ex p ∧ (isLoc X.N sc y i && (constD e).isSome && (ck S.nm X.N e).e sc ex) = true := by
      unfold ckSu at h4
      simp only at h4
      split at h4
      · exact ⟨_, _, _, _, rfl, h4⟩
      · cases h4
    obtain ⟨y, yp, ex, p, rfl, hs⟩ := shp
    rw [Bool.and_eq_true, Bool.and_eq_true] at hs
    obtain ⟨d, hd⟩ := Option.isSome_iff_exists.mp hs.1.2
    obtain ⟨v, hv, hr, hp, hn⟩ := const_pe hd hs.2
    obtain ⟨l1, l2, l3⟩ := o.loc hs.1.1
    refine ⟨_, fun a pn => pss_one (ps_set (X := X.suite a pn) (i := i) o.nd l1 l2 (hv _) (comp_false hn hp _ _ _) l3), fun b D' D W env σ q s er z => ?_⟩
    have z : bnd ((constD e).map (·, b.h)) (fun d h => D'.nx (env.set i (some d)) h) := z
    rw [hd] at z
    exact q.nx b _ _ Pt.Le.rfl s (er.set i (hr b)) z
  | nev => exact ⟨fun _ _ _ => False, fun a pn => ⟨fun pins s σ H D I z => z.elim⟩, fun b D' D W env σ q s er z => z.elim⟩
theorem sts_tryx {body els : Z.S} {c : Str} {su : Su} (hb : SndS S body) (he : SndS S els) : SndS S (.tryx body c su els) := SndS.ofSt (fun _ => rfl) fun n sc X W st o po fo ch => by
  have shp : ∃ x np b' t' p' e' pos, st = .Try b' [.ExceptHandler (some (.Name x np)) none [t'] p'] e' [] pos ∧ (!S.nm.cold && (decide (x = c) && isGl sc x && S.nm.cat.contains c && (cs S.nm X.N body).b sc b' && ckSu S.nm X.N sc su t' && (cs S.nm X.N els).b sc e')) = true := by
    unfold cs at ch
    simp only [stCk] at ch
    split at ch
    · exact ⟨_, _, _, _, _, _, _, rfl, ch⟩
    · cases ch
  obtain ⟨x, np, b', t', p', e', pos, rfl, hq⟩ := shp
  obtain ⟨c0, hq⟩ := cold_of hq
  rw [Bool.and_eq_true, Bool.and_eq_true, Bool.and_eq_true, Bool.and_eq_true, Bool.and_eq_true, decide_eq_true_eq, List.contains_iff_mem] at hq
  obtain ⟨⟨⟨⟨⟨rfl, h1⟩, h2⟩, h3⟩, h4⟩, h5⟩ := hq
  obtain ⟨C, c1, c2, c3⟩ := o.cat x h2
  obtain ⟨g1, g2⟩ := o.gl h1
  have hN : Names X x (.ref C) := ⟨g1, g2, .inl (by rw [o.mg]; exact c2)⟩
  have ho := he.b n sc X W e' o po fo h5
  have hbody := fun (W' : WX) (pn : List (Addr × Obj)) (xe : Value → Shared → Prop) (tk : Takes (X.tr pn xe) W') (pxe : PassesOwn (model X.prog X.w) X.A X.env xe) => hb.b n sc (X.tr pn xe) W' b' (o.tr tk c0) pxe ⟨fo.1, fo.2⟩ h3
  obtain ⟨ts, hsu, hts⟩ := su_ts o h4
  refine impS (ps_try_onlyE ho fo.1 fo.2 hN (o.take c0) hbody fun a oe cls d pn _ _ => hsu a ((a, oe) :: pn)) fun D σ H ⟨a, env, D', eH, sr, er, hf, q⟩ => ?_
  refine ⟨a, env, _, eH, sr, er, hf, ⟨fun b env σ l s er z => ⟨b, env, D', rfl, s, er, z, q.mono l⟩, q.rt, q.bk, fun b y cc d env σ l s er xr z => ?_⟩⟩
  obtain ⟨A, hA, rfl, xc, hx⟩ := xr
  refine ⟨excSub y.1 x, by rw [o.K]; exact c3 _ _ hA xc, fun e a' ha => ?_, fun e => ?_⟩
  · have z : (if excSub y.1 x = true then suS su D' env b.h else D'.ex y env b.h) := z
    rw [if_pos e] at z
    exact hts b D' D W env σ (q.mono l) s er z
  · have z : (if excSub y.1 x = true then suS su D' env b.h else D'.ex y env b.h) := z
    rw [if_neg (by rw [e]; decide)] at z
    exact q.ex b y _ d env σ l s er ⟨A, hA, rfl, xc, hx⟩ z
theorem sts_tryy {body : Z.S} {c c2 : Str} {su su2 : Su} (hb : SndS S body) : SndS S (.tryy body c su c2 su2) := SndS.ofSt (fun _ => rfl) fun n sc X W st o po fo ch => by
  have shp : ∃ x np b' t' p' x2 np2 t2 p2 pos, st = .Try b' [.ExceptHandler (some (.Name x np)) none [t'] p', .ExceptHandler (some (.Name x2 np2)) none [t2] p2] [] [] pos ∧ (!S.nm.cold && (decide (x = c) && isGl sc x && S.nm.cat.contains c && decide (x2 = c2) && isGl sc x2 && S.nm.cat.contains c2 && (cs S.nm X.N body).b sc b' && ckSu S.nm X.N sc su t' && ckSu S.nm X.N sc su2 t2)) = true := by
    unfold cs at ch
    simp only [stCk] at ch
    split at ch
    · exact ⟨_, _, _, _, _, _, _, _, _, _, rfl, ch⟩
    · cases ch
  obtain ⟨x, np, b', t', p', x2, np2, t2, p2, pos, rfl, hq⟩ := shp
  obtain ⟨c0, hq⟩ := cold_of hq
  simp only [Bool.and_eq_true, decide_eq_true_eq, List.contains_iff_mem] at hq
  obtain ⟨⟨⟨⟨⟨⟨⟨⟨rfl, h1⟩, h2⟩, rfl⟩, h5⟩, h6⟩, h3⟩, h4⟩, h7⟩ := hq
  obtain ⟨C, c1, c2, c3⟩ := o.cat x h2
  obtain ⟨g1, g2⟩ := o.gl h1
  have hN : Names X x (.ref C) := ⟨g1, g2, .inl (by rw [o.mg]; exact c2)⟩
  obtain ⟨C2, d1, d2, d3⟩ := o.cat x2 h6
  obtain ⟨g3, g4⟩ := o.gl h5
  have hN2 : Names X x2 (.ref C2) := ⟨g3, g4, .inl (by rw [o.mg]; exact d2)⟩
  have hbody := fun (W' : WX) (pn : List (Addr × Obj)) (xe : Value → Shared → Prop) (tk : Takes (X.tr pn xe) W') (pxe : PassesOwn (model X.prog X.w) X.A X.env xe) => hb.b n sc (X.tr pn xe) W' b' (o.tr tk c0) pxe ⟨fo.1, fo.2⟩ h3
  obtain ⟨ts, hsu, hts⟩ := su_ts o h4
  obtain ⟨ts2, hsu2, hts2⟩ := su_ts o h7
  have hds : HdsOk X [.ExceptHandler (some (.Name x np)) none [t'] p', .ExceptHandler (some (.Name x2 np2)) none [t2] p2] [(.ref C, fun _ _ _ => ts), (.ref C2, fun _ _ _ => ts2)] :=
    .cons hN (fun a oe cls d pn _ _ => hsu a ((a, oe) :: pn)) (.cons hN2 (fun a oe cls d pn _ _ => hsu2 a ((a, oe) :: pn)) .nil)
  refine impS (ps_try_manyE (u := tNext) pss_nil fo.1 fo.2 (o.take c0) hbody hds) fun D σ H ⟨a, env, D', eH, sr, er, hf, q⟩ => ?_
  refine ⟨a, env, _, eH, sr, er, hf, ⟨fun b env σ l s er z => q.nx b env σ l s er z, q.rt, q.bk, fun b y cc d env σ l s er xr z => ?_⟩⟩
  obtain ⟨A, hA, rfl, xc, hx⟩ := xr
  have z : (if excSub y.1 x = true then suS su D' env b.h else if excSub y.1 x2 = true then suS su2 D' env b.h else D'.ex y env b.h) := z
  refine ⟨excSub y.1 x, by rw [o.K]; exact c3 _ _ hA xc, fun e a' ha => ?_, fun e => ?_⟩
  · rw [if_pos e] at z
    exact hts b D' D W env σ (q.mono l) s er z
  · rw [if_neg (by rw [e]; decide)] at z
    refine ⟨excSub y.1 x2, by rw [o.K]; exact d3 _ _ hA xc, fun e a' ha => ?_, fun e => ?_⟩
    · rw [if_pos e] at z
      exact hts2 b D' D W env σ (q.mono l) s er z
    · rw [if_neg (by rw [e]; decide)] at z
      exact q.ex b y _ d env σ l s er ⟨A, hA, rfl, xc, hx⟩ z
/-! ### refusals with fields; except with a name -/
/-- an __init__ that puts the fields by: what is in the air behind it -/
theorem spIni_out {b : Pt} {C : Addr} {x : Str} {fs : List Str} {ds : List Z.D} {vs : List V} {E : XK} (c1 : S.cl x = some C) (c5 : XcAt S.K C) (s : SR S.K S.cl b) (r : VRs S.K b ds vs) (hl : vs.length = fs.length)
    (q : ∀ d, b.H d = none → SR S.K S.cl (b.side d (.xd (fs.zip vs).reverse)) → XR S.K S.cl (b.side d (.xd (fs.zip vs).reverse)) (x, (fs.zip ds).reverse) (.ref C) (some d) → E (.ref C) (some d) (upd b.H d (.xd (fs.zip vs).reverse))) :
    ∀ e, b.H e = none → spIni C fs (.ref e :: (vs ++ [])) (upd b.H e (exo e C none))
      (fun v H2 => v = .non ∧ ∃ (d : Addr) (gs : List (Str × V)), H2 e = some (exo e C (some d)) ∧ H2 d = some (exd d gs) ∧ b.H d = none ∧ E (.ref C) (some d) (upd (del H2 e) d (.xd gs))) (fun _ _ _ => False) := fun e he => by
  refine ⟨e, vs, by rw [List.append_nil], hl, upd_same, fun d hd ne => ⟨rfl, d, (fs.zip vs).reverse, upd_same, by rw [upd_ne ne, upd_same], ?_, ?_⟩⟩
  · rw [upd_ne ne] at hd; exact hd
  · have hd' : b.H d = none := by rw [upd_ne ne] at hd; exact hd
    have eu : upd (del (upd (upd (upd b.H e (exo e C none)) d (exd d (fs.zip vs).reverse)) e (exo e C (some d))) e) d (.xd (fs.zip vs).reverse) = upd b.H d (.xd (fs.zip vs).reverse) := by
      funext y
      by_cases hy : y = d
      · rw [hy, upd_same, upd_same]
      · rw [upd_ne hy, upd_ne hy]
        by_cases hz : y = e
        · rw [hz, del_same, he]
        · rw [del_ne hz, upd_ne hz, upd_ne hy, upd_ne hz]
    rw [eu]
    have l2 : b.Le (b.side d (.xd (fs.zip vs).reverse)) := Pt.side_le hd'
    refine q d hd' (s.side hd') ⟨C, c1, rfl, c5, .inr ⟨d, _, rfl, upd_same, ?_⟩⟩
    have key : ∀ (B' : Pt) (fs : List Str) {ds : List Z.D} {vs : List V}, VRs S.K B' ds vs → KVR S.K B' (fs.zip ds).reverse (fs.zip vs).reverse := by
      intro B' fs
      induction fs with
      | nil => intro ds vs _; exact .nil
      | cons f fs ih =>
        intro ds vs r
        cases r with
        | nil => exact .nil
        | cons r1 r2 =>
          rw [List.zip_cons_cons, List.zip_cons_cons, List.reverse_cons, List.reverse_cons]
          exact (ih r2).snoc ⟨rfl, r1⟩
    exact key _ fs (r.mono l2)
theorem sts_raix {c : Str} {fs : List Str} {es : E} : SndS S (.raix c fs es) := SndS.ofSt (fun _ => rfl) fun n sc X W st o po fo ch => by
  have shp : ∃ x p y ys p3 pos, st = .Raise (some (.Call (.Name x p) (y :: ys) [] p3)) none pos ∧ (decide (x = c) && isGl sc x && S.nm.exi.contains (c, fs) && (ck S.nm X.N es).a sc (y :: ys)) = true := by
    unfold cs at ch
    simp only [stCk] at ch
    split at ch
    · exact ⟨_, _, _, _, _, _, rfl, ch⟩
    · cases ch
  obtain ⟨x, p, y, ys, p3, pos, rfl, hq⟩ := shp
  rw [Bool.and_eq_true, Bool.and_eq_true, Bool.and_eq_true, decide_eq_true_eq, List.contains_iff_mem] at hq
  obtain ⟨⟨⟨rfl, h1⟩, h2⟩, h3⟩ := hq
  obtain ⟨C, fI, fd, ps, c1, c2, c3, c4, c5, c6, c7, c8, c9, c10, c11, _⟩ := (o.tx.exi x fs h2).ok
  obtain ⟨g1, g2⟩ := o.gl h1
  have hp := ck_plain _ _ _ _ _ h3
  rw [List.all_cons, Bool.and_eq_true] at hp
  have hA := (snd es).a n sc X W _ o h3
  rw [← o.P, ← o.w, ← o.K, ← o.mg, ← o.base] at c11
  have ek := o.K
  have made : PS X (.Raise (some (.Call (.Name x p) (y :: ys) [] p3)) none pos) (fun _ σ H => tMkO C (spIni C fs) [] (tA S W fun env h Q X => (sem (S.pg.g (S.pg.run n)) es).arg env h Q X) σ H fun cls d H' => W cls d σ H') := by
    cases hc : S.nm.cold with
    | false => exact ps_raise o.calm (o.take hc) (pmk_oex (by rw [ek]; exact c4) (by rw [ek]; exact c6) (by rw [ek]; exact c7) c11 (o.room.mono (by omega)) (by rw [ek]; exact c8) .nil pass0 g1 (by rw [o.mg]; exact c3) hA g2 (star_plain hp.1 _ _) (back_any _ _ _ hp.2))
    | true => exact L2N.ps_raise o.calm (o.takeN hc) (pmk_cold (by rw [ek]; exact c4) (by rw [ek]; exact c6) (by rw [ek]; exact c7) c11 (o.room.mono (by omega)) (by rw [ek]; exact c8) pass0 g1 (by rw [o.mg]; exact c3) hA g2 (star_plain hp.1 _ _) (back_any _ _ _ hp.2))
  refine impS made fun D σ H ⟨a, env, D', eH, sr, er, hf, q⟩ => ?_
  refine ⟨a, env, _, _, eH, sr, er, hf, fun b ds vs l s r z => ?_, q.kx er⟩
  have hl : vs.length = fs.length := by rw [← r.length]; exact z.1
  refine ⟨by omega, spIni_out (E := fun cls d H' => W cls d σ H') c1 c5 s r hl fun d hd s2 xr => ?_⟩
  have l2 : b.Le (b.side d (.xd (fs.zip vs).reverse)) := Pt.side_le hd
  exact q.ex _ (x, (fs.zip ds).reverse) (.ref C) (some d) env σ (l.trans l2) s2 (er.mono (l.trans l2)) xr z.2
/-- e.f, .. in the suite -/
theorem fldsC_cons {nm : Nm} {e f : Str} {fs : List Str} {e' : Expr} {es : List Expr} (h : fldsC nm e (f :: fs) (e' :: es) = true) : ∃ x p g q, e' = .Attribute (.Name x p) g q ∧ x = e ∧ g = f ∧ f ∈ nm.fld ∧ fldsC nm e fs es = true := by
  cases e' with
  | Attribute v g q =>
    cases v with
    | Name x p =>
      have h : (decide (x = e) && decide (g = f) && nm.fld.contains f && fldsC nm e fs es) = true := h
      simp only [Bool.and_eq_true, decide_eq_true_eq, List.contains_iff_mem] at h
      exact ⟨x, p, g, q, rfl, h.1.1.1, h.1.1.2, h.1.2, h.2⟩
    | _ => cases h
  | _ => cases h
theorem flds_pa {sc : Scope} {X : Cx} {e : Str} {i : Nat} {a C : Addr} {oe : PySem.Obj} {d : Option Addr} {pn : List (Addr × PySem.Obj)} (xc : XcAt X.K C) (hno : ∀ f, f ∈ S.nm.fld → PySem.W.findIn X.K (.ref C) f = some none) (hz : Zc (.ref C) d oe)
    (hv : ∃ vs, oe.data = .fields vs) (he : ∀ p, PE (X.suite a ((a, oe) :: pn)) (.Name e p) (tVar i)) (fs : List Str) : ∀ (es : List Expr), fldsC S.nm e fs es = true →
    PA (X.suite a ((a, oe) :: pn)) es (fun σ H Q => fs = [] ∧ Q [] H ∨ ∃ dd xs vs, σ[i]? = some (some (.ref a)) ∧ d = some dd ∧ H dd = some (.xd xs) ∧ (fs.mapM fun f => xs.lookup f) = some vs ∧ Q vs H) := by
  induction fs with
  | nil =>
    intro es h
    cases es with
    | cons _ _ => cases h
    | nil =>
      exact impA pa_nil fun σ H Q q => by
        rcases q with ⟨_, q⟩ | ⟨_, _, _, _, _, _, e, q⟩
        · exact q
        · cases e; exact q
  | cons f fs ih =>
    intro es h
    cases es with
    | nil => cases h
    | cons e' es =>
      obtain ⟨x, p, g, q, rfl, rfl, rfl, h3, h4⟩ := fldsC_cons h
      have ih := ih es h4
      refine impA (pa_cons (pe_xf ⟨xc.ga, xc.gt, xc.sb, xc.hd⟩ (hno g h3) hz hv (he p)) ih rfl) fun σ H Q q => ?_
      rcases q with ⟨z, _⟩ | ⟨dd, xs, vs, s0, rfl, hd, hm, q⟩
      · cases z
      · rw [List.mapM_cons] at hm
        cases h1 : xs.lookup g with
        | none => rw [h1] at hm; cases hm
        | some v =>
          rw [h1] at hm
          cases h2 : fs.mapM fun f => xs.lookup f with
          | none => rw [h2] at hm; cases hm
          | some ws =>
            rw [h2] at hm
            cases hm
            exact ⟨.ref a, s0, rfl, rfl, dd, xs, v, rfl, hd, h1, .inr ⟨dd, xs, ws, s0, rfl, hd, h2, q⟩⟩
theorem mapM_len {α β : Type} {g : α → Option β} : ∀ {xs : List α} {ys : List β}, xs.mapM g = some ys → ys.length = xs.length
  | [], ys, h => by cases h; rfl
  | x :: xs, ys, h => by
    rw [List.mapM_cons] at h
    cases h1 : g x with
    | none => rw [h1] at h; cases h
    | some y =>
      rw [h1] at h
      cases h2 : xs.mapM g with
      | none => rw [h2] at h; cases h
      | some zs =>
        rw [h2] at h
        cases h
        rw [List.length_cons, List.length_cons, mapM_len h2]
theorem flds_len {nm : Nm} {e : Str} {fs : List Str} : ∀ {es : List Expr}, fldsC nm e fs es = true → fs.length = es.length := by
  induction fs with
  | nil =>
    intro es h
    cases es with
    | nil => rfl
    | cons _ _ => cases h
  | cons f fs ih =>
    intro es h
    cases es with
    | nil => cases h
    | cons e' es =>
      obtain ⟨_, _, _, _, _, _, _, _, h4⟩ := fldsC_cons h
      rw [List.length_cons, List.length_cons, ih h4]
theorem look_all {K : PySem.W.Frag} {a : Pt} {xs : List (Str × Z.D)} {ys : List (Str × V)} (r : KVR K a xs ys) : ∀ {fs : List Str} {ds : List Z.D}, (fs.mapM fun f => xs.lookup f) = some ds → ∃ vs, (fs.mapM fun f => ys.lookup f) = some vs ∧ VRs K a ds vs
  | [], ds, h => by cases h; exact ⟨[], rfl, .nil⟩
  | f :: fs, ds, h => by
    rw [List.mapM_cons] at h
    cases h1 : xs.lookup f with
    | none => rw [h1] at h; cases h
    | some d =>
      rw [h1] at h
      cases h2 : fs.mapM fun f => xs.lookup f with
      | none => rw [h2] at h; cases h
      | some es =>
        rw [h2] at h
        cases h
        obtain ⟨v, k1, k2⟩ := kvr_look r h1
        obtain ⟨vs, k3, k4⟩ := look_all r h2
        exact ⟨v :: vs, by rw [List.mapM_cons, k1, k3]; rfl, .cons k2 k4⟩
theorem sts_tryn {body : Z.S} {c : Str} {i : Nat} {hk : Hk} (hb : SndS S body) : SndS S (.tryn body c i hk) := SndS.ofSt (fun _ => rfl) fun n sc X W st o po fo ch => by
  have shp : ∃ x np e b' su p' pos, st = .Try b' [.ExceptHandler (some (.Name x np)) (some e) [su] p'] [] [] pos ∧ (!S.nm.cold && (decide (x = c) && isGl sc x && S.nm.cat.contains c && (cs S.nm X.N body).b sc b' && isVis X.N sc i e && hkC S.nm X.N sc e hk su)) = true := by
    unfold cs at ch
    simp only [stCk] at ch
    split at ch
    · exact ⟨_, _, _, _, _, _, _, rfl, ch⟩
    · cases ch
  obtain ⟨x, np, e, b', su, p', pos, rfl, hq⟩ := shp
  obtain ⟨c0, hq⟩ := cold_of hq
  rw [Bool.and_eq_true, Bool.and_eq_true, Bool.and_eq_true, Bool.and_eq_true, Bool.and_eq_true, decide_eq_true_eq, List.contains_iff_mem] at hq
  obtain ⟨⟨⟨⟨⟨rfl, h1⟩, h2⟩, h3⟩, h4⟩, h5⟩ := hq
  unfold isVis at h4
  simp only [Bool.and_eq_true, decide_eq_true_eq, Bool.not_eq_true'] at h4
  obtain ⟨⟨⟨v1, v2⟩, v3⟩, v4⟩ := h4
  have v2' := o.keep e _ v2 (by decide)
  obtain ⟨C, c1, c2, c3⟩ := o.cat x h2
  obtain ⟨g1, g2⟩ := o.gl h1
  have hN : Names X x (.ref C) := ⟨g1, g2, .inl (by rw [o.mg]; exact c2)⟩
  have hbody := fun (W' : WX) (pn : List (Addr × PySem.Obj)) (xe : Value → Shared → Prop) (tk : Takes (X.tr pn xe) W') (pxe : PassesOwn (model X.prog X.w) X.A X.env xe) => hb.b n sc (X.tr pn xe) W' b' (o.tr tk c0) pxe ⟨fo.1, fo.2⟩ h3
  have hpe : ∀ (a : Addr) (pn : List (Addr × PySem.Obj)) (p : Pos), PE (X.suite a pn) (.Name e p) (tVar i) := fun a pn p => pe_var (X := X.suite a pn) v1 (.inl v2') v3 v4
  have hno : ∀ c A f, S.cl c = some A → f ∈ S.nm.fld → PySem.W.findIn X.K (.ref A) f = some none := fun c A f hc hf => by rw [o.K]; exact o.tx.fld c A f hc hf
  cases hk with
  | keep k =>
    have shp : ∃ y yp ep ap, su = .Assign [.Name y yp] (.Name e ep) ap ∧ isLoc X.N sc y k = true := by
      unfold hkC at h5
      simp only at h5
      split at h5
      · rw [Bool.and_eq_true, decide_eq_true_eq] at h5
        obtain ⟨rfl, h5⟩ := h5
        exact ⟨_, _, _, _, rfl, h5⟩
      · cases h5
    obtain ⟨y, yp, ep, ap, rfl, hy⟩ := shp
    obtain ⟨l1, l2, l3⟩ := o.loc hy
    refine impS (ps_try_kept fo.1 fo.2 o.nd v1 v2' l1 l2 l3 v3 v4 hN (o.take c0) hbody) fun D σ H ⟨a, env, D', eH, sr, er, hf, q⟩ => ?_
    refine ⟨a, env, _, eH, sr, er, hf, ⟨q.nx, q.rt, q.bk, fun b y cc d env σ l s er xr z => ?_⟩⟩
    obtain ⟨A, hA, rfl, xc, hx⟩ := xr
    refine ⟨excSub y.1 x, by rw [o.K]; exact c3 _ _ hA xc, fun eb => ⟨A, rfl, fun p hp => ?_⟩, fun eb => ?_⟩
    · have z : (if excSub y.1 x = true then hkS (.keep k) i y D' env b.h else D'.ex y env b.h) := z
      rw [if_pos eb] at z
      have ll : b.Le (b.lay p (.exc y.1 y.2) (kx A d p)) := Pt.lay_le hp
      have lay : SR S.K S.cl (b.lay p (.exc y.1 y.2) (kx A d p)) := s.lay hp ⟨A, d, hA, xc, upd_same, hx.imp id fun ⟨q, fs, e1, e2, e3⟩ => ⟨q, fs, e1, ll.x _ _ e2, KVR.mono ll e3⟩⟩
      have vr : VR S.K (b.lay p (.exc y.1 y.2) (kx A d p)) (.ref b.h.length) (.ref p) := by
        have := VR.ref (K := S.K) (a := b.lay p (.exc y.1 y.2) (kx A d p)) (n := b.h.length) (by show _ < (b.h ++ [_]).length; simp)
        rwa [Pt.lay_at] at this
      exact q.nx (b.lay p (.exc y.1 y.2) (kx A d p)) _ _ (l.trans ll) lay ((((er.mono ll).set i vr).set k vr).unset i) z
    · have z : (if excSub y.1 x = true then hkS (.keep k) i y D' env b.h else D'.ex y env b.h) := z
      rw [if_neg (by rw [eb]; decide)] at z
      exact q.ex b y _ d env σ l s er ⟨A, hA, rfl, xc, hx⟩ z
  | never =>
    refine impS (ps_try_as (i := i) (ts := fun a cls d D σ H => False) fo.1 fo.2 o.nd v1 v2' hN (o.take c0) hbody fun a oe cls d pn hz hv => ⟨fun pins s σ H D I z => z.elim⟩) fun D σ H ⟨a, env, D', eH, sr, er, hf, q⟩ => ?_
    refine ⟨a, env, _, eH, sr, er, hf, ⟨q.nx, q.rt, q.bk, fun b y cc d env σ l s er xr z => ?_⟩⟩
    obtain ⟨A, hA, rfl, xc, hx⟩ := xr
    refine ⟨excSub y.1 x, by rw [o.K]; exact c3 _ _ hA xc, fun eb p hp => ?_, fun eb => ?_⟩
    · have z : (if excSub y.1 x = true then hkS .never i y D' env b.h else D'.ex y env b.h) := z
      rw [if_pos eb] at z
      exact z
    · have z : (if excSub y.1 x = true then hkS .never i y D' env b.h else D'.ex y env b.h) := z
      rw [if_neg (by rw [eb]; decide)] at z
      exact q.ex b y _ d env σ l s er ⟨A, hA, rfl, xc, hx⟩ z
  | retf fs =>
    have shp : ∃ es k1 p1 p2, su = .Return (some (.Tuple es k1 p1)) p2 ∧ fldsC S.nm e fs es = true ∧ es.length < 100 := by
      unfold hkC at h5
      simp only at h5
      split at h5
      · rw [Bool.and_eq_true, decide_eq_true_eq] at h5
        exact ⟨_, _, _, _, rfl, h5⟩
      · cases h5
    obtain ⟨es, k1, p1, p2, rfl, hfl, hln⟩ := shp
    refine impS (ps_try_as (i := i) (ts := fun a cls d D σ H => ∃ A c, cls = .ref A ∧ S.cl c = some A ∧ XcAt X.K A ∧ (i < σ.length → tRet (tTup (fun σ H Q => fs = [] ∧ Q [] H ∨ ∃ dd xs vs, σ[i]? = some (some (.ref a)) ∧ d = some dd ∧ H dd = some (.xd xs) ∧ (fs.mapM fun f => xs.lookup f) = some vs ∧ Q vs H)) D σ H))
      fo.1 fo.2 o.nd v1 v2' hN (o.take c0) hbody fun a oe cls d pn hz hv => ⟨fun pins s σ H D I ⟨A, c, ec, hc, xc, h⟩ => ?_⟩) fun D σ H ⟨a, env, D', eH, sr, er, hf, q⟩ => ?_
    · subst ec
      exact (pss_one (ps_ret (pe_tup (flds_pa (sc := sc) xc (fun f hf => hno c A f hc hf) hz hv (hpe a _) fs es hfl)))).run pins s σ H D I (h (by rw [I.len]; exact (List.getElem?_eq_some_iff.mp v1).1))
    · refine ⟨a, env, _, eH, sr, er, hf, ⟨q.nx, q.rt, q.bk, fun b y cc d env σ l s er xr z => ?_⟩⟩
      obtain ⟨A, hA, rfl, xc, hx⟩ := xr
      refine ⟨excSub y.1 x, by rw [o.K]; exact c3 _ _ hA xc, fun eb p hp => ⟨A, y.1, rfl, hA, by rw [o.K]; exact xc, fun hi => ?_⟩, fun eb => ?_⟩
      · have z : (if excSub y.1 x = true then hkS (.retf fs) i y D' env b.h else D'.ex y env b.h) := z
        rw [if_pos eb] at z
        obtain ⟨dd, hh, z1, z2⟩ := bndE1 (show bnd ((fs.mapM fun f => y.2.lookup f).map fun ds => (Z.D.tup ds, b.h)) D'.rt from z)
        obtain ⟨ds, z3, z4⟩ := Option.map_eq_some_iff.mp z1
        cases z4
        have fl := flds_len hfl
        have fin : ∀ {vs : List V}, VRs S.K b ds vs → vs.length ≤ sizeLine ∧ ∀ t, b.H t = none → D.rt (.ref t) (upd b.H t (.tup vs)) := fun {vs} r => by
          have hl := mapM_len z3
          refine ⟨by rw [← r.length, hl, fl, sizeLine_eq]; omega, fun t ht => ?_⟩
          have l2 : b.Le (b.side t (.tup vs)) := Pt.side_le ht
          exact q.rt (b.side t (.tup vs)) (.tup ds) (.ref t) (l.trans l2) (s.side ht) (.tup (.inl upd_same) (r.mono l2)) z2
        cases fs with
        | nil =>
          cases z3
          exact .inl ⟨rfl, fin .nil⟩
        | cons f fs =>
          rcases hx with ⟨_, e0⟩ | ⟨r, xs, rfl, e1, e2⟩
          · rw [e0] at z3; cases z3
          · obtain ⟨vs, k1, k2⟩ := look_all e2 z3
            exact .inr ⟨r, xs, vs, List.getElem?_set_self (by simpa using hi), rfl, e1, k1, fin k2⟩
      · have z : (if excSub y.1 x = true then hkS (.retf fs) i y D' env b.h else D'.ex y env b.h) := z
        rw [if_neg (by rw [eb]; decide)] at z
        exact q.ex b y _ d env σ l s er ⟨A, hA, rfl, xc, hx⟩ z
  | setf k f =>
    have shp : ∃ y yp ep q1 ap, su = .Assign [.Name y yp] (.Attribute (.Name e ep) f q1) ap ∧ f ∈ S.nm.fld ∧ isLoc X.N sc y k = true := by
      unfold hkC at h5
      simp only at h5
      split at h5
      · simp only [Bool.and_eq_true, decide_eq_true_eq, List.contains_iff_mem] at h5
        obtain ⟨⟨⟨rfl, rfl⟩, h6⟩, h5⟩ := h5
        exact ⟨_, _, _, _, _, rfl, h6, h5⟩
      · cases h5
    obtain ⟨y, yp, ep, q1, ap, rfl, hfl, hy⟩ := shp
    obtain ⟨l1, l2, l3⟩ := o.loc hy
    refine impS (ps_try_as (i := i) (ts := fun a cls d D σ H => ∃ A c, cls = .ref A ∧ S.cl c = some A ∧ XcAt X.K A ∧ (i < σ.length → ∃ (dd : Addr) (xs : List (Str × V)) (v : V), σ[i]? = some (some (.ref a)) ∧ d = some dd ∧ H dd = some (.xd xs) ∧ xs.lookup f = some v ∧ D.nx (σ.set k (some v)) H))
      fo.1 fo.2 o.nd v1 v2' hN (o.take c0) hbody fun a oe cls d pn hz hv => ⟨fun pins s σ H D I ⟨A, c, ec, hc, xc, h⟩ => ?_⟩) fun D σ H ⟨a, env, D', eH, sr, er, hf, q⟩ => ?_
    · subst ec
      obtain ⟨dd, xs, v, s0, e1, e2, e3, h⟩ := h (by rw [I.len]; exact (List.getElem?_eq_some_iff.mp v1).1)
      exact (pss_one (ps_set (X := X.suite a ((a, oe) :: pn)) (i := k) (pos := ap) (pos' := yp) o.nd l1 l2 (pe_xf ⟨xc.ga, xc.gt, xc.sb, xc.hd⟩ (hno c A f hc hfl) hz hv (hpe a _ ep)) rfl l3)).run pins s σ H D I ⟨.ref a, s0, rfl, rfl, dd, xs, v, e1, e2, e3, h⟩
    · refine ⟨a, env, _, eH, sr, er, hf, ⟨q.nx, q.rt, q.bk, fun b y cc d env σ l s er xr z => ?_⟩⟩
      obtain ⟨A, hA, rfl, xc, hx⟩ := xr
      refine ⟨excSub y.1 x, by rw [o.K]; exact c3 _ _ hA xc, fun eb p hp => ⟨A, y.1, rfl, hA, by rw [o.K]; exact xc, fun hi => ?_⟩, fun eb => ?_⟩
      · have z : (if excSub y.1 x = true then hkS (.setf k f) i y D' env b.h else D'.ex y env b.h) := z
        rw [if_pos eb] at z
        obtain ⟨dd, hh, z1, z2⟩ := bndE1 (show bnd ((y.2.lookup f).map (·, b.h)) (fun d h => D'.nx ((env.set k (some d)).set i none) h) from z)
        obtain ⟨d0, z3, z4⟩ := Option.map_eq_some_iff.mp z1
        cases z4
        rcases hx with ⟨_, e0⟩ | ⟨r, xs, rfl, e1, e2⟩
        · rw [e0] at z3; cases z3
        · obtain ⟨v, k1, k2⟩ := kvr_look e2 z3
          refine ⟨r, xs, v, List.getElem?_set_self (by simpa using hi), rfl, e1, k1, ?_⟩
          have es : ((σ.set i (some (V.ref p))).set k (some v)).set i none = (σ.set k (some v)).set i none := by
            apply List.ext_getElem?
            intro j
            by_cases h1 : i = j
            · subst h1
              simp [List.getElem?_set]
            · by_cases h2 : k = j
              · subst h2
                simp [List.getElem?_set, h1]
              · simp [List.getElem?_set, h1, h2]
          show D.nx (((σ.set i (some (V.ref p))).set k (some v)).set i none) b.H
          rw [es]
          exact q.nx b _ _ l s ((er.set k k2).unset i) z2
      · have z : (if excSub y.1 x = true then hkS (.setf k f) i y D' env b.h else D'.ex y env b.h) := z
        rw [if_neg (by rw [eb]; decide)] at z
        exact q.ex b y _ d env σ l s er ⟨A, hA, rfl, xc, hx⟩ z
/-! ### try: y = f(..) / except c as e: raise c2(..) -/
inductive RaV (σ : L2.St) (H : Hp) (a : Addr) (i : Nat) (d : Option Addr) : List Ra → List V → Prop
  | nil : RaV σ H a i d [] []
  | v {j : Nat} {v : V} {as : List Ra} {vs : List V} : σ[j]? = some (some v) → RaV σ H a i d as vs → RaV σ H a i d (.v j :: as) (v :: vs)
  | fl {f : Str} {dd : Addr} {xs : List (Str × V)} {v : V} {as : List Ra} {vs : List V} : σ[i]? = some (some (.ref a)) → d = some dd → H dd = some (.xd xs) → xs.lookup f = some v → RaV σ H a i d as vs → RaV σ H a i d (.fl f :: as) (v :: vs)
theorem raC_v {nm : Nm} {N : List Str} {sc : Scope} {e : Str} {i j : Nat} {as : List Ra} {ex : Expr} {es : List Expr} (h : raC nm N sc e i (.v j :: as) (ex :: es) = true) : ∃ x p, ex = .Name x p ∧ j ≠ i ∧ isVis N sc j x = true ∧ raC nm N sc e i as es = true := by
  cases ex with
  | Name x p =>
    have h : (decide (j ≠ i) && isVis N sc j x && raC nm N sc e i as es) = true := h
    simp only [Bool.and_eq_true, decide_eq_true_eq] at h
    exact ⟨x, p, rfl, h.1.1, h.1.2, h.2⟩
  | _ => cases h
theorem raC_fl {nm : Nm} {N : List Str} {sc : Scope} {e : Str} {i : Nat} {f : Str} {as : List Ra} {ex : Expr} {es : List Expr} (h : raC nm N sc e i (.fl f :: as) (ex :: es) = true) : ∃ p q, ex = .Attribute (.Name e p) f q ∧ f ∈ nm.fld ∧ raC nm N sc e i as es = true := by
  cases ex with
  | Attribute z g q =>
    cases z with
    | Name x p =>
      have h : (decide (x = e) && decide (g = f) && nm.fld.contains f && raC nm N sc e i as es) = true := h
      simp only [Bool.and_eq_true, decide_eq_true_eq, List.contains_iff_mem] at h
      obtain ⟨⟨⟨rfl, rfl⟩, h3⟩, h4⟩ := h
      exact ⟨p, q, rfl, h3, h4⟩
    | _ => cases h
  | _ => cases h
theorem raC_plain {nm : Nm} {N : List Str} {sc : Scope} {e : Str} {i : Nat} : ∀ {as : List Ra} {es : List Expr}, raC nm N sc e i as es = true → es.all plainH = true ∧ ∀ j, Ra.v j ∈ as → j ≠ i
  | [], [], _ => ⟨rfl, fun j h => nomatch h⟩
  | [], _ :: _, h => by cases h
  | .v _ :: _, [], h => by cases h
  | .fl _ :: _, [], h => by cases h
  | .v j :: as, ex :: es, h => by
    obtain ⟨x, p, rfl, h1, _, h3⟩ := raC_v h
    obtain ⟨q1, q2⟩ := raC_plain h3
    refine ⟨q1, fun j' hj => ?_⟩
    rcases List.mem_cons.mp hj with e | hj
    · cases e; exact h1
    · exact q2 j' hj
  | .fl f :: as, ex :: es, h => by
    obtain ⟨p, q, rfl, _, h3⟩ := raC_fl h
    obtain ⟨q1, q2⟩ := raC_plain h3
    refine ⟨q1, fun j' hj => ?_⟩
    rcases List.mem_cons.mp hj with e | hj
    · cases e
    · exact q2 j' hj
theorem ra_pa {n : Nat} {sc : Scope} {X : Cx} {W : WX} (o : XOk S n sc X W) {e : Str} {i : Nat} {a C : Addr} {oe : PySem.Obj} {d : Option Addr} {pn : List (Addr × PySem.Obj)} {pos : Pos} (xc : XcAt X.K C) (hno : ∀ f, f ∈ S.nm.fld → PySem.W.findIn X.K (.ref C) f = some none)
    (hz : Zc (.ref C) d oe) (hv : ∃ vs, oe.data = .fields vs) (hi : X.N[i]? = some e) (hk : X.env.scope.names.lookup e = some .local) (d1 : dbg e = false) (d2 : dcl e = false) :
    ∀ (as : List Ra) (es : List Expr), raC S.nm X.N sc e i as es = true → PA (hotX X a ((a, oe) :: pn) e pos) es (fun σ H Q => ∃ vs, RaV σ H a i d as vs ∧ Q vs H)
  | [], [], _ => impA pa_nil fun σ H Q ⟨vs, r, q⟩ => by cases r; exact q
  | [], _ :: _, h => by cases h
  | .v _ :: _, [], h => by cases h
  | .fl _ :: _, [], h => by cases h
  | .v j :: as, ex :: es, h => by
    obtain ⟨x, p, rfl, _, h2, h3⟩ := raC_v h
    have ih := ra_pa o xc hno hz hv hi hk d1 d2 (pos := pos) (pn := pn) (a := a) as es h3
    unfold isVis at h2
    simp only [Bool.and_eq_true, decide_eq_true_eq, Bool.not_eq_true'] at h2
    obtain ⟨⟨⟨v1, v2⟩, v3⟩, v4⟩ := h2
    refine impA (pa_cons (pe_var (X := hotX X a ((a, oe) :: pn) e pos) (i := j) v1 (.inl (o.keep x _ v2 (by decide))) v3 v4) ih rfl) fun σ H Q ⟨vs, r, q⟩ => ?_
    cases r with
    | v s0 r => exact ⟨_, s0, _, r, q⟩
  | .fl f :: as, ex :: es, h => by
    obtain ⟨p, q, rfl, h2, h3⟩ := raC_fl h
    have ih := ra_pa o xc hno hz hv hi hk d1 d2 (pos := pos) (pn := pn) (a := a) as es h3
    have hd : PE (hotX X a ((a, oe) :: pn) e pos) (.Attribute (.Name e p) f q) (tXf a (.ref C) d C f (tVar i)) :=
      PE.nox (X := hotX X a ((a, oe) :: pn) e pos) (pe_xf (X := X) ⟨xc.ga, xc.gt, xc.sb, xc.hd⟩ (hno f h2) hz hv (pe_var (X := X.suite a ((a, oe) :: pn)) (i := i) hi (.inl hk) d1 d2))
    refine impA (pa_cons hd ih rfl) fun σ H Q ⟨vs, r, q⟩ => ?_
    cases r with
    | fl s0 e1 e2 e3 r => exact ⟨.ref a, s0, rfl, rfl, _, _, _, e1, e2, e3, _, r, q⟩
theorem rav_of {b : Pt} {y : Xn} {env : Env} {σ : L2.St} {p : Addr} {i : Nat} {d : Option Addr} (er : ER S.K b env σ) (hi : i < σ.length) (hx : (d = none ∧ y.2 = []) ∨ ∃ r xs, d = some r ∧ b.H r = some (.xd xs) ∧ KVR S.K b y.2 xs) :
    ∀ {as : List Ra} {ds : List Z.D}, (∀ j, Ra.v j ∈ as → j ≠ i) → as.mapM (raD y env) = some ds → ∃ ws, RaV (σ.set i (some (.ref p))) b.H p i d as ws ∧ VRs S.K b ds ws
  | [], ds, _, h => by cases h; exact ⟨[], .nil, .nil⟩
  | .v j :: as, ds, hj, h => by
    rw [List.mapM_cons] at h
    obtain ⟨d0, h1, h⟩ := Option.bind_eq_some_iff.mp h
    obtain ⟨ds', h2, h⟩ := Option.bind_eq_some_iff.mp h
    cases h
    obtain ⟨ws, r1, r2⟩ := rav_of er hi hx (fun j' q => hj j' (List.mem_cons_of_mem _ q)) h2
    have h1 : (env[j]?).join = some d0 := h1
    obtain ⟨v, k1, k2⟩ := er.2 j d0 (by
      cases e : env[j]? with
      | none => rw [e] at h1; cases h1
      | some z => rw [e] at h1; exact congrArg some h1)
    exact ⟨v :: ws, .v (by rw [List.getElem?_set_ne (Ne.symm (hj j List.mem_cons_self))]; exact k1) r1, .cons k2 r2⟩
  | .fl f :: as, ds, hj, h => by
    rw [List.mapM_cons] at h
    obtain ⟨d0, h1, h⟩ := Option.bind_eq_some_iff.mp h
    obtain ⟨ds', h2, h⟩ := Option.bind_eq_some_iff.mp h
    cases h
    obtain ⟨ws, r1, r2⟩ := rav_of er hi hx (fun j' q => hj j' (List.mem_cons_of_mem _ q)) h2
    have h1 : y.2.lookup f = some d0 := h1
    rcases hx with ⟨_, e0⟩ | ⟨r, xs, rfl, e1, e2⟩
    · rw [e0] at h1; cases h1
    · obtain ⟨v, k1, k2⟩ := kvr_look e2 h1
      exact ⟨v :: ws, .fl (List.getElem?_set_self hi) rfl e1 k1 r1, .cons k2 r2⟩
theorem sts_trc {k f : Nat} {es : E} {c : Str} {i : Nat} {c2 : Str} {fs : List Str} {as : List Ra} : SndS S (.trc k f es c i c2 fs as) := SndS.ofSt (fun _ => rfl) fun n sc X W st o po fo ch => by
  have shp : ∃ y yp fx fp a1 al q0 ap x np e x2 np2 b1 bl p3 p4 p5 pos, st = .Try [.Assign [.Name y yp] (.Call (.Name fx fp) (a1 :: al) [] q0) ap] [.ExceptHandler (some (.Name x np)) (some e) [.Raise (some (.Call (.Name x2 np2) (b1 :: bl) [] p3)) none p4] p5] [] [] pos ∧
      (!S.nm.cold && (isLoc X.N sc y k && decide (S.nm.fn[f]? = some fx) && S.nm.cl.contains fx && isGl sc fx && (ck S.nm X.N es).a sc (a1 :: al) && decide (x = c) && isGl sc x && S.nm.cat.contains c && isVis X.N sc i e && decide (x2 = c2) && isGl sc x2 && S.nm.exi.contains (c2, fs) && raC S.nm X.N sc e i as (b1 :: bl))) = true := by
    unfold cs at ch
    simp only [stCk] at ch
    split at ch
    · exact ⟨_, _, _, _, _, _, _, _, _, _, _, _, _, _, _, _, _, _, _, rfl, ch⟩
    · cases ch
  obtain ⟨y, yp, fx, fp, a1, al, q0, ap, x, np, e, x2, np2, b1, bl, p3, p4, p5, pos, rfl, hq⟩ := shp
  obtain ⟨c0, hq⟩ := cold_of hq
  simp only [Bool.and_eq_true, decide_eq_true_eq, List.contains_iff_mem] at hq
  obtain ⟨⟨⟨⟨⟨⟨⟨⟨⟨⟨⟨⟨k1, k2⟩, k3⟩, k4⟩, k5⟩, rfl⟩, k6⟩, k7⟩, k8⟩, rfl⟩, k9⟩, k10⟩, k11⟩ := hq
  unfold isVis at k8
  simp only [Bool.and_eq_true, decide_eq_true_eq, Bool.not_eq_true'] at k8
  obtain ⟨⟨⟨v1, v2⟩, v3⟩, v4⟩ := k8
  have v2' := o.keep e _ v2 (by decide)
  obtain ⟨l1, l2, l3⟩ := o.loc k1
  obtain ⟨C, c1, c2, c3⟩ := o.cat x k7
  obtain ⟨g1, g2⟩ := o.gl k6
  have hN : Names X x (.ref C) := ⟨g1, g2, .inl (by rw [o.mg]; exact c2)⟩
  obtain ⟨h1, h2⟩ := o.gl k4
  obtain ⟨x', fa, fd, ps, e1, e2, e3, e4, e5, _, _, e7⟩ := (o.fns f fx k2).ok
  rw [k2] at e1
  cases e1
  have F := e7 k3
  rw [← o.P, ← o.w, ← o.K, ← o.mg, ← o.base] at F
  rw [← o.K] at e4 e5
  rw [← o.mg] at e3
  obtain ⟨C2, fI, fd2, ps2, j1, j2, j3, j4, j5, j6, j7, j8, j9, j10, _, j12⟩ := (o.tx.exi x2 fs k10).ok
  rw [← o.P, ← o.w, ← o.K, ← o.mg, ← o.base] at j12
  obtain ⟨m1, m2⟩ := o.gl k9
  have hp := ck_plain _ _ _ _ _ k5
  rw [List.all_cons, Bool.and_eq_true] at hp
  obtain ⟨hp2, hj⟩ := raC_plain k11
  rw [List.all_cons, Bool.and_eq_true] at hp2
  have ek := o.K
  have hno : ∀ c A f, S.cl c = some A → f ∈ S.nm.fld → PySem.W.findIn X.K (.ref A) f = some none := fun c A f hc hf => by rw [o.K]; exact o.tx.fld c A f hc hf
  have hbody := fun (W' : WX) (pn : List (Addr × PySem.Obj)) (xe : Value → Shared → Prop) (tk : L2N.Takes (X.tr pn xe) W') (_ : PassesOwn (model X.prog X.w) X.A X.env xe) =>
    pss_one (ps_set (X := X.tr pn xe) (pos := ap) (pos' := yp) o.nd l1 l2 (pe_callS (X := X.tr pn xe) (E := WE W') (p := fp) (pos := q0) F (o.room.mono (by omega)) h1 e3 e4 e5 (fun σ => L2N.passAt tk σ)
      ((snd es).a n sc (X.tr pn xe) (fun _ _ _ _ => False) (a1 :: al) (o.tr (fun _ _ ⟨_, _, _, _, _, _, _, _, _, _, _, _, _, _, _, _, z⟩ => z.elim) c0) k5) h2 (star_plain hp.1 _ _) (back_any _ _ _ hp.2)) rfl l3)
  refine impS (ps_try_asX (i := i) (ts := fun a cls d D σ H => ∃ A cn, cls = .ref A ∧ S.cl cn = some A ∧ XcAt X.K A ∧ (σ.length = X.N.length → tMkO C2 (spIni C2 fs) [] (fun σ H Q => ∃ vs, RaV σ H a i d as vs ∧ Q vs H) σ H fun cls d H' => W cls d (blank X.N.length) H'))
    fo.1 fo.2 o.nd v1 v2' hN (o.take c0) hbody fun a oe cls d pn hz hv tkY hot => ⟨fun pins s σ H D I ⟨A, cn, ec, hcl, xc, h⟩ => ?_⟩) fun D σ H ⟨a, env, D', eH, sr, er, hf, q⟩ => ?_
  · subst ec
    exact (pss_one (L2H.ps_raiseH (X := hotX X a ((a, oe) :: pn) e p5) hot tkY (L2H.pmk5_oexH (X := hotX X a ((a, oe) :: pn) e p5) (by show OexC X.K C2; rw [ek]; exact j4) (by show PySem.W.findIn X.K _ _ = _; rw [ek]; exact j6) (by show PySem.W.typeIn X.K _ = _; rw [ek]; exact j7) j12
      (L2H.roomH_mark (o.room.mono (by omega)) _) hot (by show Binds X.K _ _ _; rw [ek]; exact j8) pass0 m1 (by show X.mg x2 = _; rw [o.mg]; exact j3) (ra_pa o xc (fun f hf => hno cn A f hcl hf) hz.zc hv v1 v2' v3 v4 as (b1 :: bl) k11) m2 (star_plain hp2.1 _ _) (back_any _ _ _ hp2.2)).pmk)).run pins s σ H D I (h I.len)
  · subst eH
    refine ⟨a, env, _, _, rfl, sr, er, hf, fun b ds vs l s r q1 => ⟨b, ds, _, _, rfl, s, r, q1, fun b2 d v l2 s2 rv z => q.nx b2 _ _ (l.trans l2) s2 ((er.mono (l.trans l2)).set k rv) z, fun b2 y cc dd l2 s2 xr z => ?_⟩, fun _ _ _ _ _ _ _ z => z.elim⟩
    have ll := l.trans l2
    replace z : (if excSub y.1 x = true then raQ y env fs as (fun ds => D'.ex (x2, (fs.zip ds).reverse) (List.replicate env.length none) b2.h) else D'.ex y env b2.h) := z
    obtain ⟨A, hA, rfl, xc, hx⟩ := xr
    refine ⟨excSub y.1 x, by rw [o.K]; exact c3 _ _ hA xc, fun eb p hp => ⟨A, y.1, rfl, hA, by rw [o.K]; exact xc, fun hlen => ?_⟩, fun eb => ?_⟩
    · rw [if_pos eb] at z
      have hln : σ.length = X.N.length := by simpa using hlen
      unfold raQ at z
      cases hm : as.mapM (raD y env) with
      | none => rw [hm] at z; exact z.elim
      | some ds' =>
        rw [hm] at z
        obtain ⟨z1, z2⟩ := z
        obtain ⟨ws, r1, r2⟩ := rav_of (S := S) (p := p) (er.mono ll) (by rw [hln]; exact (List.getElem?_eq_some_iff.mp v1).1) hx hj hm
        have hl : ws.length = fs.length := by rw [← r2.length]; exact z1
        refine ⟨ws, r1, by omega, spIni_out (E := fun cls d H' => W cls d (blank X.N.length) H') j1 j5 s2 r2 hl fun t ht s3 xr3 => ?_⟩
        have l3 : b2.Le (b2.side t (.xd (fs.zip ws).reverse)) := Pt.side_le ht
        refine q.ex _ (x2, (fs.zip ds').reverse) (.ref C2) (some t) (List.replicate env.length none) (blank X.N.length) (ll.trans l3) s3 ⟨by rw [List.length_replicate, List.length_replicate, er.1, hln], fun i d e => ?_⟩ xr3 z2
        rw [List.getElem?_replicate] at e
        split at e <;> cases e
    · rw [if_neg (by rw [eb]; decide)] at z
      exact q.ex b2 y _ dd env σ ll s2 (er.mono ll) ⟨A, hA, rfl, xc, hx⟩ z
/-- EVERY STATEMENT -/
theorem sts (q : Z.S) : SndS S q := by
  induction q with
  | nop => exact sts_nop
  | lkd p s h => exact sts_lkd h
  | nev => exact sts_nev
  | setf x f e => exact sts_setf
  | brk => exact sts_brk
  | done => exact sts_done
  | asg tg e => exact sts_asg
  | setix o i e => exact sts_setix
  | asgl is e => exact sts_asgl
  | exp e => exact sts_exp
  | ret e => exact sts_ret
  | ite c a b ha hb => exact sts_ite ha hb
  | «for» tg it body h => exact sts_for h
  | rai c => exact sts_rai
  | raix c fs es => exact sts_raix
  | tryn body c i hk h => exact sts_tryn h
  | tryx body c su els h1 h2 => exact sts_tryx h1 h2
  | trc k f es c i c2 fs as => exact sts_trc
  | tryy body c su c2 su2 h1 => exact sts_tryy h1
  | whl c body h => exact sts_whl h
  | seq a b ha hb => exact sts_seq ha hb
end Z

set_option Elab.async false
set_option linter.all false
set_option maxRecDepth 100000
/-! Z, part P: defs; the law's own end. -/
namespace Z
open PySem PySem.Spec PyProof.Rows L2

theorem start_ER {K : PySem.W.Frag} {a : Pt} {ds : List D} {vs : List V} {N : List Str} (r : VRs K a ds vs) : ER K a (startD N.length ds) (L2.start N vs) := by
  refine ⟨?_, fun i d e => ?_⟩
  · unfold startD L2.start
    simp [r.length]
  · unfold startD at e
    unfold L2.start
    rcases Nat.lt_or_ge i ds.length with hi | hi
    · rw [List.getElem?_append_left (by simpa using hi), List.getElem?_map] at e
      rw [List.getElem?_eq_getElem hi] at e
      have e : ds[i] = d := by simpa using e
      obtain ⟨v, e1, e2⟩ := r.get (List.getElem?_eq_getElem hi)
      refine ⟨v, ?_, e ▸ e2⟩
      rw [List.getElem?_append_left (by rw [List.length_map, ← r.length]; exact hi), List.getElem?_map, e1]
      rfl
    · rw [List.getElem?_append_right (by simpa using hi)] at e
      have := List.mem_of_getElem? e
      rw [List.mem_replicate] at this
      exact nomatch this.2

/-! ### what is forgotten behind a call -/
section
variable {K : PySem.W.Frag} {cl : Str → Option Addr} {a b : Pt}
mutual
theorem VR.bel : ∀ {d : D} {v : V}, VR K a d v → Z.bel a.h.length d = true
  | _, _, .non => rfl
  | _, _, .bl k => rfl
  | _, _, .int i => rfl
  | _, _, .str x => rfl
  | _, _, .utx x _ => rfl
  | _, _, .tup t r => by unfold Z.bel; exact VRs.bels r
  | _, _, .ref h => by unfold Z.bel; exact decide_eq_true h
theorem VRs.bels : ∀ {ds : List D} {vs : List V}, VRs K a ds vs → Z.bels a.h.length ds = true
  | _, _, .nil => by unfold Z.bels; rfl
  | _, _, .cons x r => by unfold Z.bels; rw [VR.bel x, VRs.bels r]; rfl
end
mutual
/-- the same at a stage that agrees below n -/
theorem VR.cut {n : Nat} (hn : n ≤ b.h.length) (hr : ∀ k, k < n → b.ρ k = a.ρ k) (hH : b.H = a.H) : ∀ {d : D} {v : V}, VR K a d v → Z.bel n d = true → VR K b d v
  | _, _, .non, _ => .non
  | _, _, .bl k, _ => .bl k
  | _, _, .int i, _ => .int i
  | _, _, .str x, _ => .str x
  | _, _, .utx x h, _ => .utx x h
  | _, _, .tup t r, e => .tup (by rw [hH]; exact t) (VRs.cut hn hr hH r (by unfold Z.bel at e; exact e))
  | _, _, .ref h, e => by
    unfold Z.bel at e
    have e := of_decide_eq_true e
    rw [← hr _ e]
    exact .ref (Nat.lt_of_lt_of_le e hn)
theorem VRs.cut {n : Nat} (hn : n ≤ b.h.length) (hr : ∀ k, k < n → b.ρ k = a.ρ k) (hH : b.H = a.H) : ∀ {ds : List D} {vs : List V}, VRs K a ds vs → Z.bels n ds = true → VRs K b ds vs
  | _, _, .nil, _ => .nil
  | _, _, .cons x r, e => by
    unfold Z.bels at e
    rw [Bool.and_eq_true] at e
    exact .cons (VR.cut hn hr hH x e.1) (VRs.cut hn hr hH r e.2)
end
theorem KVR.belk {κ : Type} {kvs : List (κ × D)} {vs : List (κ × V)} (r : KVR K a kvs vs) : Z.belk a.h.length kvs = true := by
  induction r with
  | nil => rfl
  | cons h _ ih => unfold Z.belk; rw [h.2.bel, ih]; rfl
theorem KVR.cut {n : Nat} (hn : n ≤ b.h.length) (hr : ∀ k, k < n → b.ρ k = a.ρ k) (hH : b.H = a.H) {κ : Type} {kvs : List (κ × D)} {vs : List (κ × V)} (r : KVR K a kvs vs) (e : Z.belk n kvs = true) : KVR K b kvs vs := by
  induction r with
  | nil => exact .nil
  | cons h _ ih =>
    unfold Z.belk at e
    rw [Bool.and_eq_true] at e
    exact .cons ⟨h.1, h.2.cut hn hr hH e.1⟩ (ih e.2)
theorem OR.bel {p : Addr} {o : O} (r : OR K cl a p o) : O.bel a.h.length o = true := by
  cases o with
  | lst ds => obtain ⟨vs, _, q⟩ := r; exact q.bels
  | fro ds => obtain ⟨vs, _, q⟩ := r; exact q.bels
  | dct kvs => obtain ⟨vs, _, q⟩ := r; exact q.belk
  | dfr kvs => obtain ⟨ob, vs, _, q⟩ := r; exact q.belk
  | ins c fs => obtain ⟨C, dx, vs, _, _, _, q⟩ := r; exact q.belk
  | exc c fs =>
    obtain ⟨C, d, _, _, _, q⟩ := r
    rcases q with ⟨_, rfl⟩ | ⟨_, _, _, _, q⟩
    · rfl
    · exact q.belk
theorem OR.cut {n : Nat} (hn : n ≤ b.h.length) (hr : ∀ k, k < n → b.ρ k = a.ρ k) (hH : b.H = a.H) {p : Addr} {o : O} (r : OR K cl a p o) (e : O.bel n o = true) : OR K cl b p o := by
  cases o with
  | lst ds => obtain ⟨vs, h, q⟩ := r; exact ⟨vs, by rw [hH]; exact h, q.cut hn hr hH e⟩
  | fro ds => obtain ⟨vs, h, q⟩ := r; exact ⟨vs, by rw [hH]; exact h, q.cut hn hr hH e⟩
  | dct kvs => obtain ⟨vs, h, q⟩ := r; exact ⟨vs, by rw [hH]; exact h, q.cut hn hr hH e⟩
  | dfr kvs => obtain ⟨ob, vs, h, q⟩ := r; exact ⟨ob, vs, by rw [hH]; exact h, q.cut hn hr hH e⟩
  | ins c fs => obtain ⟨C, dx, vs, hc, cc, h, q⟩ := r; exact ⟨C, dx, vs, hc, cc, by rw [hH]; exact h, q.cut hn hr hH e⟩
  | exc c fs => obtain ⟨C, d, hc, xc, h, q⟩ := r; exact ⟨C, d, hc, xc, by rw [hH]; exact h, q.imp id fun ⟨y, vs, e1, e2, e3⟩ => ⟨y, vs, e1, by rw [hH]; exact e2, e3.cut hn hr hH e⟩⟩
theorem pre_get {h h' : Hh} (p : h <+: h') {n : Nat} {o : O} (e : h[n]? = some o) : h'[n]? = some o := by
  obtain ⟨t, rfl⟩ := p
  rw [List.getElem?_append_left (List.getElem?_eq_some_iff.mp e).1]
  exact e
theorem Pt.Le.cut (l : a.Le b) : a.Le ⟨b.ρ, a.h, b.H⟩ := ⟨⟨Nat.le_refl _, l.r, l.t, l.x⟩, l.f⟩
theorem SR.cut (sa : SR K cl a) (l : a.Le b) (s : SR K cl b) (p : a.h <+: b.h) : SR K cl ⟨b.ρ, a.h, b.H⟩ :=
  ⟨fun m n o o' hm hn f f' e => s.inj m n o o' (pre_get p hm) (pre_get p hn) f f' e, fun n o hn =>
    OR.cut (a := b) (b := ⟨b.ρ, a.h, b.H⟩) (n := a.h.length) (Nat.le_refl _) (fun _ _ => rfl) rfl (s.obj n o (pre_get p hn)) (sa.obj n o hn).bel⟩
/-- .. but for one thing -/
noncomputable def Pt.keep (a b : Pt) (k : Nat) (o : O) : Pt := ⟨fun n => if n = a.h.length then b.ρ k else b.ρ n, a.h ++ [o], b.H⟩
theorem Pt.keep_lt {k : Nat} {o : O} : ∀ n, n < a.h.length → (Pt.keep a b k o).ρ n = b.ρ n := fun n h => if_neg (by omega)
theorem Pt.keep_le {k : Nat} {o : O} (l : a.Le b) : a.Le (Pt.keep a b k o) :=
  ⟨⟨by show _ ≤ (a.h ++ [o]).length; simp, fun n h => (Pt.keep_lt n h).trans (l.r n h), l.t, l.x⟩, l.f⟩
theorem SR.keep {k : Nat} {o : O} (sa : SR K cl a) (l : a.Le b) (s : SR K cl b) (p : a.h <+: b.h) (hk : b.h[k]? = some o) (hb : a.h.length ≤ k) (ho : O.bel a.h.length o = true) : SR K cl (Pt.keep a b k o) := by
  have hle : a.h.length ≤ (Pt.keep a b k o).h.length := by show _ ≤ (a.h ++ [o]).length; simp
  have get : ∀ n o', (Pt.keep a b k o).h[n]? = some o' → (n = a.h.length ∧ o' = o ∧ (Pt.keep a b k o).ρ n = b.ρ k) ∨ (n < a.h.length ∧ a.h[n]? = some o' ∧ (Pt.keep a b k o).ρ n = b.ρ n) := fun n o' e => by
    have e : (a.h ++ [o])[n]? = some o' := e
    by_cases h1 : n = a.h.length
    · subst h1
      exact .inl ⟨rfl, by simpa using e.symm, if_pos rfl⟩
    · have hn : n < a.h.length := by
        have := (List.getElem?_eq_some_iff.mp e).1
        simp at this
        omega
      rw [List.getElem?_append_left hn] at e
      exact .inr ⟨hn, e, if_neg h1⟩
  refine ⟨fun m n o1 o2 hm hn f1 f2 e => ?_, fun n o' e => ?_⟩
  · rcases get m o1 hm with ⟨h1, q1, r1⟩ | ⟨h1, q1, r1⟩
    · rcases get n o2 hn with ⟨h2, q2, r2⟩ | ⟨h2, q2, r2⟩
      · rw [h1, h2]
      · rw [r1, r2] at e
        have := s.inj k n o1 o2 (by rw [q1]; exact hk) (pre_get p q2) f1 f2 e
        omega
    · rcases get n o2 hn with ⟨h2, q2, r2⟩ | ⟨h2, q2, r2⟩
      · rw [r1, r2] at e
        have := s.inj m k o1 o2 (pre_get p q1) (by rw [q2]; exact hk) f1 f2 e
        omega
      · rw [r1, r2] at e
        exact s.inj m n o1 o2 (pre_get p q1) (pre_get p q2) f1 f2 e
  · rcases get n o' e with ⟨h1, q1, r1⟩ | ⟨h1, q1, r1⟩
    · rw [r1, q1]
      exact (s.obj k o hk).cut hle (fun n h => Pt.keep_lt n h) rfl ho
    · rw [r1]
      exact (s.obj n o' (pre_get p q1)).cut hle (fun n h => Pt.keep_lt n h) rfl (sa.obj n o' q1).bel
theorem gc_kq {d : D} {v : V} {Qd : KD} {Q : VK} (sa : SR K cl a) (l : a.Le b) (s : SR K cl b) (r : VR K b d v) (kq : KQ K cl a Qd Q) (z : gcQ a.h Qd d b.h) : Q v b.H := by
  unfold gcQ gcv at z
  split at z
  · rename_i hp
    split at z
    · rename_i hb
      exact kq ⟨b.ρ, a.h, b.H⟩ d v l.cut (sa.cut l s hp) (VR.cut (a := b) (b := ⟨b.ρ, a.h, b.H⟩) (n := a.h.length) (Nat.le_refl _) (fun _ _ => rfl) rfl r hb) z
    · rename_i hnb
      cases r with
      | @ref k hk =>
        have hk' : a.h.length ≤ k := by
          unfold Z.bel at hnb
          simp at hnb
          exact hnb
        cases ho : b.h[k]? with
        | none =>
          simp only [ho] at z
          exact kq b _ _ l s (.ref hk) z
        | some o =>
          simp only [ho] at z
          split at z
          · rename_i hbo
            refine kq (Pt.keep a b k o) (.ref a.h.length) _ (Pt.keep_le l) (sa.keep l s hp ho hk' hbo.1) ?_ z
            have e : (Pt.keep a b k o).ρ a.h.length = b.ρ k := if_pos rfl
            rw [← e]
            exact .ref (by show _ < (a.h ++ [o]).length; simp)
          · exact kq b _ _ l s (.ref hk) z
      | non => exact kq b _ _ l s .non z
      | bl c => exact kq b _ _ l s (.bl c) z
      | int c => exact kq b _ _ l s (.int c) z
      | str c => exact kq b _ _ l s (.str c) z
      | utx c hc => exact kq b _ _ l s (.utx c hc) z
      | tup t q => exact kq b _ _ l s (.tup t q) z
  · exact kq b d v l s r z
theorem gc_kx {x : Xn} {c : Value} {dx : Option Addr} {Xd : KX} {W : Value → Option Addr → Hp → Prop} (sa : SR K cl a) (l : a.Le b) (s : SR K cl b) (r : XR K cl b x c dx) (kx : KXQ K cl a Xd W) (z : gcX a.h Xd x b.h) : W c dx b.H := by
  unfold gcX at z
  split at z
  · rename_i hp
    refine kx ⟨b.ρ, a.h, b.H⟩ x c dx l.cut (sa.cut l s hp.1) ?_ z
    obtain ⟨C, h1, h2, xc, h3⟩ := r
    refine ⟨C, h1, h2, xc, h3.imp id fun ⟨p, fs, e1, e2, e3⟩ => ⟨p, fs, e1, e2, KVR.cut (a := b) (b := ⟨b.ρ, a.h, b.H⟩) (n := a.h.length) (Nat.le_refl _) (fun _ _ => rfl) rfl e3 hp.2⟩⟩
  · exact kx b x c dx l s r z
end

noncomputable def dvsOf (r : Option Int) : List V := match r with
  | none => []
  | some i => [.int i]
/-- the f-th def of the plain program is the text's def x -/
structure DefAt (S : Stat) (f : Nat) (x : Str) : Prop where
  ok : ∃ st fa fd ps N nd, dbg x = false ∧ S.mg x = some (.ref fa) ∧ Binds S.K fd ps [] ∧ FunD S.K x x (defArgs st) (defBody st) (defScope st) (dvsOf nd.dfl) [] fa fd ∧ FnScope N ps (defScope st) ∧ S.pg.fns[f]? = some nd ∧ nd.np = ps.length ∧ nd.nn = N.length ∧
    (cs S.nm N nd.body).b (defScope st) (defBody st) = true ∧ PySem.W.keepIn S.K (.ref fa) = true ∧ (∀ i, nd.dfl = some i → ∃ t, Binds S.K fd ps [.int i t]) ∧ (x ∈ S.nm.cl → (cs { S.nm with cold := true } N nd.body).b (defScope st) (defBody st) = true)
/-- .. a class's method -/
structure MDefAt (S : Stat) (f : Nat) (c m : Str) : Prop where
  ok : ∃ C st qual fa fd ps N nd, S.cl c = some C ∧ L2.Cls S.K C ∧ L2.Meth S.K C m fa ∧ Binds S.K fd ps [] ∧ FunD S.K m qual (defArgs st) (defBody st) (defScope st) [] [] fa fd ∧ FnScope N ps (defScope st) ∧ S.pg.fns[f]? = some nd ∧ nd.np = ps.length ∧ nd.nn = N.length ∧
    (cs S.nm N nd.body).b (defScope st) (defBody st) = true
structure Glob (S : Stat) : Prop where
  fns : ∀ f x, S.nm.fn[f]? = some x → DefAt S f x
  mths : ∀ k c m, S.pg.mth[k]? = some (c, m) → MDefAt S (S.pg.ng + k) c m
  cons : ∀ k d, S.pg.con[k]? = some d → ConAt S k d
  blt : ∀ b : B, S.mg b.nm = none
  mgT : ∀ t : Ty, S.mg t.nm = none
  mgi : S.mg "isinstance" = none ∧ S.mg "range" = none ∧ S.mg "enumerate" = none ∧ S.mg "zip" = none ∧ S.mg "reversed" = none ∧ S.mg "set" = none
  exs : ∀ c, c ∈ S.nm.exs → ExcAt S c
  cat : ∀ c, c ∈ S.nm.cat → ∃ C, dbg c = false ∧ S.mg c = some (.ref C) ∧ ∀ x A, S.cl x = some A → XcAt S.K A → PySem.W.exmOne S.K (.ref A) (.ref C) = some (excSub x c)
  tx : Txt S
  cold : S.nm.cold = false
variable {S : Stat}
theorem run_len {n f : Nat} {ds : List D} {h : Hh} {Q : KD} {X : KX} (r : S.pg.run n f ds h Q X) {nd : Fd} (e : S.pg.fns[f]? = some nd) : ds.length = nd.np := by
  cases n with
  | zero => exact r.elim
  | succ n =>
    have r : (match S.pg.fns[f]? with
      | some fd => ds.length = fd.np ∧ _
      | none => False) := r
    rw [e] at r
    exact r.1
theorem fn_step (G : Glob S) {n f : Nat} {x qual : Str} (fns : ∀ f x, S.nm.fn[f]? = some x → FnAt S n f) (mths : ∀ k c m, S.pg.mth[k]? = some (c, m) → MthAt S n (S.pg.ng + k) c m) {st : Stmt} {fa : Addr} {fd : FuncData} {ps N : List Str} {nd : Fd}
    {dvs : List V} (h4 : FunD S.K x qual (defArgs st) (defBody st) (defScope st) dvs [] fa fd) (h5 : FnScope N ps (defScope st)) (h6 : S.pg.fns[f]? = some nd) (h7 : nd.np = ps.length) (h8 : nd.nn = N.length) (h9 : (cs S.nm N nd.body).b (defScope st) (defBody st) = true) :
    FnOk S.P S.w S.K S.mg S.base (L2.CX S.P S.w) (2 * (n + 1) + 2) fa fd ps (spF S (n + 1) f) := by
  refine FunD.ok (k := 2 * n + 3) h4 h5 ?_ ?_
  · rintro vs H Q E ⟨a, ds, Qd, Xd, _, _, rv, r, _⟩
    rw [← rv.length, run_len r h6, h7]
  · rintro cdv A outer s H vs Q E hr ⟨a, ds, Qd, Xd, eH, sr, rv, r, kq, kx⟩
    have r : (match S.pg.fns[f]? with
      | some fd => ds.length = fd.np ∧ wpS (S.pg.g (S.pg.run n)) fd.body { nx := fun _ h1 => gcQ a.h Qd .non h1, rt := gcQ a.h Qd, bk := fun _ _ => False, ex := fun x _ h1 => gcX a.h Xd x h1 } (startD fd.nn ds) a.h
      | none => False) := r
    rw [h6] at r
    obtain ⟨_, r⟩ := r
    have xo : XOk S n (defScope st) (cxOf (L2.CX S.P S.w) S.P S.w S.K S.mg S.base N qual (defScope st) fa cdv A outer s H E) (fun cls d _ H => E cls d H) :=
      { P := rfl, w := rfl, K := rfl, mg := rfl, base := rfl, calm := rfl, nd := h5.nd, room := hr, take := fun _ => takes_of rfl rfl rfl rfl, takeN := fun h => (by rw [G.cold] at h; cases h),
        keep := fun x k e _ => e, free := fun x e => .inl e, cell := fun x _ => rfl,
        fns := fns, mths := mths, cons := G.cons, blt := G.blt, mgT := G.mgT, mgi := G.mgi, exs := G.exs, cat := G.cat, tx := G.tx }
    refine ⟨_, (sts nd.body).b n (defScope st) _ _ (defBody st) xo (passes_of rfl) ⟨rfl, rfl⟩ h9, ?_⟩
    refine ⟨a, startD nd.nn ds, _, eH, sr, ?_, r, ⟨fun b env σ l s er z => gc_kq sr l s .non kq z, fun b d v l s rd z => gc_kq sr l s rd kq z, fun b env σ l s er z => z, fun b x c d env σ l s er xr z => gc_kx sr l s xr kx z⟩⟩
    rw [h8]
    exact start_ER rv
/-- .. of a def whose refusals are raised where nothing is handled -/
abbrev Stat.cool (S : Stat) : Stat := { S with nm := { S.nm with cold := true } }
theorem fn_cold (G : Glob S) {n f : Nat} {x qual : Str} (fns : ∀ f x, S.nm.fn[f]? = some x → FnAt S n f) (mths : ∀ k c m, S.pg.mth[k]? = some (c, m) → MthAt S n (S.pg.ng + k) c m) {st : Stmt} {fa : Addr} {fd : FuncData} {ps N : List Str} {nd : Fd}
    {dvs : List V} (h4 : FunD S.K x qual (defArgs st) (defBody st) (defScope st) dvs [] fa fd) (h5 : FnScope N ps (defScope st)) (h6 : S.pg.fns[f]? = some nd) (h7 : nd.np = ps.length) (h8 : nd.nn = N.length) (h9 : (cs { S.nm with cold := true } N nd.body).b (defScope st) (defBody st) = true) :
    FnOk S.P S.w S.K S.mg S.base (L2N.CX S.P S.w) (2 * (n + 1) + 2) fa fd ps (spF S (n + 1) f) := by
  refine FunD.ok (k := 2 * n + 3) h4 h5 ?_ ?_
  · rintro vs H Q E ⟨a, ds, Qd, Xd, _, _, rv, r, _⟩
    rw [← rv.length, run_len r h6, h7]
  · rintro cdv A outer s H vs Q E hr ⟨a, ds, Qd, Xd, eH, sr, rv, r, kq, kx⟩
    have r : (match S.pg.fns[f]? with
      | some fd => ds.length = fd.np ∧ wpS (S.pg.g (S.pg.run n)) fd.body { nx := fun _ h1 => gcQ a.h Qd .non h1, rt := gcQ a.h Qd, bk := fun _ _ => False, ex := fun x _ h1 => gcX a.h Xd x h1 } (startD fd.nn ds) a.h
      | none => False) := r
    rw [h6] at r
    obtain ⟨_, r⟩ := r
    have tx : Txt S.cool := ⟨fun c fs h => ⟨(G.tx.exi c fs h).ok⟩, G.tx.tst, G.tx.tsi, G.tx.ve, G.tx.fld, fun c h => ⟨(G.tx.mks c h).ok⟩⟩
    have xo : XOk S.cool n (defScope st) (cxOf (L2N.CX S.P S.w) S.P S.w S.K S.mg S.base N qual (defScope st) fa cdv A outer s H E) (fun cls d _ H => E cls d H) :=
      { P := rfl, w := rfl, K := rfl, mg := rfl, base := rfl, calm := rfl, nd := h5.nd, room := hr, take := fun h => Bool.noConfusion h, takeN := fun _ => L2N.takes_of rfl rfl rfl rfl,
        keep := fun x k e _ => e, free := fun x e => .inl e, cell := fun x _ => rfl,
        fns := fun f x h => ⟨(fns f x h).ok⟩, mths := fun k c m h => ⟨(mths k c m h).ok⟩, cons := fun k d h => ⟨(G.cons k d h).ok⟩, blt := G.blt, mgT := G.mgT, mgi := G.mgi, exs := fun c h => ⟨(G.exs c h).ok⟩, cat := G.cat, tx := tx }
    refine ⟨_, (sts (S := S.cool) nd.body).b n (defScope st) _ _ (defBody st) xo (passes_of rfl) ⟨rfl, rfl⟩ h9, ?_⟩
    refine ⟨a, startD nd.nn ds, _, eH, sr, ?_, r, ⟨fun b env σ l s er z => gc_kq sr l s .non kq z, fun b d v l s rd z => gc_kq sr l s rd kq z, fun b env σ l s er z => z, fun b x c d env σ l s er xr z => gc_kx sr l s xr kx z⟩⟩
    rw [h8]
    exact start_ER rv
theorem all_at (G : Glob S) : ∀ n, (∀ f x, S.nm.fn[f]? = some x → FnAt S n f) ∧ ∀ k c m, S.pg.mth[k]? = some (c, m) → MthAt S n (S.pg.ng + k) c m
  | 0 => by
    refine ⟨fun f x hx => ?_, fun k c m hk => ?_⟩
    · obtain ⟨st, fa, fd, ps, N, nd, h1, h2, h3, h4, h5, h6, h7, h8, h9, h10, h11, _⟩ := (G.fns f x hx).ok
      exact ⟨x, fa, fd, ps, hx, h1, h2, h10, h3, ⟨fun vs H Q E ⟨a, ds, Qd, Xd, _, _, _, r, _⟩ => r.elim, fun A outer s H args us vs Q E _ _ _ _ ⟨a, ds, Qd, Xd, _, _, _, r, _⟩ => r.elim⟩, fun i e => h11 i (by rw [h6] at e; exact e),
        fun _ => ⟨fun vs H Q E ⟨a, ds, Qd, Xd, _, _, _, r, _⟩ => r.elim, fun A outer s H args us vs Q E _ _ _ _ ⟨a, ds, Qd, Xd, _, _, _, r, _⟩ => r.elim⟩⟩
    · obtain ⟨C, st, qual, fa, fd, ps, N, nd, h1, h2, h3, h4, h5, h6, h7, h8, h9, h10⟩ := (G.mths k c m hk).ok
      exact ⟨C, fa, fd, ps, h1, h2, h3, h4, ⟨fun vs H Q E ⟨a, ds, Qd, Xd, _, _, _, r, _⟩ => r.elim, fun A outer s H args us vs Q E _ _ _ _ ⟨a, ds, Qd, Xd, _, _, _, r, _⟩ => r.elim⟩⟩
  | n + 1 => by
    obtain ⟨ih1, ih2⟩ := all_at G n
    refine ⟨fun f x hx => ?_, fun k c m hk => ?_⟩
    · obtain ⟨st, fa, fd, ps, N, nd, h1, h2, h3, h4, h5, h6, h7, h8, h9, h10, h11, h12⟩ := (G.fns f x hx).ok
      exact ⟨x, fa, fd, ps, hx, h1, h2, h10, h3, fn_step G ih1 ih2 h4 h5 h6 h7 h8 h9, fun i e => h11 i (by rw [h6] at e; exact e), fun h => fn_cold G ih1 ih2 h4 h5 h6 h7 h8 (h12 h)⟩
    · obtain ⟨C, st, qual, fa, fd, ps, N, nd, h1, h2, h3, h4, h5, h6, h7, h8, h9, h10⟩ := (G.mths k c m hk).ok
      exact ⟨C, fa, fd, ps, h1, h2, h3, h4, fn_step G ih1 ih2 h5 h6 h7 h8 h9 h10⟩

/-- the law's promise -/
noncomputable def spTop (K : PySem.W.Frag) : Sp := fun vs H Q E => ∃ (a : Addr) (ns : List Int), vs = [.ref a] ∧ Only H ∧ SqL K H a (ns.map V.int) ∧ ns.length ≤ 63 ∧ (∀ z ∈ ns, Builtin.Int.intBits z ≤ 1048576) ∧ ∀ H', Q (.bl true) H'
/-- the script's heap -/
noncomputable def scr (ns : List Int) : Hh := [.fro (ns.map D.int)]
theorem top_ok {n f : Nat}
    (hrun : ∀ ns : List Int, ns.length ≤ 63 → (∀ z ∈ ns, Builtin.Int.intBits z ≤ 1048576) → S.pg.run n f [.ref 0] (scr ns) (fun d _ => d = .bl true) (fun _ _ => False)) {fa : Addr} {fd : FuncData} {ps : List Str}
    (F : FnOk S.P S.w S.K S.mg S.base (L2.CX S.P S.w) (2 * n + 2) fa fd ps (spF S n f)) : FnOk S.P S.w S.K S.mg S.base (L2.CX S.P S.w) (2 * n + 2) fa fd ps (spTop S.K) := by
  refine F.imp ?_
  rintro vs H Q E ⟨a, ns, rfl, hO, hS, hl, hb, q⟩
  refine ⟨⟨fun _ => a, scr ns, H⟩, [.ref 0], _, _, rfl, ⟨fun m n o o' hm hn h1 h2 e => ?_, fun n o e => ?_⟩, .cons (.ref (by exact Nat.zero_lt_one)) .nil, hrun ns hl hb, fun b d v l s r z => ?_, fun b x c d l s xr z => z.elim⟩
  · cases m with
    | zero => cases n with
      | zero => rfl
      | succ n => simp [scr] at hn
    | succ m => simp [scr] at hm
  · cases n with
    | succ n => simp [scr] at e
    | zero =>
      have e : some (O.fro (ns.map D.int)) = some o := e
      cases e
      refine ⟨ns.map V.int, ?_, VRs.of_ints ns⟩
      rcases hS with (h | h) | h
      · rcases hO a with h0 | ⟨o, xs, h0⟩
        · rw [h0] at h; cases h
        · rw [h0] at h; cases h
      · exact .inl h
      · exact .inr h
  · subst z
    cases r
    exact q _

/-! ### what the top has written -/
noncomputable def bindsD (x : Str) (st : Stmt) (ps : List Str) : Prop := ∀ (kV doc pm : Value) (an : Option Addr) (cdv ct : Value) (us : List Value), us.length = ps.length → bindArgs (PySem.W.fnOf x x (defArgs st) (defBody st) (defScope st) .none kV doc pm an cdv ct) ⟨us, []⟩ = pure (ps.zip us)
/-- .. of one default -/
noncomputable def bindsD1 (x : Str) (st : Stmt) (ps : List Str) (n j : Nat) : Prop := ∀ (T : Addr) (kV doc pm : Value) (an : Option Addr) (cdv ct : Value) (us its : List Value), us.length = n → its.length = 1 →
  ∃ k, bindArgs (PySem.W.fnOf x x (defArgs st) (defBody st) (defScope st) (.ref T) kV doc pm an cdv ct) ⟨us, []⟩ = seqItems? (.ref T) >>= k ∧ k (some its.toArray) = pure (ps.zip (us ++ its.drop j))
noncomputable def bindsX (r : Option Int) (x : Str) (st : Stmt) (ps : List Str) : Prop := match r with
  | none => bindsD x st ps
  | some _ => 1 ≤ ps.length ∧ bindsD1 x st ps ps.length 1 ∧ bindsD1 x st ps (ps.length - 1) 0
theorem bindsX.get {K : PySem.W.Frag} {r : Option Int} {x : Str} {st : Stmt} {ps : List Str} {fa : Addr} {fd : FuncData} (b : bindsX r x st ps) (F : FunD K x x (defArgs st) (defBody st) (defScope st) (dvsOf r) [] fa fd) :
    Binds K fd ps [] ∧ ∀ i, r = some i → ∃ t, Binds K fd ps [.int i t] := by
  cases r with
  | none => exact ⟨FunD.bindsN F b, fun i e => nomatch e⟩
  | some i =>
    obtain ⟨b0, b1, b2⟩ := b
    obtain ⟨d1, v1, k1⟩ := FunD.binds1 F ps.length 1 (by simp [dvsOf]) (by simp [dvsOf]) fun T kV doc pm an cdv ct us its h1 h2 => b1 T kV doc pm an cdv ct us its h1 h2
    obtain ⟨d2, v2, k2⟩ := FunD.binds1 F (ps.length - 1) 0 (by simp [dvsOf]) (by simp [dvsOf]; omega) fun T kV doc pm an cdv ct us its h1 h2 => b2 T kV doc pm an cdv ct us its h1 h2
    refine ⟨?_, fun j e => ?_⟩
    · have : d1 = [] := by cases v1; rfl
      rw [this] at k1
      exact k1
    · cases e
      cases v2 with
      | cons h t =>
        cases t
        obtain ⟨t, e⟩ := h
        subst e
        exact ⟨t, k2⟩
structure DefS (nm : Nm) (x : Str) (nd : Fd) (st : Stmt) : Prop where
  ok : ∃ ps N, dbg x = false ∧ FnScope N ps (defScope st) ∧ nd.np = ps.length ∧ nd.nn = N.length ∧ (cs nm N nd.body).b (defScope st) (defBody st) = true ∧ bindsX nd.dfl x st ps ∧ (x ∈ nm.cl → (cs { nm with cold := true } N nd.body).b (defScope st) (defBody st) = true)
structure DefK (K : PySem.W.Frag) (r : Option Int) (x : Str) (st : Stmt) : Prop where
  ok : ∃ (f : Addr) (oc : Value) (od an : Option Addr) (osl : Array (Option Value)) (dV kV doc pm cdv ct : Value), DflV K dV (dvsOf r) ∧ PySem.W.nsIn K mainGlobals x = some (some (.ref f)) ∧
    K.lookup f = some ⟨oc, od, .func (PySem.W.fnOf x x (defArgs st) (defBody st) (defScope st) dV kV doc pm an cdv ct), osl⟩ ∧ PySem.W.codeIn K cdv x = true ∧ PySem.W.keepIn K (.ref f) = true
theorem DefK.of {K : PySem.W.Frag} {x : Str} {st : Stmt} {f : Addr} {oc : Value} {od an : Option Addr} {osl : Array (Option Value)} {kV doc pm cdv ct : Value} (a : PySem.W.nsIn K mainGlobals x = some (some (.ref f)))
    (l : K.lookup f = some ⟨oc, od, .func (PySem.W.fnOf x x (defArgs st) (defBody st) (defScope st) .none kV doc pm an cdv ct), osl⟩) (c : PySem.W.codeIn K cdv x = true) (k : PySem.W.keepIn K (.ref f) = true) : DefK K none x st := ⟨f, oc, od, an, osl, _, kV, doc, pm, cdv, ct, .inl ⟨rfl, rfl⟩, a, l, c, k⟩
inductive DefSs (nm : Nm) : List Str → List Fd → List Stmt → Prop
  | nil : DefSs nm [] [] []
  | cons {x : Str} {nd : Fd} {st : Stmt} {xs : List Str} {ds : List Fd} {ss : List Stmt} : DefS nm x nd st → DefSs nm xs ds ss → DefSs nm (x :: xs) (nd :: ds) (st :: ss)
inductive DefKs (K : PySem.W.Frag) : List Str → List (Option Int) → List Stmt → Prop
  | nil : DefKs K [] [] []
  | cons {x : Str} {r : Option Int} {st : Stmt} {xs : List Str} {rs : List (Option Int)} {ss : List Stmt} : DefK K r x st → DefKs K xs rs ss → DefKs K (x :: xs) (r :: rs) (st :: ss)
theorem defs_get {nm : Nm} {K : PySem.W.Frag} {xs : List Str} {ds : List Fd} {ss : List Stmt} (a : DefSs nm xs ds ss) : DefKs K xs (ds.map (·.dfl)) ss → ∀ {f : Nat} {x : Str}, xs[f]? = some x → ∃ nd st, ds[f]? = some nd ∧ DefS nm x nd st ∧ DefK K nd.dfl x st := by
  induction a with
  | nil => intro _ f x e; simp at e
  | cons h _ ih =>
    intro k f x e
    cases k with
    | cons k1 k2 =>
      cases f with
      | zero =>
        have e : some _ = some x := e
        cases e
        exact ⟨_, _, rfl, h, k1⟩
      | succ f => exact ih k2 e
theorem defs_stmt {K : PySem.W.Frag} {xs : List Str} {rs : List (Option Int)} {ss : List Stmt} (k : DefKs K xs rs ss) : ∀ {f : Nat} {x : Str} {r : Option Int} {st : Stmt}, xs[f]? = some x → rs[f]? = some r → ss[f]? = some st → DefK K r x st := by
  induction k with
  | nil => intro f x r st e; simp at e
  | cons k1 _ ih =>
    intro f x r st e1 e3 e2
    cases f with
    | zero =>
      have e1 : some _ = some x := e1
      have e2 : some _ = some st := e2
      have e3 : some _ = some r := e3
      cases e1
      cases e2
      cases e3
      exact k1
    | succ f => exact ih e1 e3 e2
structure Nones (K : PySem.W.Frag) : Prop where
  a1 : PySem.W.nsIn K mainGlobals "len" = some none
  a2 : PySem.W.nsIn K mainGlobals "abs" = some none
  a3 : PySem.W.nsIn K mainGlobals "min" = some none
  a4 : PySem.W.nsIn K mainGlobals "max" = some none
  a5 : PySem.W.nsIn K mainGlobals "sum" = some none
  a6 : PySem.W.nsIn K mainGlobals "int" = some none
  a7 : PySem.W.nsIn K mainGlobals "str" = some none
  a8 : PySem.W.nsIn K mainGlobals "list" = some none
  a9 : PySem.W.nsIn K mainGlobals "tuple" = some none
  b1 : PySem.W.nsIn K mainGlobals "sorted" = some none
  b2 : PySem.W.nsIn K mainGlobals "dict" = some none
  b3 : PySem.W.nsIn K mainGlobals "bool" = some none
  b4 : PySem.W.nsIn K mainGlobals "isinstance" = some none
  b5 : PySem.W.nsIn K mainGlobals "range" = some none
  b6 : PySem.W.nsIn K mainGlobals "enumerate" = some none
  b7 : PySem.W.nsIn K mainGlobals "zip" = some none
  b8 : PySem.W.nsIn K mainGlobals "reversed" = some none
  b9 : PySem.W.nsIn K mainGlobals "set" = some none
  c1 : PySem.W.nsIn K mainGlobals "ValueError" = some none
/-- a constant of the text -/
structure ConK (K : PySem.W.Frag) (x : Str) (d : D) : Prop where
  ok : ∃ (u : Value) (v : V), dbg x = false ∧ PySem.W.nsIn K mainGlobals x = some (some u) ∧ RelV v u ∧ ∀ a : Pt, VR K a d v
theorem ConK.int {K : PySem.W.Frag} {x : Str} {i : Int} {t : Tok} (hx : dbg x = false) (e : PySem.W.nsIn K mainGlobals x = some (some (.int i t))) : ConK K x (.int i) := ⟨_, .int i, hx, e, ⟨t, rfl⟩, fun _ => .int i⟩
theorem ConK.str {K : PySem.W.Frag} {x : Str} {z : Str} {t : Tok} (hx : dbg x = false) (e : PySem.W.nsIn K mainGlobals x = some (some (.str z t))) : ConK K x (.str z) := ⟨_, .str z, hx, e, ⟨t, rfl⟩, fun _ => .str z⟩
/-- a tuple of texts -/
theorem ConK.strs {K : PySem.W.Frag} {x : Str} {zs : List Str} {p : Addr} {od : Option Addr} {its : Array Value} {m : Nat} {sl : Array (Option Value)} (hx : dbg x = false) (e : PySem.W.nsIn K mainGlobals x = some (some (.ref p)))
    (l : K.lookup p = some ⟨.type "tuple", od, .seq its m, sl⟩) (hv : Vals (zs.map V.str) its.toList) (hz : its.size ≤ sizeLine) : ConK K x (.tup (zs.map .str)) :=
  ⟨_, .ref p, hx, e, rfl, fun _ => .tup (.inr ⟨_, its, m, l, rfl, rfl, hz, hv⟩) (VRs.of_strs zs)⟩
inductive ConKs (K : PySem.W.Frag) : List Str → List D → Prop
  | nil : ConKs K [] []
  | cons {x : Str} {d : D} {xs : List Str} {ds : List D} : ConK K x d → ConKs K xs ds → ConKs K (x :: xs) (d :: ds)
section
variable {P : Program} {w : World} {K : PySem.W.Frag} {mg : Str → Option Value} {base h : Heap} {cl : Str → Option Addr} {pg : Pg} {nm : Nm} {ss : List Stmt}
/-- one by one -/
inductive Alls {α : Type} (p : α → Prop) : List α → Prop
  | nil : Alls p []
  | cons {x : α} {xs : List α} : p x → Alls p xs → Alls p (x :: xs)
theorem Alls.mem {α : Type} {p : α → Prop} {l : List α} (a : Alls p l) : ∀ x, x ∈ l → p x := by
  induction a with
  | nil => exact fun x hx => nomatch hx
  | cons h _ ih => exact fun x hx => (List.mem_cons.mp hx).elim (fun e => e ▸ h) (ih x)
/-- a class that is caught or asked for -/
structure CatC (K : PySem.W.Frag) (c : Str) (C : Addr) : Prop where
  d : dbg c = false
  n : PySem.W.nsIn K mainGlobals c = some (some (.ref C))
  s : PySem.W.subIn K (.ref C) (.type "BaseException") = some true
  h : PySem.W.hasDictIn K C = true
  t : PySem.W.typeIn K (.ref C) = some (.type "type")
/-- a class of refusals made with a text alone -/
structure ExC (K : PySem.W.Frag) (c : Str) (C : Addr) : Prop where
  d : dbg c = false
  n : PySem.W.nsIn K mainGlobals c = some (some (.ref C))
  x : PySem.W.excIn K C [.type "ValueError", .type "Exception", .type "BaseException", .type "object"] "ValueError.__new__" = true
  k : PySem.W.keepIn K (.ref C) = true
  t : PySem.W.typeIn K (.ref C) = some (.type "type")
  xc : XcAt K C
/-- .. with fields -/
structure ExI (K : PySem.W.Frag) (base : Str) (c : Str) (fs : List Str) (C : Addr) : Prop where
  d : dbg c = false
  n : PySem.W.nsIn K mainGlobals c = some (some (.ref C))
  T : L2.OexC K C
  xc : XcAt K C
  fn : ∃ (st : Stmt) (fI : Addr) (qual : Str) (fd : FuncData), PySem.W.findIn K (.ref C) "__init__" = some (some (.ref fI)) ∧ PySem.W.typeIn K (.ref fI) = some (.type "function") ∧ Fun K "__init__" qual st fI fd ∧ FnScope (("self" : Str) :: fs) (("self" : Str) :: fs) (defScope st) ∧
    Binds K fd (("self" : Str) :: fs) [] ∧ isIni base fs (defBody st) = true ∧ (((("self" : Str) :: fs).all fun f => decide ((defScope st).names.lookup f = some .local) && !dbg f && !dcl f) && isGl (defScope st) base) = true
  nf : Alls (fun f => PySem.W.findIn K (.ref C) f = some none) fs
  ne : fs ≠ []
  ln : fs.length < 100
noncomputable def clOf (l : List (Str × Addr)) : Str → Option Addr := fun x => (l.find? fun p => decide (p.1 = x)).map (·.2)
theorem clOf_mem {l : List (Str × Addr)} {x : Str} {A : Addr} (e : clOf l x = some A) : (x, A) ∈ l := by
  obtain ⟨p, h1, h2⟩ := Option.map_eq_some_iff.mp e
  have : p.1 = x := by have := List.find?_some h1; simpa using this
  have m := List.mem_of_find?_eq_some h1
  obtain ⟨a, b⟩ := p
  simp only at this h2
  rw [← this, ← h2]
  exact m
theorem clOf_some : ∀ {l : List (Str × Addr)} {x : Str} {A : Addr}, (x, A) ∈ l → ∃ B, clOf l x = some B ∧ (x, B) ∈ l := fun {l x A} h => by
  cases e : clOf l x with
  | some B => exact ⟨B, rfl, clOf_mem e⟩
  | none =>
    exfalso
    unfold clOf at e
    rw [Option.map_eq_none_iff, List.find?_eq_none] at e
    exact e _ h (decide_eq_true rfl)
section
variable {K : PySem.W.Frag} {C N : Addr} {nm q : Str} {bs bm : List Value} {sn : List Str} {sub : _} {ab col : _} {dd : Option Addr} {k0 k1 k2 k3 k5 : Option Value}
theorem XcAt.of {l : _} (e : K.lookup C = some (excClassObj nm q C N bs bm true sn sub ab col dd k0 k1 k2 k3 k5 l)) (r : PySem.HandSPX.refsVE bm = true) (ga : PySem.W.findIn K (.ref C) "__getattribute__" = some (some (.builtin "BaseException.__getattribute__")))
    (gt : PySem.W.findIn K (.ref C) "__getattr__" = some none) (ca : PySem.W.findIn K (.ref C) "__class__" = some (some (.builtin "object.__class__"))) : XcAt K C := by
  have hc : ∃ cd, PySem.W.clsIn K C = some cd ∧ cd.hasDict = true ∧ cd.mro = .ref C :: bm := by
    unfold PySem.W.clsIn
    rw [e]
    exact ⟨_, rfl, rfl, rfl⟩
  obtain ⟨cd, h1, h2, h3⟩ := hc
  have mro : ∀ v, PySem.W.mroIn K C v = some ((Value.ref C :: bm).contains v) := fun v => by
    unfold PySem.W.mroIn
    rw [h1, Option.bind_some, h3]
    rfl
  have inb : ∀ Y : String, bm.contains (.type Y) = true → (Value.ref C :: bm).contains (.type Y) = true := fun Y hy => by
    rw [List.contains_cons, hy, Bool.or_true]
  refine ⟨by rw [h1]; rfl, ga, gt, ?_, by unfold PySem.W.hasDictIn; rw [h1]; exact h2, ca, ?_, ?_, ?_⟩
  · show PySem.W.mroIn K C _ = _
    rw [mro, inb "BaseException" ((PySem.HandSPX.refsVE_contains "BaseException" bm r).trans (by decide +kernel))]
  · rw [mro, inb "object" ((PySem.HandSPX.refsVE_contains "object" bm r).trans (by decide +kernel))]
  · show PySem.W.mroIn K C _ = _
    rw [mro]
    simp
  · show PySem.W.mroIn K C _ = _
    rw [mro, inb "ValueError" ((PySem.HandSPX.refsVE_contains "ValueError" bm r).trans (by decide +kernel))]
theorem ExC.of {c : Str} (d : dbg c = false) (n : PySem.W.nsIn K mainGlobals c = some (some (.ref C))) (x : PySem.W.excIn K C [.type "ValueError", .type "Exception", .type "BaseException", .type "object"] "ValueError.__new__" = true) (k : PySem.W.keepIn K (.ref C) = true)
    (t : PySem.W.typeIn K (.ref C) = some (.type "type")) {l : _} (e : K.lookup C = some (excClassObj nm q C N bs bm true sn sub ab col dd k0 k1 k2 k3 k5 l)) (r : PySem.HandSPX.refsVE bm = true)
    (ga : PySem.W.findIn K (.ref C) "__getattribute__" = some (some (.builtin "BaseException.__getattribute__"))) (gt : PySem.W.findIn K (.ref C) "__getattr__" = some none) (ca : PySem.W.findIn K (.ref C) "__class__" = some (some (.builtin "object.__class__"))) : ExC K c C :=
  ⟨d, n, x, k, t, XcAt.of e r ga gt ca⟩
theorem ExI.of {base c : Str} {fs : List Str} {st : Stmt} {qual : Str} {fI : Addr} {oc kV doc pm cdv ct : Value} {od an : Option Addr} {osl : Array (Option Value)} (d : dbg c = false) (n : PySem.W.nsIn K mainGlobals c = some (some (.ref C))) (k : PySem.W.keepIn K (.ref C) = true)
    (t : PySem.W.typeIn K (.ref C) = some (.type "type")) (e : K.lookup C = some (excClassObj nm q C N bs bm true sn sub ab col dd k0 k1 k2 k3 k5 "ValueError.__new__")) (r : PySem.HandSPX.refsVE bm = true)
    (ga : PySem.W.findIn K (.ref C) "__getattribute__" = some (some (.builtin "BaseException.__getattribute__"))) (gt : PySem.W.findIn K (.ref C) "__getattr__" = some none) (ca : PySem.W.findIn K (.ref C) "__class__" = some (some (.builtin "object.__class__")))
    (sa : PySem.W.findIn K (.ref C) "__setattr__" = some (some (.builtin "object.__setattr__"))) (fi : PySem.W.findIn K (.ref C) "__init__" = some (some (.ref fI))) (ti : PySem.W.typeIn K (.ref fI) = some (.type "function"))
    (lk : K.lookup fI = some ⟨oc, od, .func (PySem.W.fnOf "__init__" qual (defArgs st) (defBody st) (defScope st) .none kV doc pm an cdv ct), osl⟩) (cd : PySem.W.codeIn K cdv qual = true) (kp : PySem.W.keepIn K (.ref fI) = true)
    (Sc : FnScope (("self" : Str) :: fs) (("self" : Str) :: fs) (defScope st)) (bd : ∀ (kV doc pm : Value) (an : Option Addr) (cdv ct : Value) (us : List Value), us.length = (("self" : Str) :: fs).length → bindArgs (PySem.W.fnOf "__init__" qual (defArgs st) (defBody st) (defScope st) .none kV doc pm an cdv ct) ⟨us, []⟩ = pure ((("self" : Str) :: fs).zip us))
    (ini : isIni base fs (defBody st) = true) (loc : (((("self" : Str) :: fs).all fun f => decide ((defScope st).names.lookup f = some .local) && !dbg f && !dcl f) && isGl (defScope st) base) = true)
    (nf : Alls (fun f => PySem.W.findIn K (.ref C) f = some none) fs) (ne : fs ≠ []) (ln : fs.length < 100) : ExI K base c fs C := by
  have xc := XcAt.of e r ga gt ca
  exact ⟨d, n, ⟨⟨_, _, _, _, _, _, _, _, _, _, _, _, _, _, _, e, r⟩, sa, xc.sb, t, k⟩, xc, ⟨st, fI, qual, _, fi, ti, fun_mk lk cd kp, Sc, (fun_mk lk cd kp).binds bd, ini, loc⟩, nf, ne, ln⟩
end
/-- .. the addresses told by the walk -/
inductive ExKs (K : PySem.W.Frag) : List Str → List (Str × Addr) → Prop
  | nil : ExKs K [] []
  | cons {c : Str} {C : Addr} {cs : List Str} {l : List (Str × Addr)} : ExC K c C → ExKs K cs l → ExKs K (c :: cs) ((c, C) :: l)
inductive ExIs (K : PySem.W.Frag) (base : Str) : List (Str × List Str) → List (Str × Addr) → Prop
  | nil : ExIs K base [] []
  | cons {c : Str} {C : Addr} {fs : List Str} {cs : List (Str × List Str)} {l : List (Str × Addr)} : ExI K base c fs C → ExIs K base cs l → ExIs K base ((c, fs) :: cs) ((c, C) :: l)
inductive CatKs (K : PySem.W.Frag) : List Str → List (Str × Addr) → Prop
  | nil : CatKs K [] []
  | cons {c : Str} {C : Addr} {cs : List Str} {l : List (Str × Addr)} : CatC K c C → CatKs K cs l → CatKs K (c :: cs) ((c, C) :: l)
theorem ExKs.get {K : PySem.W.Frag} {cs : List Str} {l : List (Str × Addr)} (h : ExKs K cs l) : (∀ c, c ∈ cs → ∃ C, (c, C) ∈ l) ∧ ∀ c C, (c, C) ∈ l → ExC K c C ∧ c ∈ cs := by
  induction h with
  | nil => exact ⟨(fun c h => nomatch h), fun c C h => nomatch h⟩
  | cons a _ ih =>
    refine ⟨fun c h => ?_, fun c C h => ?_⟩
    · rcases List.mem_cons.mp h with rfl | h
      · exact ⟨_, List.mem_cons_self⟩
      · obtain ⟨C, h⟩ := ih.1 c h; exact ⟨C, List.mem_cons_of_mem _ h⟩
    · rcases List.mem_cons.mp h with e | h
      · cases e; exact ⟨a, List.mem_cons_self⟩
      · exact ⟨(ih.2 c C h).1, List.mem_cons_of_mem _ (ih.2 c C h).2⟩
theorem ExIs.get {K : PySem.W.Frag} {base : Str} {cs : List (Str × List Str)} {l : List (Str × Addr)} (h : ExIs K base cs l) : (∀ c fs, (c, fs) ∈ cs → ∃ C, (c, C) ∈ l) ∧ ∀ c C, (c, C) ∈ l → ∃ fs, (c, fs) ∈ cs ∧ ExI K base c fs C := by
  induction h with
  | nil => exact ⟨(fun c fs h => nomatch h), fun c C h => nomatch h⟩
  | cons a _ ih =>
    refine ⟨fun c fs h => ?_, fun c C h => ?_⟩
    · rcases List.mem_cons.mp h with e | h
      · cases e; exact ⟨_, List.mem_cons_self⟩
      · obtain ⟨C, h⟩ := ih.1 c fs h; exact ⟨C, List.mem_cons_of_mem _ h⟩
    · rcases List.mem_cons.mp h with e | h
      · cases e; exact ⟨_, List.mem_cons_self, a⟩
      · obtain ⟨fs, h1, h2⟩ := ih.2 c C h; exact ⟨fs, List.mem_cons_of_mem _ h1, h2⟩
theorem CatKs.get {K : PySem.W.Frag} {cs : List Str} {l : List (Str × Addr)} (h : CatKs K cs l) : ∀ c, c ∈ cs → ∃ C, (c, C) ∈ l ∧ CatC K c C := by
  induction h with
  | nil => exact fun c h => nomatch h
  | cons a _ ih =>
    intro c h
    rcases List.mem_cons.mp h with rfl | h
    · exact ⟨_, List.mem_cons_self, a⟩
    · obtain ⟨C, h1, h2⟩ := ih c h; exact ⟨C, List.mem_cons_of_mem _ h1, h2⟩
/-- the classes of things asked for -/
inductive TsKs (K : PySem.W.Frag) : List Str → List (Str × Addr) → Prop
  | nil : TsKs K [] []
  | cons {c : Str} {C : Addr} {cs : List Str} {l : List (Str × Addr)} : PySem.W.nsIn K mainGlobals c = some (some (.ref C)) → TsKs K cs l → TsKs K (c :: cs) ((c, C) :: l)
theorem TsKs.get {K : PySem.W.Frag} {cs : List Str} {l : List (Str × Addr)} (h : TsKs K cs l) : ∀ c, c ∈ cs → ∃ C, (c, C) ∈ l ∧ PySem.W.nsIn K mainGlobals c = some (some (.ref C)) := by
  induction h with
  | nil => exact fun c h => nomatch h
  | cons a _ ih =>
    intro c h
    rcases List.mem_cons.mp h with rfl | h
    · exact ⟨_, List.mem_cons_self, a⟩
    · obtain ⟨C, h1, h2⟩ := ih c h; exact ⟨C, List.mem_cons_of_mem _ h1, h2⟩
structure TsC (K : PySem.W.Frag) (c t : Str) (C T : Addr) : Prop where
  ca : PySem.W.findIn K (.ref C) "__class__" = some (some (.builtin "object.__class__"))
  mr : PySem.W.mroIn K C (.type "object") = some true
  ki : PySem.W.kitOne K (.ref C) (.ref T) = some (insSub c t)
theorem not_xc {K : PySem.W.Frag} {C : Addr} (c : L2.Cls K C) (x : XcAt K C) : False := by
  have h := c.pg
  unfold PySem.W.plainGet at h
  rw [x.ga, Bool.and_eq_true] at h
  have h1 : (some (some (Value.builtin "BaseException.__getattribute__")) == some (some (Value.builtin "object.__getattribute__"))) = true := h.1
  have h2 := beq_iff_eq.mp h1
  injection h2 with h2
  injection h2 with h2
  injection h2 with h2
  exact absurd h2 (by decide)
/-- a class of plain things -/
structure PlC (K : PySem.W.Frag) (c : Str) (C : Addr) : Prop where
  d : dbg c = false
  n : PySem.W.nsIn K mainGlobals c = some (some (.ref C))
  pg : PySem.W.plainGet K C Str.empty = true
  hd : PySem.W.hasDictIn K C = true
  po : PySem.W.plainOver K C = true
  sa : PySem.W.findIn K (.ref C) "__setattr__" = some (some (.builtin "object.__setattr__"))
  mkI : PySem.W.makesIn K C = true
  kp : PySem.W.keepIn K (.ref C) = true
  nx : PySem.W.subIn K (.ref C) (.type "BaseException") = some false
inductive PlKs (K : PySem.W.Frag) : List Str → List (Str × Addr) → Prop
  | nil : PlKs K [] []
  | cons {c : Str} {C : Addr} {cs : List Str} {l : List (Str × Addr)} : PlC K c C → PlKs K cs l → PlKs K (c :: cs) ((c, C) :: l)
theorem PlKs.get {K : PySem.W.Frag} {cs : List Str} {l : List (Str × Addr)} (h : PlKs K cs l) : (∀ c, c ∈ cs → ∃ C, (c, C) ∈ l) ∧ ∀ c C, (c, C) ∈ l → PlC K c C ∧ c ∈ cs := by
  induction h with
  | nil => exact ⟨(fun c h => nomatch h), fun c C h => nomatch h⟩
  | cons a _ ih =>
    refine ⟨fun c h => ?_, fun c C h => ?_⟩
    · rcases List.mem_cons.mp h with rfl | h
      · exact ⟨_, List.mem_cons_self⟩
      · obtain ⟨C, h⟩ := ih.1 c h; exact ⟨C, List.mem_cons_of_mem _ h⟩
    · rcases List.mem_cons.mp h with e | h
      · cases e; exact ⟨a, List.mem_cons_self⟩
      · exact ⟨(ih.2 c C h).1, List.mem_cons_of_mem _ (ih.2 c C h).2⟩
/-- all of the refusals, the plain classes -/
structure ExK (K : PySem.W.Frag) (nm : Nm) (cl : Str → Option Addr) : Prop where
  ok : ∃ (base : Str) (B : Addr) (cs is cats tsts pls : List (Str × Addr)), cl = clOf (cs ++ is ++ pls) ∧ PlKs K nm.mks pls ∧ Alls (fun p => Alls (fun f => PySem.W.findIn K (.ref p.2) f = some none) nm.fld) pls ∧ nm.mks.all (fun c => !(nm.exs.contains c) && !(nm.exi.any fun p => decide (p.1 = c))) = true ∧ ExKs K nm.exs cs ∧ ExIs K base nm.exi is ∧ CatKs K nm.cat cats ∧ CatKs K nm.tst tsts ∧ (nm.exi ≠ [] → PySem.W.nsIn K mainGlobals base = some (some (.ref B)) ∧ BaseAt K B) ∧
    Alls (fun p => Alls (fun q => PySem.W.subIn K (.ref p.2) (.ref q.2) = some (excSub p.1 q.1)) cats ∧ Alls (fun q => PySem.W.subIn K (.ref p.2) (.ref q.2) = some (excSub p.1 q.1)) tsts ∧ Alls (fun f => PySem.W.findIn K (.ref p.2) f = some none) nm.fld) (cs ++ is) ∧ (nm.exi.map (·.1)).Nodup ∧ nm.exs.all (fun c => !(nm.exi.any fun p => decide (p.1 = c))) = true ∧ ∃ tsis, TsKs K nm.tsi tsis ∧ Alls (fun p => Alls (fun q => TsC K p.1 q.1 p.2 q.2) tsis) pls
theorem ExK.nil {K : PySem.W.Frag} {nm : Nm} (h1 : nm.exs = []) (h2 : nm.exi = []) (h3 : nm.cat = []) (h4 : nm.tst = []) (h5 : nm.mks = []) (h6 : nm.tsi = []) : ExK K nm (fun _ => .none) := by
  refine ⟨"", 0, [], [], [], [], [], rfl, by rw [h5]; exact .nil, .nil, by rw [h5]; rfl, by rw [h1]; exact .nil, by rw [h2]; exact .nil, by rw [h3]; exact .nil, by rw [h4]; exact .nil, fun z => absurd h2 z, .nil, by rw [h2]; exact List.nodup_nil, by rw [h1]; rfl, [], by rw [h6]; exact .nil, .nil⟩
theorem ExK.txt {P : Program} {w : World} {K : PySem.W.Frag} {mg : Str → Option Value} {base : Heap} {cl : Str → Option Addr} {pg : Pg} {nm : Nm} {h : Heap} (KX : K.In h) (Gn : h.Ns mainGlobals mg) (x : ExK K nm cl) (ve : mg "ValueError" = none) :
    (∀ c, c ∈ nm.exs → ExcAt ⟨P, w, K, mg, base, cl, pg, nm⟩ c) ∧ (∀ c, c ∈ nm.cat → ∃ C, dbg c = false ∧ mg c = some (.ref C) ∧ ∀ x A, cl x = some A → XcAt K A → PySem.W.exmOne K (.ref A) (.ref C) = some (excSub x c)) ∧ Txt ⟨P, w, K, mg, base, cl, pg, nm⟩ := by
  obtain ⟨bs, B, cs, is, cats, tsts, pls, rfl, p1, p2, p3, h1, h2, h3, h4, h5, h6, nd, dj, tsis, ts1, ts2⟩ := x
  have plx : ∀ {c : Str} {C : Addr}, (c, C) ∈ pls → ¬ XcAt K C := fun h x => by
    have := (p1.get.2 _ _ h).1.nx
    rw [x.sb] at this
    cases this
  have pln : ∀ {c : Str} {C : Addr}, (c, C) ∈ pls → c ∉ nm.exs ∧ ∀ fs, (c, fs) ∉ nm.exi := fun {c C} h => by
    have := List.all_eq_true.mp p3 c (p1.get.2 _ _ h).2
    rw [Bool.and_eq_true, Bool.not_eq_true', Bool.not_eq_true', List.any_eq_false] at this
    refine ⟨fun z => ?_, fun fs z => this.2 _ z (decide_eq_true rfl)⟩
    rw [List.contains_iff_mem.mpr z] at this
    cases this.1
  have memx : ∀ {c : Str} {C : Addr}, clOf (cs ++ is ++ pls) c = some C → XcAt K C → (c, C) ∈ cs ++ is := fun e x => (List.mem_append.mp (clOf_mem e)).elim id fun z => (plx z x).elim
  have nin : ∀ {c : Str} {fs : List Str}, c ∈ nm.exs → (c, fs) ∈ nm.exi → False := fun {c fs} a b => by
    have := List.all_eq_true.mp dj c a
    rw [Bool.not_eq_true', List.any_eq_false] at this
    exact this _ b (decide_eq_true rfl)
  have exm : ∀ {c t : Str} {C T : Addr}, CatC K t T → PySem.W.subIn K (.ref C) (.ref T) = some (excSub c t) → PySem.W.exmOne K (.ref C) (.ref T) = some (excSub c t) := fun a e => PySem.W.exm_ref a.s a.h a.t e
  refine ⟨fun c hc => ?_, fun c hc => ?_, ⟨fun c fs hc => ?_, fun t ht => ?_, fun t ht => ?_, ve, fun c C f hc hf => ?_, fun c hc => ?_⟩⟩
  · obtain ⟨C, hC⟩ := h1.get.1 c hc
    obtain ⟨A, hA, hm⟩ := clOf_some (List.mem_append_left pls (List.mem_append_left is hC))
    rcases List.mem_append.mp hm with hm | hm
    rotate_left
    · exact ((pln hm).1 hc).elim
    rcases List.mem_append.mp hm with hm | hm
    · have e := (h1.get.2 c A hm).1
      exact ⟨A, hA, e.d, PySem.W.mg_of KX Gn e.n, e.x, e.k, e.xc.sb, e.t, e.xc⟩
    · obtain ⟨fs, q1, q2⟩ := h2.get.2 c A hm
      exact (nin hc q1).elim
  · obtain ⟨T, hT, e⟩ := h3.get c hc
    refine ⟨T, e.d, PySem.W.mg_of KX Gn e.n, fun x A hx xc => exm e ?_⟩
    exact (h6.mem _ (memx hx xc)).1.mem _ hT
  · obtain ⟨C, hC⟩ := h2.get.1 c fs hc
    obtain ⟨A, hA, hm⟩ := clOf_some (List.mem_append_left pls (List.mem_append_right cs hC))
    rcases List.mem_append.mp hm with hm | hm
    rotate_left
    · exact ((pln hm).2 _ hc).elim
    rcases List.mem_append.mp hm with hm | hm
    · exact (nin (h1.get.2 c A hm).2 hc).elim
    · obtain ⟨gs, q1, e⟩ := h2.get.2 c A hm
      have eg : gs = fs := by
        have key : ∀ {l : List (Str × List Str)}, (l.map (·.1)).Nodup → (c, gs) ∈ l → (c, fs) ∈ l → gs = fs := by
          intro l
          induction l with
          | nil => intro _ a _; cases a
          | cons y l ih =>
            intro n a b
            rw [List.map_cons, List.nodup_cons] at n
            rcases List.mem_cons.mp a with a1 | a1
            · rcases List.mem_cons.mp b with b1 | b1
              · rw [← a1] at b1; cases b1; rfl
              · exact absurd (List.mem_map_of_mem (f := (·.1)) b1) (by rw [← a1] at n; exact n.1)
            · rcases List.mem_cons.mp b with b1 | b1
              · exact absurd (List.mem_map_of_mem (f := (·.1)) a1) (by rw [← b1] at n; exact n.1)
              · exact ih n.2 a1 b1
        exact key nd q1 hc
      subst eg
      obtain ⟨st, fI, qual, fd, f1, f2, f3, f4, f5, f6, f7⟩ := e.fn
      obtain ⟨b1, b2⟩ := h5 (fun z => by rw [z] at hc; cases hc)
      refine ⟨A, fI, fd, _, hA, e.d, PySem.W.mg_of KX Gn e.n, e.T, e.xc, f1, f2, f5, e.ne, e.ln, ?_⟩
      exact ⟨ini_fn f3 f4 e.T e.ne e.ln f6 f7 (fun f hf => e.nf.mem f hf) (PySem.W.mg_of KX Gn b1) b2, ini_fnH f3 f4 e.T e.ne e.ln f6 f7 (fun f hf => e.nf.mem f hf) (PySem.W.mg_of KX Gn b1) b2⟩
  · obtain ⟨T, hT, e⟩ := h4.get t ht
    refine ⟨T, PySem.W.mg_of KX Gn e.n, fun c C hc xc => exm e ?_⟩
    exact (h6.mem _ (memx hc xc)).2.1.mem _ hT
  · obtain ⟨T, hT, e⟩ := ts1.get t ht
    refine ⟨T, PySem.W.mg_of KX Gn e, fun c C hc cc => ?_⟩
    rcases List.mem_append.mp (clOf_mem hc) with hm | hm
    · refine (not_xc cc ?_).elim
      rcases List.mem_append.mp hm with hm | hm
      · exact (h1.get.2 c C hm).1.xc
      · obtain ⟨_, _, q2⟩ := h2.get.2 c C hm
        exact q2.xc
    · have e := (ts2.mem _ hm).mem _ hT
      exact ⟨e.ca, e.mr, e.ki⟩
  · rcases List.mem_append.mp (clOf_mem hc) with hm | hm
    · exact (h6.mem _ hm).2.2.mem _ hf
    · exact (p2.mem _ hm).mem _ hf
  · obtain ⟨C, hC⟩ := p1.get.1 c hc
    obtain ⟨A, hA, hm⟩ := clOf_some (List.mem_append_right (cs ++ is) hC)
    have e : PlC K c A := by
      rcases List.mem_append.mp hm with hm | hm
      · rcases List.mem_append.mp hm with hm | hm
        · exact ((pln hC).1 (h1.get.2 c A hm).2).elim
        · obtain ⟨gs, q1, _⟩ := h2.get.2 c A hm
          exact ((pln hC).2 _ q1).elim
      · exact (p1.get.2 c A hm).1
    exact ⟨A, hA, e.d, PySem.W.mg_of KX Gn e.n, ⟨e.pg, e.hd, e.po, e.sa⟩, e.mkI, e.kp⟩
/-- a method as written -/
structure MthS (nm : Nm) (m qual : Str) (nd : Fd) (st : Stmt) : Prop where
  ok : ∃ ps N, FnScope N ps (defScope st) ∧ nd.np = ps.length ∧ nd.nn = N.length ∧ (cs nm N nd.body).b (defScope st) (defBody st) = true ∧
    ∀ (kV doc pm : Value) (an : Option Addr) (cdv ct : Value) (us : List Value), us.length = ps.length → bindArgs (PySem.W.fnOf m qual (defArgs st) (defBody st) (defScope st) .none kV doc pm an cdv ct) ⟨us, []⟩ = pure (ps.zip us)
structure MthK (K : PySem.W.Frag) (c m qual : Str) (st : Stmt) : Prop where
  ok : ∃ (C f : Addr) (oc : Value) (od an : Option Addr) (osl : Array (Option Value)) (kV doc pm cdv ct : Value), PySem.W.nsIn K mainGlobals c = some (some (.ref C)) ∧ L2.Meth K C m f ∧
    K.lookup f = some ⟨oc, od, .func (PySem.W.fnOf m qual (defArgs st) (defBody st) (defScope st) .none kV doc pm an cdv ct), osl⟩ ∧ PySem.W.codeIn K cdv qual = true ∧ PySem.W.keepIn K (.ref f) = true
theorem MthK.of {K : PySem.W.Frag} {c m qual : Str} {st : Stmt} {C f : Addr} {oc : Value} {od an : Option Addr} {osl : Array (Option Value)} {kV doc pm cdv ct : Value} (n : PySem.W.nsIn K mainGlobals c = some (some (.ref C))) (a : PySem.W.findIn K (.ref C) m = some (some (.ref f))) (i : PySem.W.isFn K (.ref f) = true)
    (l : K.lookup f = some ⟨oc, od, .func (PySem.W.fnOf m qual (defArgs st) (defBody st) (defScope st) .none kV doc pm an cdv ct), osl⟩) (cd : PySem.W.codeIn K cdv qual = true) (k : PySem.W.keepIn K (.ref f) = true) : MthK K c m qual st :=
  ⟨C, f, oc, od, an, osl, kV, doc, pm, cdv, ct, n, ⟨a, i, k⟩, l, cd, k⟩
inductive MthSs (K : PySem.W.Frag) (nm : Nm) : List (Str × Str) → List Fd → Prop
  | nil : MthSs K nm [] []
  | cons {c m qual : Str} {nd : Fd} {st : Stmt} {xs : List (Str × Str)} {ds : List Fd} : MthS nm m qual nd st → c ∈ nm.mks → MthK K c m qual st → MthSs K nm xs ds → MthSs K nm ((c, m) :: xs) (nd :: ds)
theorem mths_get {K : PySem.W.Frag} {nm : Nm} {xs : List (Str × Str)} {ds : List Fd} (a : MthSs K nm xs ds) : ∀ {k : Nat} {c m : Str}, xs[k]? = some (c, m) → ∃ nd st qual, ds[k]? = some nd ∧ MthS nm m qual nd st ∧ c ∈ nm.mks ∧ MthK K c m qual st := by
  induction a with
  | nil => intro k c m e; simp at e
  | cons h1 h2 h3 _ ih =>
    intro k c m e
    cases k with
    | zero =>
      cases (show some _ = some (c, m) from e)
      exact ⟨_, _, _, rfl, h1, h2, h3⟩
    | succ k => exact ih e
theorem glob_mk (KX : K.In h) (Gn : h.Ns mainGlobals mg) (a : DefSs nm nm.fn (pg.fns.take pg.ng) ss) (k : DefKs K nm.fn ((pg.fns.take pg.ng).map (·.dfl)) ss) (ml : MthSs K nm pg.mth (pg.fns.drop pg.ng)) (z : Nones K) (xk : ExK K nm cl) (con : ∀ k d, pg.con[k]? = some d → ConAt ⟨P, w, K, mg, base, cl, pg, nm⟩ k d) (hcold : nm.cold = false) : Glob ⟨P, w, K, mg, base, cl, pg, nm⟩ := by
  have no : ∀ {x : Str}, PySem.W.nsIn K mainGlobals x = some none → mg x = none := fun e => PySem.W.mg_none_of KX Gn e
  refine ⟨fun f x hx => ?_, fun j c m hj => ?_, con, fun b => ?_, fun t => ?_, ⟨no z.b4, no z.b5, no z.b6, no z.b7, no z.b8, no z.b9⟩, (xk.txt KX Gn (no z.c1)).1, (xk.txt (P := P) (w := w) (base := base) (pg := pg) KX Gn (no z.c1)).2.1, (xk.txt KX Gn (no z.c1)).2.2, hcold⟩
  · obtain ⟨nd, st, e, ⟨ps, N, s1, s2, s3, s4, s5, s6, s7⟩, ⟨fa, oc, od, an, osl, dV, kV, doc, pm, cdv, ct, k0, k1, k2, k3, k4⟩⟩ := defs_get a k hx
    have F : FunD K x x (defArgs st) (defBody st) (defScope st) (dvsOf nd.dfl) [] fa _ := ⟨⟨oc, od, dV, kV, doc, pm, an, cdv, ct, osl, rfl, k2, k3, k0, .inl rfl⟩, k4⟩
    obtain ⟨b1, b2⟩ := s6.get F
    have e' : pg.fns[f]? = some nd := by
      rw [List.getElem?_take] at e
      split at e
      · exact e
      · cases e
    exact ⟨st, fa, _, ps, N, nd, s1, PySem.W.mg_of KX Gn k1, b1, F, s2, e', s3, s4, s5, k4, b2, s7⟩
  · obtain ⟨nd, st, qual, e, ⟨ps, N, s2, s3, s4, s5, s6⟩, hc, ⟨C, fa, oc, od, an, osl, kV, doc, pm, cdv, ct, k1, k2, k3, k4, k5⟩⟩ := mths_get ml hj
    obtain ⟨A, q1, q2, q3, q4, q5, q6⟩ := ((xk.txt (P := P) (w := w) (base := base) (pg := pg) KX Gn (no z.c1)).2.2.mks c hc).ok
    have q3' := q3.symm.trans (PySem.W.mg_of KX Gn k1)
    cases q3'
    have F : FunD K m qual (defArgs st) (defBody st) (defScope st) [] [] fa _ := ⟨⟨oc, od, .none, kV, doc, pm, an, cdv, ct, osl, rfl, k3, k4, .inl ⟨rfl, rfl⟩, .inl rfl⟩, k5⟩
    rw [List.getElem?_drop] at e
    exact ⟨_, st, qual, fa, _, ps, N, nd, q1, q4, k2, FunD.bindsN F s6, F, s2, e, s3, s4, s5⟩
  · cases b <;> first | exact no z.a1 | exact no z.a2 | exact no z.a3 | exact no z.a4 | exact no z.a5 | exact no z.a6 | exact no z.a7 | exact no z.a8 | exact no z.a9 | exact no z.b1 | exact no z.b2
  · cases t <;> first | exact no z.a6 | exact no z.b3 | exact no z.a7 | exact no z.a8 | exact no z.a9 | exact no z.b2
/-- THE END: the law is the f-th def -/
theorem end_mk {fa : Addr} {f n : Nat} {x y : Str} {N : List Str} {nd : Fd} {st : Stmt} (KX : K.In h) (Gn : h.Ns mainGlobals mg) (hfa : mg x = some (.ref fa)) (a : DefSs nm nm.fn (pg.fns.take pg.ng) ss) (k : DefKs K nm.fn ((pg.fns.take pg.ng).map (·.dfl)) ss) (ml : MthSs K nm pg.mth (pg.fns.drop pg.ng)) (z : Nones K) (xk : ExK K nm cl)
    (con : ∀ base k d, pg.con[k]? = some d → ConAt ⟨P, w, K, mg, base, cl, pg, nm⟩ k d) (hx : nm.fn[f]? = some x) (hst : ss[f]? = some st) (hnd : (pg.fns.take pg.ng)[f]? = some nd)
    (s2 : FnScope N [y] (defScope st)) (s3 : nd.np = 1 ∧ nd.dfl = none) (s4 : nd.nn = N.length) (s5 : (cs nm N nd.body).b (defScope st) (defBody st) = true) (s6 : bindsD x st [y])
    (hrun : ∀ ns : List Int, ns.length ≤ 63 → (∀ z ∈ ns, Builtin.Int.intBits z ≤ 1048576) → pg.run (n + 1) f [.ref 0] (scr ns) (fun d _ => d = .bl true) (fun _ _ => False)) (hcold : nm.cold = false := by rfl) :
    ∃ fd : FuncData, (∀ (s : Shared) (v : Value), BindsTo s fd ⟨[v], []⟩ [(y, v)]) ∧ ∀ base : Heap, K.In base → base.Ns mainGlobals mg → FnOk P w K mg base (L2.CX P w) (2 * (n + 1) + 2) fa fd [y] (spTop K) := by
  obtain ⟨fb, oc, od, an, osl, dV, kV, doc, pm, cdv, ct, k0, k1, k2, k3, k4⟩ := (defs_stmt k hx (show ((pg.fns.take pg.ng).map (·.dfl))[f]? = some none by rw [List.getElem?_map, hnd, ← s3.2]; rfl) hst).ok
  have k0 : dV = .none := k0.elim (fun h => h.2) fun h => absurd rfl h.1
  subst k0
  have e := hfa.symm.trans (PySem.W.mg_of KX Gn k1)
  cases e
  refine ⟨_, fun s v => .of_eq (s6 kV doc pm an cdv ct [v] rfl), fun base KB GB => ?_⟩
  have G : Glob ⟨P, w, K, mg, base, cl, pg, nm⟩ := glob_mk KX Gn a k ml z xk (con base) hcold
  have hnd' : pg.fns[f]? = some nd := by
    rw [List.getElem?_take] at hnd
    split at hnd
    · exact hnd
    · cases hnd
  exact top_ok (S := ⟨P, w, K, mg, base, cl, pg, nm⟩) hrun (fn_step G (all_at G n).1 (all_at G n).2 (dvs := []) ⟨⟨oc, od, .none, kV, doc, pm, an, cdv, ct, osl, rfl, k2, k3, .inl ⟨rfl, rfl⟩, .inl rfl⟩, k4⟩ s2 hnd' s3.1 s4 s5)
end
end Z
namespace Z
open PySem PySem.Spec PyProof.Rows L2
theorem cx_no {P : Program} {w : World} {H : Hp} {s : Shared} {e : Value} {s' : Shared} (h : L2.CX P w [] H s (fun _ _ _ => False) e s') : False := by
  obtain ⟨_, _, _, _, _, _, _, _, _, _, _, _, z⟩ := h
  exact z
end Z

set_option Elab.async false
set_option linter.all false
set_option maxRecDepth 100000
namespace ZL
open PySem PySem.Spec PyProof.Rows L2 Z
abbrev tp (i : Nat) : Stmt := PySem.Challenge.pw_wardsmith_k04_what_are_cuts.main.body.getD i (.Pass ⟨0, 0, 0, 0⟩)
noncomputable def b0_0 : Z.S := .seq (.ret (.and (.isi (.v 0) .int) (.not (.isi (.v 0) .bool)))) .done
theorem e0_0 {g : G} {D : Z.Ends} {env : Z.Env} {h : Hh} : wpS g b0_0 D env h = wpS g (.seq (.ret (.and (.isi (.v 0) .int) (.not (.isi (.v 0) .bool)))) .done) D env h := id rfl
noncomputable def b1_0 : Z.S := .seq (.ret (.cb true)) .done
theorem e1_0 {g : G} {D : Z.Ends} {env : Z.Env} {h : Hh} : wpS g b1_0 D env h = wpS g (.seq (.ret (.cb true)) .done) D env h := id rfl
noncomputable def b1_1 : Z.S := .seq (.ret (.cb false)) .done
theorem e1_1 {g : G} {D : Z.Ends} {env : Z.Env} {h : Hh} : wpS g b1_1 D env h = wpS g (.seq (.ret (.cb false)) .done) D env h := id rfl
noncomputable def b1_2 : Z.S := .seq (.ite (.cmp .Gt (.blt .abs (.cons (.bin .Sub (.v 7) (.v 8)) .nil)) (.v 6)) b1_1 .done) .done
theorem e1_2 {g : G} {D : Z.Ends} {env : Z.Env} {h : Hh} : wpS g b1_2 D env h = wpS g (.seq (.ite (.cmp .Gt (.blt .abs (.cons (.bin .Sub (.v 7) (.v 8)) .nil)) (.v 6)) b1_1 .done) .done) D env h := id rfl
noncomputable def b1_3 : Z.S := .seq (.for (.tp [7, 8]) (.izip (.v 1) (.sl (.v 1) (.ci 1) .nil)) b1_2) b1_0
theorem e1_3 {g : G} {D : Z.Ends} {env : Z.Env} {h : Hh} : wpS g b1_3 D env h = wpS g (.seq (.for (.tp [7, 8]) (.izip (.v 1) (.sl (.v 1) (.ci 1) .nil)) b1_2) b1_0) D env h := id rfl
noncomputable def b1_4 : Z.S := .seq (.ret (.cb false)) .done
theorem e1_4 {g : G} {D : Z.Ends} {env : Z.Env} {h : Hh} : wpS g b1_4 D env h = wpS g (.seq (.ret (.cb false)) .done) D env h := id rfl
noncomputable def b1_5 : Z.S := .seq (.ite (.or (.not (.call 0 (.cons (.v 2) .nil))) (.not (.chn .LtE .Lt (.ci 0) (.v 2) (.v 4)))) b1_4 .done) .done
theorem e1_5 {g : G} {D : Z.Ends} {env : Z.Env} {h : Hh} : wpS g b1_5 D env h = wpS g (.seq (.ite (.or (.not (.call 0 (.cons (.v 2) .nil))) (.not (.chn .LtE .Lt (.ci 0) (.v 2) (.v 4)))) b1_4 .done) .done) D env h := id rfl
noncomputable def b1_6 : Z.S := .seq (.for (.nm 2) (.v 1) b1_5) b1_3
theorem e1_6 {g : G} {D : Z.Ends} {env : Z.Env} {h : Hh} : wpS g b1_6 D env h = wpS g (.seq (.for (.nm 2) (.v 1) b1_5) b1_3) D env h := id rfl
noncomputable def b1_7 : Z.S := .seq (.ret (.cb false)) .done
theorem e1_7 {g : G} {D : Z.Ends} {env : Z.Env} {h : Hh} : wpS g b1_7 D env h = wpS g (.seq (.ret (.cb false)) .done) D env h := id rfl
noncomputable def b1_8 : Z.S := .seq (.ite (.or (.not (.isi (.v 1) .tuple)) (.cmp .NotEq (.blt .len (.cons (.v 1) .nil)) (.v 3))) b1_7 .done) b1_6
theorem e1_8 {g : G} {D : Z.Ends} {env : Z.Env} {h : Hh} : wpS g b1_8 D env h = wpS g (.seq (.ite (.or (.not (.isi (.v 1) .tuple)) (.cmp .NotEq (.blt .len (.cons (.v 1) .nil)) (.v 3))) b1_7 .done) b1_6) D env h := id rfl
noncomputable def b1_9 : Z.S := .seq (.asg (.tp [3, 4, 5, 6]) (.v 0)) b1_8
theorem e1_9 {g : G} {D : Z.Ends} {env : Z.Env} {h : Hh} : wpS g b1_9 D env h = wpS g (.seq (.asg (.tp [3, 4, 5, 6]) (.v 0)) b1_8) D env h := id rfl
noncomputable def b2_0 : Z.S := .seq (.ret (.blt .tuple (.cons (.bin .Mult (.lst (.cons (.ci 0) .nil)) (.ix (.v 0) (.ci 0))) .nil))) .done
theorem e2_0 {g : G} {D : Z.Ends} {env : Z.Env} {h : Hh} : wpS g b2_0 D env h = wpS g (.seq (.ret (.blt .tuple (.cons (.bin .Mult (.lst (.cons (.ci 0) .nil)) (.ix (.v 0) (.ci 0))) .nil))) .done) D env h := id rfl
noncomputable def b3_0 : Z.S := .seq (.ret (.bin .Mod (.bin .Mult (.bin .Add (.bin .Add (.ix (.v 0) (.bin .Mod (.v 1) (.blt .len (.cons (.v 0) .nil)))) (.ci 1)) (.v 1)) (.bin .Add (.ci 48271) (.bin .Mult (.ci 7919) (.v 1)))) (.ci 2147483647))) .done
noncomputable def b3_1 : Z.S := .seq (.ret (.v 1)) .done
noncomputable def b3_2 : Z.S := .seq (.ite (.cmp .Eq (.v 0) (.lst (.nil))) b3_1 .done) b3_0
noncomputable def b4_0 : Z.S := .seq (.ret (.tup (.cons (.v 2) (.cons (.v 1) (.cons (.bin .Add (.ci 1) (.bin .Mod (.call 3 (.cons (.v 0) (.cons (.ci 2) .nil))) (.v 1))) (.cons (.bin .Add (.ci 1) (.bin .Mod (.call 3 (.cons (.v 0) (.cons (.ci 3) .nil))) (.bin .Sub (.v 1) (.ci 1)))) .nil)))))) .done
noncomputable def b4_1 : Z.S := .seq (.asg (.nm 2) (.bin .Add (.ci 1) (.bin .Mod (.call 3 (.cons (.v 0) (.cons (.ci 1) .nil))) (.ci 24)))) b4_0
noncomputable def b4_2 : Z.S := .seq (.asg (.nm 1) (.bin .Add (.ci 2) (.bin .Mod (.call 3 (.cons (.v 0) (.cons (.ci 0) .nil))) (.ci 19)))) b4_1
noncomputable def b5_0 : Z.S := .seq (.ret (.blt .tuple (.cons (.v 3) .nil))) .done
noncomputable def b5_1 : Z.S := .seq (.exp (.met (.v 3) .append (.cons (.bin .Add (.v 5) (.bin .Mod (.call 3 (.cons (.v 1) (.cons (.bin .Add (.v 2) (.v 4)) .nil))) (.bin .Add (.bin .Sub (.v 6) (.v 5)) (.ci 1)))) .nil))) .done
noncomputable def b5_2 : Z.S := .seq (.asg (.nm 6) (.blt .min (.cons (.v 6) (.cons (.bin .Add (.ix (.v 3) (.neg (.ci 1))) (.ix (.v 0) (.ci 3))) .nil)))) .done
noncomputable def b5_3 : Z.S := .seq (.asg (.nm 5) (.blt .max (.cons (.v 5) (.cons (.bin .Sub (.ix (.v 3) (.neg (.ci 1))) (.ix (.v 0) (.ci 3))) .nil)))) b5_2
noncomputable def b5_4 : Z.S := .seq (.ite (.cmp .NotEq (.v 3) (.lst (.nil))) b5_3 .done) b5_1
noncomputable def b5_5 : Z.S := .seq (.asg (.nm 6) (.bin .Sub (.ix (.v 0) (.ci 1)) (.ci 1))) b5_4
noncomputable def b5_6 : Z.S := .seq (.asg (.nm 5) (.ci 0)) b5_5
noncomputable def b5_7 : Z.S := .seq (.for (.nm 4) (.irange (.ix (.v 0) (.ci 0))) b5_6) b5_0
noncomputable def b5_8 : Z.S := .seq (.asg (.nm 3) (.lst (.nil))) b5_7
noncomputable def b6_0 : Z.S := .seq (.ret (.bin .Add (.bin .Add (.sl (.v 1) .nil (.v 5)) (.tup (.cons (.v 7) .nil))) (.sl (.v 1) (.bin .Add (.v 5) (.ci 1)) .nil))) .done
theorem e6_0 {g : G} {D : Z.Ends} {env : Z.Env} {h : Hh} : wpS g b6_0 D env h = wpS g (.seq (.ret (.bin .Add (.bin .Add (.sl (.v 1) .nil (.v 5)) (.tup (.cons (.v 7) .nil))) (.sl (.v 1) (.bin .Add (.v 5) (.ci 1)) .nil))) .done) D env h := id rfl
noncomputable def b6_1 : Z.S := .seq (.asg (.nm 7) (.ix (.lst (.cons (.cb true) (.cons (.cb false) (.cons (.cn) (.cons (.cs "0") (.cons (.tup (.cons (.ci 0) .nil)) (.cons (.lst (.cons (.ci 0) .nil)) .nil))))))) (.bin .Mod (.bin .FloorDiv (.v 4) (.ci 24)) (.ci 6)))) .done
theorem e6_1 {g : G} {D : Z.Ends} {env : Z.Env} {h : Hh} : wpS g b6_1 D env h = wpS g (.seq (.asg (.nm 7) (.ix (.lst (.cons (.cb true) (.cons (.cb false) (.cons (.cn) (.cons (.cs "0") (.cons (.tup (.cons (.ci 0) .nil)) (.cons (.lst (.cons (.ci 0) .nil)) .nil))))))) (.bin .Mod (.bin .FloorDiv (.v 4) (.ci 24)) (.ci 6)))) .done) D env h := id rfl
noncomputable def b6_2 : Z.S := .seq (.ite (.cmp .Eq (.v 3) (.ci 5)) b6_1 .done) b6_0
theorem e6_2 {g : G} {D : Z.Ends} {env : Z.Env} {h : Hh} : wpS g b6_2 D env h = wpS g (.seq (.ite (.cmp .Eq (.v 3) (.ci 5)) b6_1 .done) b6_0) D env h := id rfl
noncomputable def b6_3 : Z.S := .seq (.asg (.nm 7) (.bin .Sub (.bin .Sub (.v 6) (.ix (.v 0) (.ci 3))) (.bin .Mod (.bin .FloorDiv (.v 4) (.ci 24)) (.ci 2)))) .done
theorem e6_3 {g : G} {D : Z.Ends} {env : Z.Env} {h : Hh} : wpS g b6_3 D env h = wpS g (.seq (.asg (.nm 7) (.bin .Sub (.bin .Sub (.v 6) (.ix (.v 0) (.ci 3))) (.bin .Mod (.bin .FloorDiv (.v 4) (.ci 24)) (.ci 2)))) .done) D env h := id rfl
noncomputable def b6_4 : Z.S := .seq (.ite (.cmp .Eq (.v 3) (.ci 1)) b6_3 .done) b6_2
theorem e6_4 {g : G} {D : Z.Ends} {env : Z.Env} {h : Hh} : wpS g b6_4 D env h = wpS g (.seq (.ite (.cmp .Eq (.v 3) (.ci 1)) b6_3 .done) b6_2) D env h := id rfl
noncomputable def b6_5 : Z.S := .seq (.asg (.nm 7) (.bin .Add (.bin .Add (.v 6) (.ix (.v 0) (.ci 3))) (.bin .Mod (.bin .FloorDiv (.v 4) (.ci 24)) (.ci 2)))) .done
theorem e6_5 {g : G} {D : Z.Ends} {env : Z.Env} {h : Hh} : wpS g b6_5 D env h = wpS g (.seq (.asg (.nm 7) (.bin .Add (.bin .Add (.v 6) (.ix (.v 0) (.ci 3))) (.bin .Mod (.bin .FloorDiv (.v 4) (.ci 24)) (.ci 2)))) .done) D env h := id rfl
noncomputable def b6_6 : Z.S := .seq (.ite (.cmp .Eq (.v 3) (.ci 0)) b6_5 .done) b6_4
theorem e6_6 {g : G} {D : Z.Ends} {env : Z.Env} {h : Hh} : wpS g b6_6 D env h = wpS g (.seq (.ite (.cmp .Eq (.v 3) (.ci 0)) b6_5 .done) b6_4) D env h := id rfl
noncomputable def b6_7 : Z.S := .seq (.asg (.nm 7) (.bin .Sub (.bin .Mod (.bin .FloorDiv (.v 4) (.ci 24)) (.ci 25)) (.ci 2))) b6_6
theorem e6_7 {g : G} {D : Z.Ends} {env : Z.Env} {h : Hh} : wpS g b6_7 D env h = wpS g (.seq (.asg (.nm 7) (.bin .Sub (.bin .Mod (.bin .FloorDiv (.v 4) (.ci 24)) (.ci 25)) (.ci 2))) b6_6) D env h := id rfl
noncomputable def b6_8 : Z.S := .seq (.ret (.ix (.lst (.cons (.blt .list (.cons (.v 1) .nil)) (.cons (.bin .Add (.v 1) (.tup (.cons (.ix (.v 1) (.neg (.ci 1))) .nil))) (.cons (.sl (.v 1) .nil (.neg (.ci 1))) (.cons (.tup (.cons (.v 1) .nil)) (.cons (.blt .str (.cons (.v 1) .nil)) (.cons (.bin .Add (.v 1) (.tup (.cons (.ci 0) .nil))) (.cons (.v 1) .nil)))))))) (.bin .Mod (.v 4) (.ci 7)))) .done
theorem e6_8 {g : G} {D : Z.Ends} {env : Z.Env} {h : Hh} : wpS g b6_8 D env h = wpS g (.seq (.ret (.ix (.lst (.cons (.blt .list (.cons (.v 1) .nil)) (.cons (.bin .Add (.v 1) (.tup (.cons (.ix (.v 1) (.neg (.ci 1))) .nil))) (.cons (.sl (.v 1) .nil (.neg (.ci 1))) (.cons (.tup (.cons (.v 1) .nil)) (.cons (.blt .str (.cons (.v 1) .nil)) (.cons (.bin .Add (.v 1) (.tup (.cons (.ci 0) .nil))) (.cons (.v 1) .nil)))))))) (.bin .Mod (.v 4) (.ci 7)))) .done) D env h := id rfl
noncomputable def b6_9 : Z.S := .seq (.ite (.cmp .Eq (.v 3) (.ci 3)) b6_8 .done) b6_7
theorem e6_9 {g : G} {D : Z.Ends} {env : Z.Env} {h : Hh} : wpS g b6_9 D env h = wpS g (.seq (.ite (.cmp .Eq (.v 3) (.ci 3)) b6_8 .done) b6_7) D env h := id rfl
noncomputable def b6_10 : Z.S := .seq (.asg (.nm 6) (.ix (.v 1) (.bin .Mod (.bin .Add (.v 5) (.ci 1)) (.blt .len (.cons (.v 1) .nil))))) b6_9
theorem e6_10 {g : G} {D : Z.Ends} {env : Z.Env} {h : Hh} : wpS g b6_10 D env h = wpS g (.seq (.asg (.nm 6) (.ix (.v 1) (.bin .Mod (.bin .Add (.v 5) (.ci 1)) (.blt .len (.cons (.v 1) .nil))))) b6_9) D env h := id rfl
noncomputable def b6_11 : Z.S := .seq (.asg (.nm 5) (.bin .Mod (.v 4) (.blt .len (.cons (.v 1) .nil)))) b6_10
theorem e6_11 {g : G} {D : Z.Ends} {env : Z.Env} {h : Hh} : wpS g b6_11 D env h = wpS g (.seq (.asg (.nm 5) (.bin .Mod (.v 4) (.blt .len (.cons (.v 1) .nil)))) b6_10) D env h := id rfl
noncomputable def b6_12 : Z.S := .seq (.asg (.nm 4) (.bin .FloorDiv (.v 2) (.ci 7))) b6_11
theorem e6_12 {g : G} {D : Z.Ends} {env : Z.Env} {h : Hh} : wpS g b6_12 D env h = wpS g (.seq (.asg (.nm 4) (.bin .FloorDiv (.v 2) (.ci 7))) b6_11) D env h := id rfl
noncomputable def b6_13 : Z.S := .seq (.asg (.nm 3) (.bin .Mod (.v 2) (.ci 7))) b6_12
theorem e6_13 {g : G} {D : Z.Ends} {env : Z.Env} {h : Hh} : wpS g b6_13 D env h = wpS g (.seq (.asg (.nm 3) (.bin .Mod (.v 2) (.ci 7))) b6_12) D env h := id rfl
noncomputable def b7_0 : Z.S := .seq (.ret (.cb true)) .done
theorem e7_0 {g : G} {D : Z.Ends} {env : Z.Env} {h : Hh} : wpS g b7_0 D env h = wpS g (.seq (.ret (.cb true)) .done) D env h := id rfl
noncomputable def b7_1 : Z.S := .seq (.ret (.cb false)) .done
theorem e7_1 {g : G} {D : Z.Ends} {env : Z.Env} {h : Hh} : wpS g b7_1 D env h = wpS g (.seq (.ret (.cb false)) .done) D env h := id rfl
noncomputable def b7_2 : Z.S := .seq (.ite (.cmp .Gt (.bin .Sub (.blt .max (.cons (.ix (.v 1) (.bin .Sub (.v 3) (.ci 1))) (.cons (.ix (.v 1) (.v 3)) .nil))) (.blt .min (.cons (.ix (.v 1) (.bin .Sub (.v 3) (.ci 1))) (.cons (.ix (.v 1) (.v 3)) .nil)))) (.ix (.v 0) (.ci 3))) b7_1 .done) .done
theorem e7_2 {g : G} {D : Z.Ends} {env : Z.Env} {h : Hh} : wpS g b7_2 D env h = wpS g (.seq (.ite (.cmp .Gt (.bin .Sub (.blt .max (.cons (.ix (.v 1) (.bin .Sub (.v 3) (.ci 1))) (.cons (.ix (.v 1) (.v 3)) .nil))) (.blt .min (.cons (.ix (.v 1) (.bin .Sub (.v 3) (.ci 1))) (.cons (.ix (.v 1) (.v 3)) .nil)))) (.ix (.v 0) (.ci 3))) b7_1 .done) .done) D env h := id rfl
noncomputable def b7_3 : Z.S := .seq (.for (.nm 3) (.irange2 (.ci 1) (.blt .len (.cons (.v 1) .nil))) b7_2) b7_0
theorem e7_3 {g : G} {D : Z.Ends} {env : Z.Env} {h : Hh} : wpS g b7_3 D env h = wpS g (.seq (.for (.nm 3) (.irange2 (.ci 1) (.blt .len (.cons (.v 1) .nil))) b7_2) b7_0) D env h := id rfl
noncomputable def b7_4 : Z.S := .seq (.ret (.cb false)) .done
theorem e7_4 {g : G} {D : Z.Ends} {env : Z.Env} {h : Hh} : wpS g b7_4 D env h = wpS g (.seq (.ret (.cb false)) .done) D env h := id rfl
noncomputable def b7_5 : Z.S := .seq (.ite (.or (.not (.isi (.v 2) .int)) (.or (.isi (.v 2) .bool) (.or (.cmp .Lt (.v 2) (.ci 0)) (.cmp .GtE (.v 2) (.ix (.v 0) (.ci 1)))))) b7_4 .done) .done
theorem e7_5 {g : G} {D : Z.Ends} {env : Z.Env} {h : Hh} : wpS g b7_5 D env h = wpS g (.seq (.ite (.or (.not (.isi (.v 2) .int)) (.or (.isi (.v 2) .bool) (.or (.cmp .Lt (.v 2) (.ci 0)) (.cmp .GtE (.v 2) (.ix (.v 0) (.ci 1)))))) b7_4 .done) .done) D env h := id rfl
noncomputable def b7_6 : Z.S := .seq (.for (.nm 2) (.v 1) b7_5) b7_3
theorem e7_6 {g : G} {D : Z.Ends} {env : Z.Env} {h : Hh} : wpS g b7_6 D env h = wpS g (.seq (.for (.nm 2) (.v 1) b7_5) b7_3) D env h := id rfl
noncomputable def b7_7 : Z.S := .seq (.ret (.cb false)) .done
theorem e7_7 {g : G} {D : Z.Ends} {env : Z.Env} {h : Hh} : wpS g b7_7 D env h = wpS g (.seq (.ret (.cb false)) .done) D env h := id rfl
noncomputable def b7_8 : Z.S := .seq (.ite (.or (.not (.isi (.v 1) .tuple)) (.cmp .NotEq (.blt .len (.cons (.v 1) .nil)) (.ix (.v 0) (.ci 0)))) b7_7 .done) b7_6
theorem e7_8 {g : G} {D : Z.Ends} {env : Z.Env} {h : Hh} : wpS g b7_8 D env h = wpS g (.seq (.ite (.or (.not (.isi (.v 1) .tuple)) (.cmp .NotEq (.blt .len (.cons (.v 1) .nil)) (.ix (.v 0) (.ci 0)))) b7_7 .done) b7_6) D env h := id rfl
noncomputable def b8_0 : Z.S := .seq (.ret (.and (.isi (.v 3) .bool) (.cmp .Eq (.v 3) (.v 2)))) .done
theorem e8_0 {g : G} {D : Z.Ends} {env : Z.Env} {h : Hh} : wpS g b8_0 D env h = wpS g (.seq (.ret (.and (.isi (.v 3) .bool) (.cmp .Eq (.v 3) (.v 2)))) .done) D env h := id rfl
noncomputable def b8_1 : Z.S := .seq (.asg (.nm 3) (.call 1 (.cons (.v 0) (.cons (.v 1) .nil)))) b8_0
theorem e8_1 {g : G} {D : Z.Ends} {env : Z.Env} {h : Hh} : wpS g b8_1 D env h = wpS g (.seq (.asg (.nm 3) (.call 1 (.cons (.v 0) (.cons (.v 1) .nil)))) b8_0) D env h := id rfl
noncomputable def b9_0 : Z.S := .seq (.ret (.and (.cmp .Eq (.v 5) (.blt .tuple (.cons (.cpr (.ci 0) (.nm 7) (.irange (.ix (.v 1) (.ci 0))) (.nil) [7]) .nil))) (.call 8 (.cons (.v 1) (.cons (.v 5) (.cons (.cb true) .nil)))))) .done
theorem e9_0 {g : G} {D : Z.Ends} {env : Z.Env} {h : Hh} : wpS g b9_0 D env h = wpS g (.seq (.ret (.and (.cmp .Eq (.v 5) (.blt .tuple (.cons (.cpr (.ci 0) (.nm 7) (.irange (.ix (.v 1) (.ci 0))) (.nil) [7]) .nil))) (.call 8 (.cons (.v 1) (.cons (.v 5) (.cons (.cb true) .nil)))))) .done) D env h := id rfl
noncomputable def b9_1 : Z.S := .seq (.ret (.cb false)) .done
noncomputable def b9_2 : Z.S := .seq (.ite (.or (.not (.isi (.v 5) .tuple)) (.cmp .NotEq (.cpr (.v 6) (.nm 6) (.v 5) (.isi (.v 6) .bool) [6]) (.lst (.nil)))) b9_1 .done) b9_0
theorem e9_2 {g : G} {D : Z.Ends} {env : Z.Env} {h : Hh} : wpS g b9_2 D env h = wpS g (.seq (.ite (.or (.not (.isi (.v 5) .tuple)) (.cmp .NotEq (.cpr (.v 6) (.nm 6) (.v 5) (.isi (.v 6) .bool) [6]) (.lst (.nil)))) b9_1 .done) b9_0) D env h := id rfl
noncomputable def b9_3 : Z.S := .seq (.asg (.nm 5) (.call 2 (.cons (.v 1) .nil))) b9_2
theorem e9_3 {g : G} {D : Z.Ends} {env : Z.Env} {h : Hh} : wpS g b9_3 D env h = wpS g (.seq (.asg (.nm 5) (.call 2 (.cons (.v 1) .nil))) b9_2) D env h := id rfl
noncomputable def b9_4 : Z.S := .seq (.ret (.cb false)) .done
noncomputable def b9_5 : Z.S := .seq (.ite (.not (.call 8 (.cons (.v 1) (.cons (.v 4) (.cons (.cb false) .nil))))) b9_4 .done) .done
theorem e9_5 {g : G} {D : Z.Ends} {env : Z.Env} {h : Hh} : wpS g b9_5 D env h = wpS g (.seq (.ite (.not (.call 8 (.cons (.v 1) (.cons (.v 4) (.cons (.cb false) .nil))))) b9_4 .done) .done) D env h := id rfl
noncomputable def b9_6 : Z.S := .seq (.for (.nm 4) (.lst (.cons (.cn) (.cons (.ci 0) (.cons (.cs "0-0") (.cons (.lst (.nil)) (.cons (.dnew) (.cons (.tup (.nil)) .nil))))))) b9_5) b9_3
theorem e9_6 {g : G} {D : Z.Ends} {env : Z.Env} {h : Hh} : wpS g b9_6 D env h = wpS g (.seq (.for (.nm 4) (.lst (.cons (.cn) (.cons (.ci 0) (.cons (.cs "0-0") (.cons (.lst (.nil)) (.cons (.dnew) (.cons (.tup (.nil)) .nil))))))) b9_5) b9_3) D env h := id rfl
noncomputable def b9_7 : Z.S := .seq (.ret (.cb false)) .done
noncomputable def b9_8 : Z.S := .seq (.ite (.not (.call 8 (.cons (.v 1) (.cons (.v 4) (.cons (.call 7 (.cons (.v 1) (.cons (.v 4) .nil))) .nil))))) b9_7 .done) .done
theorem e9_8 {g : G} {D : Z.Ends} {env : Z.Env} {h : Hh} : wpS g b9_8 D env h = wpS g (.seq (.ite (.not (.call 8 (.cons (.v 1) (.cons (.v 4) (.cons (.call 7 (.cons (.v 1) (.cons (.v 4) .nil))) .nil))))) b9_7 .done) .done) D env h := id rfl
noncomputable def b9_9 : Z.S := .seq (.asg (.nm 4) (.call 6 (.cons (.v 1) (.cons (.v 2) (.cons (.v 3) .nil))))) b9_8
theorem e9_9 {g : G} {D : Z.Ends} {env : Z.Env} {h : Hh} : wpS g b9_9 D env h = wpS g (.seq (.asg (.nm 4) (.call 6 (.cons (.v 1) (.cons (.v 2) (.cons (.v 3) .nil))))) b9_8) D env h := id rfl
noncomputable def b9_10 : Z.S := .seq (.for (.nm 3) (.sl (.v 0) .nil (.ci 60)) b9_9) b9_6
theorem e9_10 {g : G} {D : Z.Ends} {env : Z.Env} {h : Hh} : wpS g b9_10 D env h = wpS g (.seq (.for (.nm 3) (.sl (.v 0) .nil (.ci 60)) b9_9) b9_6) D env h := id rfl
noncomputable def b9_11 : Z.S := .seq (.ret (.cb false)) .done
noncomputable def b9_12 : Z.S := .seq (.ite (.not (.call 8 (.cons (.v 1) (.cons (.v 2) (.cons (.cb true) .nil))))) b9_11 .done) b9_10
theorem e9_12 {g : G} {D : Z.Ends} {env : Z.Env} {h : Hh} : wpS g b9_12 D env h = wpS g (.seq (.ite (.not (.call 8 (.cons (.v 1) (.cons (.v 2) (.cons (.cb true) .nil))))) b9_11 .done) b9_10) D env h := id rfl
noncomputable def b9_13 : Z.S := .seq (.asg (.nm 2) (.call 5 (.cons (.v 1) (.cons (.v 0) (.cons (.ci 4) .nil))))) b9_12
theorem e9_13 {g : G} {D : Z.Ends} {env : Z.Env} {h : Hh} : wpS g b9_13 D env h = wpS g (.seq (.asg (.nm 2) (.call 5 (.cons (.v 1) (.cons (.v 0) (.cons (.ci 4) .nil))))) b9_12) D env h := id rfl
noncomputable def b9_14 : Z.S := .seq (.asg (.nm 1) (.call 4 (.cons (.v 0) .nil))) b9_13
theorem e9_14 {g : G} {D : Z.Ends} {env : Z.Env} {h : Hh} : wpS g b9_14 D env h = wpS g (.seq (.asg (.nm 1) (.call 4 (.cons (.v 0) .nil))) b9_13) D env h := id rfl
noncomputable def pg : Pg := ⟨[⟨1, 1, b0_0, none⟩, ⟨2, 9, b1_9, none⟩, ⟨1, 1, b2_0, none⟩, ⟨2, 2, b3_2, none⟩, ⟨1, 3, b4_2, none⟩, ⟨3, 7, b5_8, none⟩, ⟨3, 8, b6_13, none⟩, ⟨2, 4, b7_8, none⟩, ⟨3, 4, b8_1, none⟩, ⟨1, 8, b9_14, none⟩], [], 10, []⟩
noncomputable def nm : Nm := ⟨["is_whole", "is_cuts", "first_cuts", "_law_mixed", "_law_rules", "_law_cuts", "_law_thing", "_law_good", "_law_told", "law"], [], [], [], [], [], [], [], [], [], [], false⟩
theorem d0 : DefS nm "is_whole" ⟨1, 1, b0_0, none⟩ (tp 1) := ⟨["thing"], ["thing"], by decide, ⟨rfl, rfl, rfl, by decide +kernel, rfl, by decide +kernel, by decide +kernel⟩, rfl, rfl, by decide +kernel, fun _ _ _ _ _ _ us hl => match us, hl with | [_], _ => rfl, fun h => absurd h (by decide)⟩
theorem d1 : DefS nm "is_cuts" ⟨2, 9, b1_9, none⟩ (tp 3) := ⟨["rules", "thing"], ["rules", "thing", "depth", "places", "depths", "heights", "step", "here", "there"], by decide, ⟨rfl, rfl, rfl, by decide +kernel, rfl, by decide +kernel, by decide +kernel⟩, rfl, rfl, by decide +kernel, fun _ _ _ _ _ _ us hl => match us, hl with | [_, _], _ => rfl, fun h => absurd h (by decide)⟩
theorem d2 : DefS nm "first_cuts" ⟨1, 1, b2_0, none⟩ (tp 4) := ⟨["rules"], ["rules"], by decide, ⟨rfl, rfl, rfl, by decide +kernel, rfl, by decide +kernel, by decide +kernel⟩, rfl, rfl, by decide +kernel, fun _ _ _ _ _ _ us hl => match us, hl with | [_], _ => rfl, fun h => absurd h (by decide)⟩
theorem d3 : DefS nm "_law_mixed" ⟨2, 2, b3_2, none⟩ (tp 6) := ⟨["_law_script", "_law_k"], ["_law_script", "_law_k"], by decide, ⟨rfl, rfl, rfl, by decide +kernel, rfl, by decide +kernel, by decide +kernel⟩, rfl, rfl, by decide +kernel, fun _ _ _ _ _ _ us hl => match us, hl with | [_, _], _ => rfl, fun h => absurd h (by decide)⟩
theorem d4 : DefS nm "_law_rules" ⟨1, 3, b4_2, none⟩ (tp 7) := ⟨["_law_script"], ["_law_script", "_law_depths", "_law_places"], by decide, ⟨rfl, rfl, rfl, by decide +kernel, rfl, by decide +kernel, by decide +kernel⟩, rfl, rfl, by decide +kernel, fun _ _ _ _ _ _ us hl => match us, hl with | [_], _ => rfl, fun h => absurd h (by decide)⟩
theorem d5 : DefS nm "_law_cuts" ⟨3, 7, b5_8, none⟩ (tp 8) := ⟨["_law_rules_here", "_law_script", "_law_begin"], ["_law_rules_here", "_law_script", "_law_begin", "_law_found", "_law_k", "_law_low", "_law_high"], by decide, ⟨rfl, rfl, rfl, by decide +kernel, rfl, by decide +kernel, by decide +kernel⟩, rfl, rfl, by decide +kernel, fun _ _ _ _ _ _ us hl => match us, hl with | [_, _, _], _ => rfl, fun h => absurd h (by decide)⟩
theorem d6 : DefS nm "_law_thing" ⟨3, 8, b6_13, none⟩ (tp 9) := ⟨["_law_rules_here", "_law_one", "_law_cell"], ["_law_rules_here", "_law_one", "_law_cell", "_law_way", "_law_rest", "_law_at", "_law_beside", "_law_other"], by decide, ⟨rfl, rfl, rfl, by decide +kernel, rfl, by decide +kernel, by decide +kernel⟩, rfl, rfl, by decide +kernel, fun _ _ _ _ _ _ us hl => match us, hl with | [_, _, _], _ => rfl, fun h => absurd h (by decide)⟩
theorem d7 : DefS nm "_law_good" ⟨2, 4, b7_8, none⟩ (tp 10) := ⟨["_law_rules_here", "_law_thing_here"], ["_law_rules_here", "_law_thing_here", "_law_depth", "_law_k"], by decide, ⟨rfl, rfl, rfl, by decide +kernel, rfl, by decide +kernel, by decide +kernel⟩, rfl, rfl, by decide +kernel, fun _ _ _ _ _ _ us hl => match us, hl with | [_, _], _ => rfl, fun h => absurd h (by decide)⟩
theorem d8 : DefS nm "_law_told" ⟨3, 4, b8_1, none⟩ (tp 11) := ⟨["_law_rules_here", "_law_thing_here", "_law_due"], ["_law_rules_here", "_law_thing_here", "_law_due", "_law_found"], by decide, ⟨rfl, rfl, rfl, by decide +kernel, rfl, by decide +kernel, by decide +kernel⟩, rfl, rfl, by decide +kernel, fun _ _ _ _ _ _ us hl => match us, hl with | [_, _, _], _ => rfl, fun h => absurd h (by decide)⟩
theorem d9 : DefS nm "law" ⟨1, 8, b9_14, none⟩ (tp 12) := ⟨["_law_script"], ["_law_script", "_law_rules_here", "_law_one", "_law_cell", "_law_thing_here", "_law_first", "_law_depth", "_law_k"], by decide, ⟨rfl, rfl, rfl, by decide +kernel, rfl, by decide +kernel, by decide +kernel⟩, rfl, rfl, by decide +kernel, fun _ _ _ _ _ _ us hl => match us, hl with | [_], _ => rfl, fun h => absurd h (by decide)⟩
abbrev sts : List Stmt := [tp 1, tp 3, tp 4, tp 6, tp 7, tp 8, tp 9, tp 10, tp 11, tp 12]
theorem ds : DefSs nm nm.fn (pg.fns.take pg.ng) sts := .cons d0 (.cons d1 (.cons d2 (.cons d3 (.cons d4 (.cons d5 (.cons d6 (.cons d7 (.cons d8 (.cons d9 (.nil))))))))))
end ZL


set_option Elab.async false
set_option linter.all false
set_option maxRecDepth 100000
/-! Z, part Q: each plain run has at most one end. -/
namespace Z
open PySem PySem.Spec PyProof.Rows

section
variable {α β : Type}
noncomputable def Det (P : (α → Hh → Prop) → KX → Prop) : Prop := (∀ Q X, ¬ P Q X) ∨ (∃ d h, ∀ Q X, P Q X ↔ Q d h) ∨ (∃ x h, ∀ Q X, P Q X ↔ X x h)
theorem det_false : Det (α := α) (fun _ _ => False) := .inl fun _ _ z => z
theorem det_pure (d : α) (h : Hh) : Det (fun Q _ => Q d h) := .inr (.inl ⟨d, h, fun _ _ => Iff.rfl⟩)
theorem det_bind {P : (α → Hh → Prop) → KX → Prop} {F : α → Hh → (β → Hh → Prop) → KX → Prop} (p : Det P) (f : ∀ a h, Det (F a h)) : Det (fun Q X => P (fun a h => F a h Q X) X) := by
  rcases p with p | ⟨d, h, p⟩ | ⟨x, h, p⟩
  · exact .inl fun Q X => p _ _
  · rcases f d h with q | ⟨e, h2, q⟩ | ⟨x, h2, q⟩
    · exact .inl fun Q X z => q Q X ((p _ _).mp z)
    · exact .inr (.inl ⟨e, h2, fun Q X => (p _ _).trans (q Q X)⟩)
    · exact .inr (.inr ⟨x, h2, fun Q X => (p _ _).trans (q Q X)⟩)
  · exact .inr (.inr ⟨x, h, fun Q X => p _ _⟩)
theorem det_and {g : Prop} {P : (α → Hh → Prop) → KX → Prop} (p : Det P) : Det (fun Q X => g ∧ P Q X) := by
  by_cases hg : g
  · simpa [hg] using p
  · exact .inl fun Q X z => hg z.1
theorem det_ite {c : Bool} {P R : (α → Hh → Prop) → KX → Prop} (p : Det P) (r : Det R) : Det (fun Q X => if c = true then P Q X else R Q X) := by
  cases c
  · simpa using r
  · simpa using p
/-- what may be raised is another thing -/
theorem det_noX {P : (α → Hh → Prop) → KX → Prop} (p : Det P) : Det (fun Q (_ : KX) => P Q (fun _ _ => False)) := by
  rcases p with p | ⟨d, h, p⟩ | ⟨x, h, p⟩
  · exact .inl fun Q X => p _ _
  · exact .inr (.inl ⟨d, h, fun Q X => p _ _⟩)
  · exact .inl fun Q X z => (p _ _).mp z
end
theorem det_bnd (r : Option (D × Hh)) : Det (fun Q _ => bnd r Q) := by
  cases r with
  | none => exact det_false
  | some p => exact det_pure p.1 p.2
theorem det_bndB (r : Option Bool) (h : Hh) : Det (fun Q _ => bndB r Q h) := by
  cases r with
  | none => exact det_false
  | some p => exact det_pure _ h
theorem det_bndW (r : Option Wk) (h : Hh) : Det (fun (Q : KW) _ => bndW r Q h) := by
  cases r with
  | none => exact det_false
  | some p => exact det_pure _ h
theorem det_bndWH (r : Option (Wk × Hh)) : Det (fun (Q : KW) _ => bndWH r Q) := by
  cases r with
  | none => exact det_false
  | some p => exact det_pure p.1 p.2
theorem det_asB (d : D) (h : Hh) : Det (fun (Q : Bool → Hh → Prop) _ => asB Q d h) := by
  cases d <;> first | exact det_pure _ h | exact det_false
theorem det_asP (d : D) (h : Hh) : Det (fun (Q : Option Int → Hh → Prop) _ => asPart Q d h) := by
  cases d <;> first | exact det_pure _ h | exact det_false
structure SemDet (s : Sem) : Prop where
  v : ∀ env h, Det (s.val env h)
  t : ∀ env h, Det (s.tst env h)
  a : ∀ env h, Det (s.arg env h)
  i : ∀ env h, Det (s.itr env h)
  p : ∀ env h, Det (s.prt env h)
theorem semDet_of {val : Env → Hh → KD → KX → Prop} (d : ∀ env h, Det (val env h)) : SemDet (ofVal val) :=
  ⟨d, fun env h => det_bind (F := fun d h Q _ => asB Q d h) (d env h) det_asB, fun _ _ => det_false, fun env h => det_bind (F := fun d h Q _ => bndW (wkOf h d) Q h) (d env h) fun d h => det_bndW _ _, fun env h => det_bind (F := fun d h Q _ => asPart Q d h) (d env h) det_asP⟩
theorem walkC_det {gd : Hh → Prop} {n : Nat} {step : D → Hh → (Option D → Hh → Prop) → Prop} (st : ∀ d h, Det (fun K (_ : KX) => step d h K)) (ds : List D) : ∀ (acc : List D) (h : Hh), Det (fun (Q : Unit → Hh → Prop) (_ : KX) => walkC gd n step (fun h => Q () h) ds acc h) := by
  induction ds with
  | nil => intro acc h; exact det_and (det_pure () h)
  | cons d ds ih =>
    intro acc h
    refine det_and (det_bind (F := fun (o : Option D) h1 (Q : Unit → Hh → Prop) (_ : KX) => match o with
      | none => h1[n]? = some (.lst acc) ∧ walkC gd n step (fun h => Q () h) ds acc h1
      | some x => h1[n]? = some (.lst acc) ∧ acc.length < sizeLine ∧ walkC gd n step (fun h => Q () h) ds (acc ++ [x]) (h1.set n (.lst (acc ++ [x])))) (st d h) fun o h1 => ?_)
    cases o with
    | none => exact det_and (ih _ _)
    | some x => exact det_and (det_and (ih _ _))
section
variable (g : G) (hg : ∀ f ds h, Det (g.fn f ds h))
include hg
theorem sem_det : ∀ e : E, SemDet (sem g e) := by
  intro e
  induction e with
  | v i => exact semDet_of fun env h => det_bnd _
  | gc k => exact semDet_of fun env h => det_bnd _
  | ci n => exact semDet_of fun env h => det_pure _ _
  | cb n => exact semDet_of fun env h => det_pure _ _
  | cn => exact semDet_of fun env h => det_pure _ _
  | cs n => exact semDet_of fun env h => det_pure _ _
  | bin op a b ha hb => exact semDet_of fun env h => det_bind (F := fun x h1 Q X => (sem g b).val env h1 (fun y h2 => bnd (binD op x y h2) Q) X) (ha.v env h) fun x h1 => det_bind (F := fun y h2 Q _ => bnd (binD op x y h2) Q) (hb.v env h1) fun y h2 => det_bnd _
  | cmp op a b ha hb => exact semDet_of fun env h => det_bind (F := fun x h1 Q X => (sem g b).val env h1 (fun y h2 => bndB (cmpD op x y h2) Q h2) X) (ha.v env h) fun x h1 => det_bind (F := fun y h2 Q _ => bndB (cmpD op x y h2) Q h2) (hb.v env h1) fun y h2 => det_bndB _ _
  | chn op op' a b c ha hb hc =>
    refine semDet_of fun env h => det_bind (F := fun x h1 Q X => (sem g b).val env h1 (fun y h2 => bndB (cmpD op x y h2) (asB fun k h3 =>
      if k = true then (sem g c).val env h3 (fun z h4 => bndB (cmpD op' y z h4) Q h4) X else Q (D.bl false) h3) h2) X) (ha.v env h) fun x h1 => det_bind (F := fun y h2 Q X => bndB (cmpD op x y h2) (asB fun k h3 =>
      if k = true then (sem g c).val env h3 (fun z h4 => bndB (cmpD op' y z h4) Q h4) X else Q (D.bl false) h3) h2) (hb.v env h1) fun y h2 => ?_
    cases cmpD op x y h2 with
    | none => exact det_false
    | some k => exact det_ite (det_bind (F := fun z h4 Q _ => bndB (cmpD op' y z h4) Q h4) (hc.v env h2) fun z h4 => det_bndB _ _) (det_pure _ _)
  | and a b ha hb =>
    have hv : ∀ env h, Det (fun Q X => (sem g a).val env h (asB fun k h1 => if k = true then (sem g b).val env h1 Q X else Q (D.bl false) h1) X) := fun env h => by
      refine det_bind (F := fun d h1 Q X => asB (fun k h1 => if k = true then (sem g b).val env h1 Q X else Q (D.bl false) h1) d h1) (ha.v env h) fun d h1 => ?_
      cases d with
      | bl k => exact det_ite (hb.v env h1) (det_pure _ _)
      | _ => exact det_false
    refine { semDet_of hv with t := fun env h => ?_ }
    exact det_bind (F := fun k h1 Q X => if k = true then (sem g b).tst env h1 Q X else Q false h1) (ha.t env h) fun k h1 => det_ite (hb.t env h1) (det_pure _ _)
  | or a b ha hb =>
    have hv : ∀ env h, Det (fun Q X => (sem g a).val env h (asB fun k h1 => if k = true then Q (D.bl true) h1 else (sem g b).val env h1 Q X) X) := fun env h => by
      refine det_bind (F := fun d h1 Q X => asB (fun k h1 => if k = true then Q (D.bl true) h1 else (sem g b).val env h1 Q X) d h1) (ha.v env h) fun d h1 => ?_
      cases d with
      | bl k => exact det_ite (det_pure _ _) (hb.v env h1)
      | _ => exact det_false
    refine { semDet_of hv with t := fun env h => ?_ }
    exact det_bind (F := fun k h1 Q X => if k = true then Q true h1 else (sem g b).tst env h1 Q X) (ha.t env h) fun k h1 => det_ite (det_pure _ _) (hb.t env h1)
  | not a ha =>
    have hv : ∀ env h, Det (fun (Q : KD) X => (sem g a).val env h (asB fun k h1 => Q (D.bl (!k)) h1) X) := fun env h => by
      refine det_bind (F := fun d h1 (Q : KD) X => asB (fun k h1 => Q (D.bl (!k)) h1) d h1) (ha.v env h) fun d h1 => ?_
      cases d with
      | bl k => exact det_pure _ _
      | _ => exact det_false
    refine { semDet_of hv with t := fun env h => ?_ }
    exact det_bind (F := fun k h1 Q X => Q (!k) h1) (ha.t env h) fun k h1 => det_pure _ _
  | neg a ha =>
    refine semDet_of fun env h => det_bind (F := fun (x : D) h1 (Q : KD) X => match x with | .int i => Q (.int (-i)) h1 | _ => False) (ha.v env h) fun x h1 => ?_
    cases x with
    | int i => exact det_pure _ _
    | _ => exact det_false
  | ix a b ha hb => exact semDet_of fun env h => det_bind (F := fun x h1 Q X => (sem g b).val env h1 (fun y h2 => bnd (ixD x y h2) Q) X) (ha.v env h) fun x h1 => det_bind (F := fun y h2 Q _ => bnd (ixD x y h2) Q) (hb.v env h1) fun y h2 => det_bnd _
  | sl a lo hi ha hl hu =>
    exact semDet_of fun env h => det_bind (F := fun x h1 Q X => (sem g lo).prt env h1 (fun l h2 => (sem g hi).prt env h2 (fun u h3 => bnd (slD x l u h3) Q) X) X) (ha.v env h) fun x h1 =>
      det_bind (F := fun l h2 Q X => (sem g hi).prt env h2 (fun u h3 => bnd (slD x l u h3) Q) X) (hl.p env h1) fun l h2 => det_bind (F := fun u h3 Q _ => bnd (slD x l u h3) Q) (hu.p env h2) fun u h3 => det_bnd _
  | sls a lo st ha hl hu =>
    exact semDet_of fun env h => det_bind (F := fun x h1 Q X => (sem g lo).val env h1 (fun l h2 => (sem g st).val env h2 (fun u h3 => bnd (slsD x l u h3) Q) X) X) (ha.v env h) fun x h1 =>
      det_bind (F := fun l h2 Q X => (sem g st).val env h2 (fun u h3 => bnd (slsD x l u h3) Q) X) (hl.v env h1) fun l h2 => det_bind (F := fun u h3 Q _ => bnd (slsD x l u h3) Q) (hu.v env h2) fun u h3 => det_bnd _
  | lst es he => exact semDet_of fun env h => det_bind (F := fun ds h1 Q X => line ds.length = true ∧ Q (D.ref h1.length) (h1 ++ [.lst ds])) (he.a env h) fun ds h1 => det_and (det_pure _ _)
  | tup es he => exact semDet_of fun env h => det_bind (F := fun ds h1 Q X => line ds.length = true ∧ Q (D.tup ds) h1) (he.a env h) fun ds h1 => det_and (det_pure _ _)
  | nil => exact { semDet_of (fun _ _ => det_false) with a := fun env h => det_pure _ _, p := fun env h => det_pure _ _ }
  | cons e es he hes => exact { semDet_of (fun _ _ => det_false) with a := fun env h => det_bind (F := fun d h1 Q X => (sem g es).arg env h1 (fun ds h2 => Q (d :: ds) h2) X) (he.v env h) fun d h1 => det_bind (F := fun ds h2 Q _ => Q (d :: ds) h2) (hes.a env h1) fun ds h2 => det_pure _ _ }
  | call f es he => exact semDet_of fun env h => det_bind (F := fun ds h1 Q X => g.fn f ds h1 Q X) (he.a env h) fun ds h1 => hg f ds h1
  | cald f es he =>
    refine semDet_of fun env h => det_bind (F := fun ds h1 Q X => dflQ (g.dfl f) fun i => g.fn f (ds ++ [.int i]) h1 Q X) (he.a env h) fun ds h1 => ?_
    cases g.dfl f with
    | none => exact det_false
    | some i => exact hg f _ h1
  | blt f es he => exact semDet_of fun env h => det_bind (F := fun ds h1 Q X => bnd (bltD f ds h1) Q) (he.a env h) fun ds h1 => det_bnd _
  | isi a t ha => exact semDet_of fun env h => det_bind (F := fun x h1 Q X => bndB ((tyD h1 x).map fun s => isiD s t) Q h1) (ha.v env h) fun x h1 => det_bndB _ _
  | isk a t ha => exact semDet_of fun env h => det_bind (F := fun x h1 Q X => bndB (iskD t x h1) Q h1) (ha.v env h) fun x h1 => det_bndB _ _
  | isx a cs ha => exact semDet_of fun env h => det_bind (F := fun x h1 Q X => bndB (isxD cs x h1) Q h1) (ha.v env h) fun x h1 => det_bndB _ _
  | fld a f ha => exact semDet_of fun env h => det_bind (F := fun x h1 Q X => bnd (fldD f x h1) Q) (ha.v env h) fun x h1 => det_bnd _
  | un u a ha => exact semDet_of fun env h => det_bind (F := fun x h1 Q X => bnd (unD u x h1) Q) (ha.v env h) fun x h1 => det_bnd _
  | d2 a b c d ha hb hc hd => exact semDet_of fun env h => det_bind (F := fun x h1 Q X => (sem g b).val env h1 (fun y h2 => (sem g c).val env h2 (fun x2 h3 => (sem g d).val env h3 (fun y2 h4 => bnd (d2D h.length x y x2 y2 h4) Q) X) X) X) (ha.v env (h ++ [.dct []])) fun x h1 => det_bind (F := fun y h2 Q X => (sem g c).val env h2 (fun x2 h3 => (sem g d).val env h3 (fun y2 h4 => bnd (d2D h.length x y x2 y2 h4) Q) X) X) (hb.v env h1) fun y h2 => det_bind (F := fun x2 h3 Q X => (sem g d).val env h3 (fun y2 h4 => bnd (d2D h.length x y x2 y2 h4) Q) X) (hc.v env h2) fun x2 h3 => det_bind (F := fun y2 h4 Q _ => bnd (d2D h.length x y x2 y2 h4) Q) (hd.v env h3) fun y2 h4 => det_bnd _
  | dzip l a b ha hb => exact semDet_of fun env h => det_bind (F := fun x h1 Q X => (sem g b).val env h1 (fun y h2 => bnd (pzD l x y h2) Q) X) (ha.v env h) fun x h1 => det_bind (F := fun y h2 Q _ => bnd (pzD l x y h2) Q) (hb.v env h1) fun y h2 => det_bnd _
  | dnew => exact semDet_of fun env h => det_pure _ _
  | d1 a b ha hb => exact semDet_of fun env h => det_bind (F := fun x h1 Q X => (sem g b).val env h1 (fun y h2 => bnd (d1D h.length x y h2) Q) X) (ha.v env (h ++ [.dct []])) fun x h1 => det_bind (F := fun y h2 Q _ => bnd (d1D h.length x y h2) Q) (hb.v env h1) fun y h2 => det_bnd _
  | met o m es ho he => exact semDet_of fun env h => det_bind (F := fun x h1 Q X => metK m x h1 = true ∧ (sem g es).arg env h1 (fun ds h2 => bnd (metD m x ds h2) Q) X) (ho.v env h) fun x h1 => det_and (det_bind (F := fun ds h2 Q _ => bnd (metD m x ds h2) Q) (he.a env h1) fun ds h2 => det_bnd _)
  | nev => exact semDet_of fun _ _ => det_false
  | fs ps => exact semDet_of fun env h => det_bnd _
  | mk c es he =>
    refine semDet_of fun env h => det_bind (F := fun ds h1 Q X => mthQ (g.mth c "__init__") fun f => g.fn f (.ref h1.length :: ds) (h1 ++ [.ins c []]) (fun d h2 => isNon d = true ∧ Q (D.ref h1.length) h2) X) (he.a env h) fun ds h1 => ?_
    cases g.mth c "__init__" with
    | none => exact det_false
    | some f => exact det_bind (F := fun d h2 (Q : KD) _ => isNon d = true ∧ Q (D.ref h1.length) h2) (hg f _ _) fun d h2 => det_and (det_pure _ _)
  | cm o m es ho he =>
    refine semDet_of fun env h => det_bind (F := fun x h1 Q X => mthQ ((clsOf m x h1).bind fun c => g.mth c m) fun f => (sem g es).arg env h1 (fun ds h2 => g.fn f (x :: ds) h2 Q X) X) (ho.v env h) fun x h1 => ?_
    cases (clsOf m x h1).bind fun c => g.mth c m with
    | none => exact det_false
    | some f => exact det_bind (F := fun ds h2 Q X => g.fn f (x :: ds) h2 Q X) (he.a env h1) fun ds h2 => hg f _ _
  | cpr elt tg it cond own h1 h2 h3 =>
    refine semDet_of fun env h => det_bind (F := fun w h1 Q X => walkC w.guard h1.length (fun d h2 K => bndE (tg.put d (wipeD env own)) fun env2 => if isNil cond = true then (sem g elt).val env2 h2 (fun x h3 => K (some x) h3) (fun _ _ => False)
        else (sem g cond).tst env2 h2 (fun b h3 => if b = true then (sem g elt).val env2 h3 (fun x h4 => K (some x) h4) (fun _ _ => False) else K none h3) (fun _ _ => False))
        (fun h2 => Q (D.ref h1.length) h2) w.items [] (h1 ++ [.lst []])) (h2.i env h) fun w hh => ?_
    refine det_bind (F := fun (_ : Unit) h2 Q X => Q (D.ref hh.length) h2) (walkC_det (fun d h => ?_) w.items [] (hh ++ [.lst []])) fun _ h2 => det_pure _ _
    cases tg.put d (wipeD env own) with
    | none => exact det_false
    | some env2 =>
      refine det_ite ?_ ?_
      · exact det_noX (det_bind (F := fun x h3 K _ => K (some x) h3) (h1.v env2 h) fun x h3 => det_pure _ _)
      · refine det_noX (P := fun K X => (sem g cond).tst env2 h (fun b h3 => if b = true then (sem g elt).val env2 h3 (fun x h4 => K (some x) h4) X else K none h3) X) ?_
        exact det_bind (F := fun b h3 K X => if b = true then (sem g elt).val env2 h3 (fun x h4 => K (some x) h4) X else K none h3) (h3.t env2 h) fun b h3 => det_ite (det_bind (F := fun x h4 K _ => K (some x) h4) (h1.v env2 h3) fun x h4 => det_pure _ _) (det_pure _ _)
  | lkd p c hp hc =>
    refine semDet_of fun env h => ?_
    show Det fun Q X => lkQ (lkAt h (pv env h p)) ((sem g c).val env h Q X) fun q => (sem g c).val env (h.set q.1 (.dfr q.2)) (fun d h1 => unlQ q.1 q.2 h1 (Q d)) X
    cases lkAt h (pv env h p) with
    | none => exact hc.v env h
    | some q => exact det_bind (F := fun d h1 (Q : KD) _ => unlQ q.1 q.2 h1 (Q d)) (hc.v env _) fun d h1 => det_and (det_pure d _)
  | idct k a ha => exact { semDet_of (fun _ _ => det_false) with i := fun env h => det_bind (F := fun d h1 Q X => bndWH (iDct k h1 d) Q) (ha.v env h) fun d h1 => det_bndWH _ }
  | irange a ha => exact { semDet_of (fun _ _ => det_false) with i := fun env h => det_bind (F := fun d h1 Q X => bndW (iRange d) Q h1) (ha.v env h) fun d h1 => det_bndW _ _ }
  | irange3 a b c ha hb hc => exact { semDet_of (fun _ _ => det_false) with i := fun env h => det_bind (F := fun x h1 Q X => (sem g b).val env h1 (fun y h2 => (sem g c).val env h2 (fun z h3 => bndW (iRange3 x y z) Q h3) X) X) (ha.v env h) fun x h1 => det_bind (F := fun y h2 Q X => (sem g c).val env h2 (fun z h3 => bndW (iRange3 x y z) Q h3) X) (hb.v env h1) fun y h2 => det_bind (F := fun z h3 Q X => bndW (iRange3 x y z) Q h3) (hc.v env h2) fun z h3 => det_bndW _ _ }
  | irange2 a b ha hb => exact { semDet_of (fun _ _ => det_false) with i := fun env h => det_bind (F := fun x h1 Q X => (sem g b).val env h1 (fun y h2 => bndW (iRange2 x y) Q h2) X) (ha.v env h) fun x h1 => det_bind (F := fun y h2 Q X => bndW (iRange2 x y) Q h2) (hb.v env h1) fun y h2 => det_bndW _ _ }
  | ienum a ha => exact { semDet_of (fun _ _ => det_false) with i := fun env h => det_bind (F := fun d h1 Q X => bndW (iEnum h1 d) Q h1) (ha.v env h) fun d h1 => det_bndW _ _ }
  | izip a b ha hb => exact { semDet_of (fun _ _ => det_false) with i := fun env h => det_bind (F := fun x h1 Q X => (sem g b).val env h1 (fun y h2 => bndW (iZip h2 x y) Q h2) X) (ha.v env h) fun x h1 => det_bind (F := fun y h2 Q X => bndW (iZip h2 x y) Q h2) (hb.v env h1) fun y h2 => det_bndW _ _ }
  | irev a ha => exact { semDet_of (fun _ _ => det_false) with i := fun env h => det_bind (F := fun d h1 Q X => bndW (iRev h1 d) Q h1) (ha.v env h) fun d h1 => det_bndW _ _ }
  | irevr a ha => exact { semDet_of (fun _ _ => det_false) with i := fun env h => det_bind (F := fun d h1 Q X => bndW (iRevR d) Q h1) (ha.v env h) fun d h1 => det_bndW _ _ }
end

/-! ### statements -/
noncomputable def DetS (P : Ends → Prop) : Prop := (∀ D, ¬ P D) ∨ (∃ env h, ∀ D, P D ↔ D.nx env h) ∨ (∃ d h, ∀ D, P D ↔ D.rt d h) ∨ (∃ env h, ∀ D, P D ↔ D.bk env h) ∨ (∃ x env h, ∀ D, P D ↔ D.ex x env h)
theorem dets_false : DetS fun _ => False := .inl fun _ z => z
theorem dets_nx (env : Env) (h : Hh) : DetS fun D => D.nx env h := .inr (.inl ⟨env, h, fun _ => Iff.rfl⟩)
theorem dets_rt (d : D) (h : Hh) : DetS fun D => D.rt d h := .inr (.inr (.inl ⟨d, h, fun _ => Iff.rfl⟩))
theorem dets_bk (env : Env) (h : Hh) : DetS fun D => D.bk env h := .inr (.inr (.inr (.inl ⟨env, h, fun _ => Iff.rfl⟩)))
theorem dets_bindE {α : Type} {P : (α → Hh → Prop) → KX → Prop} {F : α → Hh → Ends → Prop} {env : Env} (p : Det P) (f : ∀ a h, DetS (F a h)) : DetS fun D => P (fun a h => F a h D) (fun x h => D.ex x env h) := by
  rcases p with p | ⟨d, h, p⟩ | ⟨x, h, p⟩
  · exact .inl fun D => p _ _
  · rcases f d h with q | ⟨a, b, q⟩ | ⟨a, b, q⟩ | ⟨a, b, q⟩ | ⟨a, b, c, q⟩
    · exact .inl fun D z => q D ((p _ _).mp z)
    · exact .inr (.inl ⟨a, b, fun D => (p _ _).trans (q D)⟩)
    · exact .inr (.inr (.inl ⟨a, b, fun D => (p _ _).trans (q D)⟩))
    · exact .inr (.inr (.inr (.inl ⟨a, b, fun D => (p _ _).trans (q D)⟩)))
    · exact .inr (.inr (.inr (.inr ⟨a, b, c, fun D => (p _ _).trans (q D)⟩)))
  · exact .inr (.inr (.inr (.inr ⟨x, env, h, fun D => p _ _⟩)))
theorem dets_and {c : Prop} {P : Ends → Prop} (p : DetS P) : DetS fun D => c ∧ P D := by
  by_cases hg : c
  · simpa [hg] using p
  · exact .inl fun Q z => hg z.1
theorem dets_ite {c : Bool} {P R : Ends → Prop} (p : DetS P) (r : DetS R) : DetS (fun D => if c = true then P D else R D) := by
  cases c
  · simpa using r
  · simpa using p
/-- the way on is another one -/
theorem dets_seq {P : Ends → Prop} {F : Env → Hh → Ends → Prop} (p : DetS P) (f : ∀ env h, DetS (F env h)) : DetS fun D => P { D with nx := fun env h => F env h D } := by
  rcases p with p | ⟨d, h, p⟩ | ⟨d, h, p⟩ | ⟨d, h, p⟩ | ⟨x, env, h, p⟩
  · exact .inl fun D => p _
  · rcases f d h with q | ⟨a, b, q⟩ | ⟨a, b, q⟩ | ⟨a, b, q⟩ | ⟨a, b, c, q⟩
    · exact .inl fun D z => q D ((p _).mp z)
    · exact .inr (.inl ⟨a, b, fun D => (p _).trans (q D)⟩)
    · exact .inr (.inr (.inl ⟨a, b, fun D => (p _).trans (q D)⟩))
    · exact .inr (.inr (.inr (.inl ⟨a, b, fun D => (p _).trans (q D)⟩)))
    · exact .inr (.inr (.inr (.inr ⟨a, b, c, fun D => (p _).trans (q D)⟩)))
  · exact .inr (.inr (.inl ⟨d, h, fun D => p _⟩))
  · exact .inr (.inr (.inr (.inl ⟨d, h, fun D => p _⟩)))
  · exact .inr (.inr (.inr (.inr ⟨x, env, h, fun D => p _⟩)))
/-- in a loop: what breaks goes on behind it -/
theorem dets_loop {P : Ends → Prop} {F : Env → Hh → Ends → Prop} (p : DetS P) (f : ∀ env h, DetS (F env h)) : DetS fun D => P { nx := fun env h => F env h D, rt := D.rt, bk := D.nx, ex := D.ex } := by
  rcases p with p | ⟨d, h, p⟩ | ⟨d, h, p⟩ | ⟨d, h, p⟩ | ⟨x, env, h, p⟩
  · exact .inl fun D => p _
  · rcases f d h with q | ⟨a, b, q⟩ | ⟨a, b, q⟩ | ⟨a, b, q⟩ | ⟨a, b, c, q⟩
    · exact .inl fun D z => q D ((p _).mp z)
    · exact .inr (.inl ⟨a, b, fun D => (p _).trans (q D)⟩)
    · exact .inr (.inr (.inl ⟨a, b, fun D => (p _).trans (q D)⟩))
    · exact .inr (.inr (.inr (.inl ⟨a, b, fun D => (p _).trans (q D)⟩)))
    · exact .inr (.inr (.inr (.inr ⟨a, b, c, fun D => (p _).trans (q D)⟩)))
  · exact .inr (.inr (.inl ⟨d, h, fun D => p _⟩))
  · exact .inr (.inl ⟨d, h, fun D => p _⟩)
  · exact .inr (.inr (.inr (.inr ⟨x, env, h, fun D => p _⟩)))
theorem dets_xn (x : Xn) (env : Env) (h : Hh) : DetS fun D => D.ex x env h := .inr (.inr (.inr (.inr ⟨x, env, h, fun _ => Iff.rfl⟩)))
theorem dets_unl {P : Ends → Prop} {n : Nat} {kvs : List (DKey × D)} (p : DetS P) : DetS fun D => P (enU n kvs D) := by
  rcases p with p | ⟨d, h, p⟩ | ⟨d, h, p⟩ | ⟨d, h, p⟩ | ⟨x, env, h, p⟩
  · exact .inl fun D => p _
  · have : (fun D => P (enU n kvs D)) = fun D : Ends => h[n]? = some (.dfr kvs) ∧ D.nx d (h.set n (.dct kvs)) := funext fun D => propext (p _)
    rw [this]; exact dets_and (dets_nx _ _)
  · have : (fun D => P (enU n kvs D)) = fun D : Ends => h[n]? = some (.dfr kvs) ∧ D.rt d (h.set n (.dct kvs)) := funext fun D => propext (p _)
    rw [this]; exact dets_and (dets_rt _ _)
  · have : (fun D => P (enU n kvs D)) = fun D : Ends => h[n]? = some (.dfr kvs) ∧ D.bk d (h.set n (.dct kvs)) := funext fun D => propext (p _)
    rw [this]; exact dets_and (dets_bk _ _)
  · exact .inr (.inr (.inr (.inr ⟨x, env, h, fun D => p _⟩)))
theorem dets_iff {P R : Ends → Prop} (p : DetS P) (e : ∀ D, P D ↔ R D) : DetS R := by
  have : P = R := funext fun D => propext (e D)
  rwa [← this]
theorem dets_try {P : Ends → Prop} {F : Env → Hh → Ends → Prop} {Gx : Xn → Env → Hh → Ends → Prop} (p : DetS P) (f : ∀ env h, DetS (F env h)) (g : ∀ x env h, DetS (Gx x env h)) :
    DetS fun D => P { D with nx := fun env h => F env h D, ex := fun x env h => Gx x env h D } := by
  rcases p with p | ⟨d, h, p⟩ | ⟨d, h, p⟩ | ⟨d, h, p⟩ | ⟨x, env, h, p⟩
  · exact .inl fun D => p _
  · exact dets_iff (f d h) fun D => (p ⟨fun env h => F env h D, D.rt, D.bk, fun x env h => Gx x env h D⟩).symm
  · exact .inr (.inr (.inl ⟨d, h, fun D => p _⟩))
  · exact .inr (.inr (.inr (.inl ⟨d, h, fun D => p _⟩)))
  · exact dets_iff (g x env h) fun D => (p ⟨fun env h => F env h D, D.rt, D.bk, fun x env h => Gx x env h D⟩).symm
theorem dets_two {α : Type} {P : (α → Hh → Prop) → KX → Prop} {F : α → Hh → Ends → Prop} {Gx : Xn → Hh → Ends → Prop} (p : Det P) (f : ∀ a h, DetS (F a h)) (gx : ∀ x h, DetS (Gx x h)) : DetS fun D => P (fun a h => F a h D) (fun x h => Gx x h D) := by
  rcases p with p | ⟨d, h, p⟩ | ⟨x, h, p⟩
  · exact .inl fun D => p _ _
  · exact dets_iff (f d h) fun D => (p (fun a h => F a h D) (fun x h => Gx x h D)).symm
  · exact dets_iff (gx x h) fun D => (p (fun a h => F a h D) (fun x h => Gx x h D)).symm
theorem suS_det (su : Su) (env : Env) (h : Hh) : DetS fun D => suS su D env h := by
  cases su with
  | nev => exact dets_false
  | ret e =>
    show DetS fun D => bnd ((constD e).map (·, h)) D.rt
    cases constD e with
    | none => exact dets_false
    | some d => exact dets_rt d h
  | set i e =>
    show DetS fun D => bnd ((constD e).map (·, h)) fun d h => D.nx (env.set i (some d)) h
    cases constD e with
    | none => exact dets_false
    | some d => exact dets_nx _ h
theorem hkS_det (hk : Hk) (i : Nat) (x : Xn) (env : Env) (h : Hh) : DetS fun D => hkS hk i x D env h := by
  cases hk with
  | never => exact dets_false
  | keep k => exact dets_nx _ _
  | retf fs =>
    show DetS fun D => bnd ((fs.mapM fun f => x.2.lookup f).map fun ds => (Z.D.tup ds, h)) D.rt
    cases fs.mapM fun f => x.2.lookup f with
    | none => exact dets_false
    | some d => exact dets_rt _ h
  | setf k f =>
    show DetS fun D => bnd ((x.2.lookup f).map (·, h)) fun d h => D.nx ((env.set k (some d)).set i none) h
    cases x.2.lookup f with
    | none => exact dets_false
    | some d => exact dets_nx _ h
theorem dets_bndE {F : Env → Ends → Prop} (r : Option Env) (f : ∀ env, DetS (F env)) : DetS fun D => bndE r fun env => F env D := by
  cases r with
  | none => exact dets_false
  | some env => exact f env
theorem dets_bndH {F : Hh → Ends → Prop} (r : Option Hh) (f : ∀ h, DetS (F h)) : DetS fun D => bndH r fun h => F h D := by
  cases r with
  | none => exact dets_false
  | some env => exact f env
theorem dets_mono {P : Ends → Prop} (p : DetS P) {D E : Ends} (nx : ∀ env h, D.nx env h → E.nx env h) (rt : ∀ d h, D.rt d h → E.rt d h) (bk : ∀ env h, D.bk env h → E.bk env h) (ex : ∀ x env h, D.ex x env h → E.ex x env h) (q : P D) : P E := by
  rcases p with p | ⟨d, h, p⟩ | ⟨d, h, p⟩ | ⟨d, h, p⟩ | ⟨x, env, h, p⟩
  · exact absurd q (p D)
  · exact (p E).mpr (nx _ _ ((p D).mp q))
  · exact (p E).mpr (rt _ _ ((p D).mp q))
  · exact (p E).mpr (bk _ _ ((p D).mp q))
  · exact (p E).mpr (ex _ _ _ ((p D).mp q))
/-- of a rising row of runs -/
theorem dets_ex {P : Nat → Ends → Prop} (p : ∀ n, DetS (P n)) (up : ∀ n D, P n D → P (n + 1) D) : DetS fun D => ∃ n, P n D := by
  have ups : ∀ k n D, P n D → P (n + k) D := by
    intro k
    induction k with
    | zero => exact fun n D z => z
    | succ k ih => exact fun n D z => up _ _ (ih n D z)
  by_cases h : ∃ n D, P n D
  · obtain ⟨n, D0, h0⟩ := h
    have key : ∀ D, (∃ m, P m D) ↔ P n D := by
      intro D
      refine ⟨fun ⟨m, hm⟩ => ?_, fun z => ⟨n, z⟩⟩
      have h1 : P (n + m) D := by rw [Nat.add_comm]; exact ups n m D hm
      -- both have an end at n + m
      have fwd : ∀ E, P n E → P (n + m) E := fun E => ups m n E
      rcases p n with q | ⟨a, b, q⟩ | ⟨a, b, q⟩ | ⟨a, b, q⟩ | ⟨x, a, b, q⟩
      · exact absurd h0 (q D0)
      · have z := fwd ⟨fun u v => u = a ∧ v = b, fun _ _ => False, fun _ _ => False, fun _ _ _ => False⟩ ((q _).mpr ⟨rfl, rfl⟩)
        rcases p (n + m) with r | ⟨c, d, r⟩ | ⟨c, d, r⟩ | ⟨c, d, r⟩ | ⟨y, c, d, r⟩
        · exact absurd h1 (r D)
        · obtain ⟨rfl, rfl⟩ := (r _).mp z; exact (q D).mpr ((r D).mp h1)
        · exact ((r _).mp z).elim
        · exact ((r _).mp z).elim
        · exact ((r _).mp z).elim
      · have z := fwd ⟨fun _ _ => False, fun u v => u = a ∧ v = b, fun _ _ => False, fun _ _ _ => False⟩ ((q _).mpr ⟨rfl, rfl⟩)
        rcases p (n + m) with r | ⟨c, d, r⟩ | ⟨c, d, r⟩ | ⟨c, d, r⟩ | ⟨y, c, d, r⟩
        · exact absurd h1 (r D)
        · exact ((r _).mp z).elim
        · obtain ⟨rfl, rfl⟩ := (r _).mp z; exact (q D).mpr ((r D).mp h1)
        · exact ((r _).mp z).elim
        · exact ((r _).mp z).elim
      · have z := fwd ⟨fun _ _ => False, fun _ _ => False, fun u v => u = a ∧ v = b, fun _ _ _ => False⟩ ((q _).mpr ⟨rfl, rfl⟩)
        rcases p (n + m) with r | ⟨c, d, r⟩ | ⟨c, d, r⟩ | ⟨c, d, r⟩ | ⟨y, c, d, r⟩
        · exact absurd h1 (r D)
        · exact ((r _).mp z).elim
        · exact ((r _).mp z).elim
        · obtain ⟨rfl, rfl⟩ := (r _).mp z; exact (q D).mpr ((r D).mp h1)
        · exact ((r _).mp z).elim
      · have z := fwd ⟨fun _ _ => False, fun _ _ => False, fun _ _ => False, fun t u v => t = x ∧ u = a ∧ v = b⟩ ((q _).mpr ⟨rfl, rfl, rfl⟩)
        rcases p (n + m) with r | ⟨c, d, r⟩ | ⟨c, d, r⟩ | ⟨c, d, r⟩ | ⟨y, c, d, r⟩
        · exact absurd h1 (r D)
        · exact ((r _).mp z).elim
        · exact ((r _).mp z).elim
        · exact ((r _).mp z).elim
        · obtain ⟨rfl, rfl, rfl⟩ := (r _).mp z; exact (q D).mpr ((r D).mp h1)
    have : (fun D => ∃ m, P m D) = P n := funext fun D => propext (key D)
    rw [this]
    exact p n
  · exact .inl fun D ⟨n, z⟩ => h ⟨n, D, z⟩
section
variable (g : G) (hg : ∀ f ds h, Det (g.fn f ds h))
include hg
theorem wpS_det : ∀ (s : S) (env : Env) (h : Hh), DetS fun D => wpS g s D env h := by
  intro s
  induction s with
  | nop => exact fun env h => dets_nx env h
  | nev => exact fun env h => dets_false
  | setf o f e =>
    exact fun env h => dets_bindE (F := fun v h1 D => (sem g o).val env h1 (fun x h2 => bndH (setfD f v x h2) fun h3 => D.nx env h3) (fun x h1 => D.ex x env h1)) ((sem_det g hg e).v env h) fun v h1 =>
      dets_bindE (F := fun x h2 D => bndH (setfD f v x h2) fun h3 => D.nx env h3) ((sem_det g hg o).v env h1) fun x h2 => dets_bndH _ fun h3 => dets_nx env h3
  | lkd p s hs =>
    intro env h
    show DetS fun D => lkQ (lkAt h (pv env h p)) (wpS g s D env h) fun q => wpS g s (enU q.1 q.2 D) env (h.set q.1 (.dfr q.2))
    cases lkAt h (pv env h p) with
    | none => exact hs env h
    | some q => exact dets_unl (hs env _)
  | done => exact fun env h => dets_nx env h
  | brk => exact fun env h => dets_bk env h
  | rai c => exact fun env h => dets_xn _ env h
  | trc k f es c i c2 fs as =>
    intro env h
    refine dets_two (F := fun ds h1 D => g.fn f ds h1 (fun d h2 => D.nx (env.set k (some d)) h2) (fun x h2 => if excSub x.1 c = true then raQ x env fs as fun ds => D.ex (c2, (fs.zip ds).reverse) (List.replicate env.length none) h2 else D.ex x env h2)) (Gx := fun _ _ _ => False)
      ((sem_det g hg es).a env h) (fun ds h1 => ?_) fun _ _ => dets_false
    refine dets_two (F := fun d h2 D => D.nx (env.set k (some d)) h2) (Gx := fun x h2 D => if excSub x.1 c = true then raQ x env fs as fun ds => D.ex (c2, (fs.zip ds).reverse) (List.replicate env.length none) h2 else D.ex x env h2)
      (hg f ds h1) (fun d h2 => dets_nx _ h2) fun x h2 => dets_ite ?_ (dets_xn x env h2)
    unfold raQ
    cases as.mapM (raD x env) with
    | none => exact dets_false
    | some ds => exact dets_and (dets_xn _ _ h2)
  | raix c fs es => exact fun env h => dets_bindE (F := fun (ds : List Z.D) h1 D => ds.length = fs.length ∧ D.ex (c, (fs.zip ds).reverse) env h1) ((sem_det g hg es).a env h) fun ds h1 => dets_and (dets_xn _ env h1)
  | tryn body c i hk hb => exact fun env h => dets_try (F := fun env h D => D.nx env h) (Gx := fun x env h D => if excSub x.1 c = true then hkS hk i x D env h else D.ex x env h) (hb env h) (fun env h => dets_nx env h) fun x env h => dets_ite (hkS_det hk i x env h) (dets_xn x env h)
  | tryy body c su c2 su2 hb => exact fun env h => dets_try (F := fun env h D => D.nx env h) (Gx := fun x env h D => if excSub x.1 c = true then suS su D env h else if excSub x.1 c2 = true then suS su2 D env h else D.ex x env h) (hb env h) (fun env h => dets_nx env h) fun x env h => dets_ite (suS_det su env h) (dets_ite (suS_det su2 env h) (dets_xn x env h))
  | tryx body c su els hb he => exact fun env h => dets_try (F := fun env h D => wpS g els D env h) (Gx := fun x env h D => if excSub x.1 c = true then suS su D env h else D.ex x env h) (hb env h) he fun x env h => dets_ite (suS_det su env h) (dets_xn x env h)
  | asgl is e => exact fun env h => dets_bindE (F := fun d h1 D => bndE ((seqOf h1 d).bind fun ds => setAll is ds env) fun env1 => D.nx env1 h1) ((sem_det g hg e).v env h) fun d h1 => dets_bndE _ fun env1 => dets_nx env1 h1
  | asg tg e => exact fun env h => dets_bindE (F := fun d h1 D => bndE (tg.put d env) fun env1 => D.nx env1 h1) ((sem_det g hg e).v env h) fun d h1 => dets_bndE _ fun env1 => dets_nx env1 h1
  | setix o i e =>
    exact fun env h => dets_bindE (F := fun v h1 D => (sem g o).val env h1 (fun x h2 => (sem g i).val env h2 (fun y h3 => bndH (setD x y v h3) fun h4 => D.nx env h4)
      (fun x h1 => D.ex x env h1)) (fun x h1 => D.ex x env h1)) ((sem_det g hg e).v env h) fun v h1 =>
      dets_bindE (F := fun x h2 D => (sem g i).val env h2 (fun y h3 => bndH (setD x y v h3) fun h4 => D.nx env h4) (fun x h1 => D.ex x env h1)) ((sem_det g hg o).v env h1) fun x h2 =>
      dets_bindE (F := fun y h3 D => bndH (setD x y v h3) fun h4 => D.nx env h4) ((sem_det g hg i).v env h2) fun y h3 => dets_bndH _ fun h4 => dets_nx env h4
  | exp e => exact fun env h => dets_bindE (F := fun _ h1 D => D.nx env h1) ((sem_det g hg e).v env h) fun d h1 => dets_nx env h1
  | ret e => exact fun env h => dets_bindE (F := fun d h1 D => D.rt d h1) ((sem_det g hg e).v env h) fun d h1 => dets_rt d h1
  | ite c a b ha hb => exact fun env h => dets_bindE (F := fun k h1 D => if k = true then wpS g a D env h1 else wpS g b D env h1) ((sem_det g hg c).t env h) fun k h1 => dets_ite (ha env h1) (hb env h1)
  | «for» tg it body hb =>
    intro env h
    refine dets_bindE (F := fun w h1 D => walk w.guard (fun d env h K => bndE (tg.put d env) fun env1 => wpS g body { nx := K, rt := D.rt, bk := D.nx, ex := D.ex } env1 h) D.nx w.items env h1) ((sem_det g hg it).i env h) fun w h1 => ?_
    have aux : ∀ (ds : List D) (env : Env) (h : Hh), DetS fun D => walk w.guard (fun d env h K => bndE (tg.put d env) fun env1 => wpS g body { nx := K, rt := D.rt, bk := D.nx, ex := D.ex } env1 h) D.nx ds env h := by
      intro ds
      induction ds with
      | nil => exact fun env h => dets_and (dets_nx env h)
      | cons d ds ih => exact fun env h => dets_and (dets_bndE _ fun env1 => dets_loop (F := fun env h D => walk w.guard (fun d env h K => bndE (tg.put d env) fun env1 => wpS g body { nx := K, rt := D.rt, bk := D.nx, ex := D.ex } env1 h) D.nx ds env h) (hb env1 h) ih)
    exact aux w.items env h1
  | whl c body hb =>
    intro env h
    have aux : ∀ n (env : Env) (h : Hh), DetS fun D => whileN (fun env h Q => (sem g c).tst env h Q (fun x h1 => D.ex x env h1)) (fun K env h => wpS g body { nx := K, rt := D.rt, bk := D.nx, ex := D.ex } env h) D.nx n env h := by
      intro n
      induction n with
      | zero => exact fun env h => dets_false
      | succ n ih =>
        exact fun env h => dets_bindE (F := fun k h1 D => if k = true then wpS g body { nx := whileN (fun env h Q => (sem g c).tst env h Q (fun x h1 => D.ex x env h1)) (fun K env h => wpS g body { nx := K, rt := D.rt, bk := D.nx, ex := D.ex } env h) D.nx n, rt := D.rt, bk := D.nx, ex := D.ex } env h1 else D.nx env h1)
          ((sem_det g hg c).t env h) fun k h1 => dets_ite (dets_loop (F := fun env h D => whileN (fun env h Q => (sem g c).tst env h Q (fun x h1 => D.ex x env h1)) (fun K env h => wpS g body { nx := K, rt := D.rt, bk := D.nx, ex := D.ex } env h) D.nx n env h) (hb env h1) ih) (dets_nx env h1)
    refine dets_ex (fun n => aux n env h) fun n D => ?_
    have up : ∀ n (env : Env) (h : Hh) (D : Ends), whileN (fun env h Q => (sem g c).tst env h Q (fun x h1 => D.ex x env h1)) (fun K env h => wpS g body { nx := K, rt := D.rt, bk := D.nx, ex := D.ex } env h) D.nx n env h →
        whileN (fun env h Q => (sem g c).tst env h Q (fun x h1 => D.ex x env h1)) (fun K env h => wpS g body { nx := K, rt := D.rt, bk := D.nx, ex := D.ex } env h) D.nx (n + 1) env h := by
      intro n
      induction n with
      | zero => exact fun env h D z => z.elim
      | succ n ih =>
        intro env h D z
        have z : (sem g c).tst env h (fun k h1 => if k = true then wpS g body { nx := whileN (fun env h Q => (sem g c).tst env h Q (fun x h1 => D.ex x env h1)) (fun K env h => wpS g body { nx := K, rt := D.rt, bk := D.nx, ex := D.ex } env h) D.nx n, rt := D.rt, bk := D.nx, ex := D.ex } env h1 else D.nx env h1) (fun x h1 => D.ex x env h1) := z
        show (sem g c).tst env h (fun k h1 => if k = true then wpS g body { nx := whileN (fun env h Q => (sem g c).tst env h Q (fun x h1 => D.ex x env h1)) (fun K env h => wpS g body { nx := K, rt := D.rt, bk := D.nx, ex := D.ex } env h) D.nx (n + 1), rt := D.rt, bk := D.nx, ex := D.ex } env h1 else D.nx env h1) (fun x h1 => D.ex x env h1)
        have m : ∀ {P : (Bool → Hh → Prop) → KX → Prop}, Det P → ∀ {Q R : Bool → Hh → Prop} {X : KX}, (∀ k h, Q k h → R k h) → P Q X → P R X := by
          intro P p Q R X i q
          rcases p with p | ⟨d, h, p⟩ | ⟨x, h, p⟩
          · exact absurd q (p _ _)
          · exact (p _ _).mpr (i _ _ ((p _ _).mp q))
          · exact (p _ _).mpr ((p _ _).mp q)
        refine m ((sem_det g hg c).t env h) (fun k h1 q => ?_) z
        cases k with
        | false => exact q
        | true => exact dets_mono (hb env h1) (D := ⟨_, _, _, _⟩) (E := ⟨_, _, _, _⟩) (fun env h q => ih env h D q) (fun _ _ q => q) (fun _ _ q => q) (fun _ _ _ q => q) q
    exact up n env h D
  | seq a b ha hb => exact fun env h => dets_seq (F := fun env h D => wpS g b D env h) (ha env h) hb
end
theorem run_det (p : Pg) : ∀ (n f : Nat) (ds : List D) (h : Hh), Det (p.run n f ds h) := by
  intro n
  induction n with
  | zero => exact fun f ds h => det_false
  | succ n ih =>
    intro f ds h
    show Det fun Q X => (match p.fns[f]? with
      | some fd => ds.length = fd.np ∧ wpS (p.g (p.run n)) fd.body { nx := fun _ h1 => gcQ h Q .non h1, rt := gcQ h Q, bk := fun _ _ => False, ex := fun x _ h1 => gcX h X x h1 } (startD fd.nn ds) h
      | none => False)
    cases p.fns[f]? with
    | none => exact det_false
    | some fd =>
      refine det_and ?_
      rcases wpS_det (p.g (p.run n)) ih fd.body (startD fd.nn ds) h with q | ⟨a, b, q⟩ | ⟨a, b, q⟩ | ⟨a, b, q⟩ | ⟨x, a, b, q⟩
      · exact .inl fun Q X => q _
      · exact .inr (.inl ⟨_, _, fun Q X => q _⟩)
      · exact .inr (.inl ⟨_, _, fun Q X => q _⟩)
      · exact .inl fun Q X z => (q _).mp z
      · by_cases hc : h <+: b ∧ belk h.length x.2 = true
        · exact .inr (.inr ⟨x, h, fun Q X => (q _).trans (by show gcX h X x b ↔ _; unfold gcX; rw [if_pos hc])⟩)
        · exact .inr (.inr ⟨x, b, fun Q X => (q _).trans (by show gcX h X x b ↔ _; unfold gcX; rw [if_neg hc])⟩)
/-- what a run gives once it gives always -/
theorem run_eq {p : Pg} {n f : Nat} {ds : List D} {h h2 : Hh} {r : D} (w : p.run n f ds h (fun d h' => d = r ∧ h' = h2) (fun _ _ => False)) {Q : KD} {X : KX} : p.run n f ds h Q X = Q r h2 := by
  rcases run_det p n f ds h with q | ⟨a, b, q⟩ | ⟨x, b, q⟩
  · exact absurd w (q _ _)
  · obtain ⟨rfl, rfl⟩ := (q _ _).mp w
    exact propext (q Q X)
  · exact ((q _ _).mp w).elim
end Z

set_option Elab.async false
set_option linter.all false
set_option maxRecDepth 100000
/-! Z, part R: words for proofs about the plain program. What goes on behind a piece is named, so that a rewriting looks at the head alone. -/
namespace Z
open PySem PySem.Spec PyProof.Rows
section
variable {g : G} {env : Env} {h : Hh} {Q : KD} {X : KX} {B : Bool → Hh → Prop} {A : List D → Hh → Prop} {W : KW} {O : Option Int → Hh → Prop}
theorem vget_0 {x : Option D} : vget (x :: env) 0 = x := by cases x <;> rfl
theorem vget_s {x : Option D} {n : Nat} : vget (x :: env) (n + 1) = vget env n := id rfl
noncomputable def kB1 (g : G) (op : Operator) (b : E) (env : Env) (Q : KD) (X : KX) : KD := fun x h1 => (sem g b).val env h1 (fun y h2 => bnd (binD op x y h2) Q) X
noncomputable def kB2 (op : Operator) (x : D) (Q : KD) : KD := fun y h2 => bnd (binD op x y h2) Q
noncomputable def kC1 (g : G) (op : CmpOp) (b : E) (env : Env) (Q : KD) (X : KX) : KD := fun x h1 => (sem g b).val env h1 (fun y h2 => bndB (cmpD op x y h2) Q h2) X
noncomputable def kC2 (op : CmpOp) (x : D) (Q : KD) : KD := fun y h2 => bndB (cmpD op x y h2) Q h2
noncomputable def kAsB (B : Bool → Hh → Prop) : KD := asB B
noncomputable def kAsP (O : Option Int → Hh → Prop) : KD := asPart O
noncomputable def kN1 (g : G) (op op' : CmpOp) (b c : E) (env : Env) (Q : KD) (X : KX) : KD := fun x h1 => (sem g b).val env h1 (fun y h2 => bndB (cmpD op x y h2) (asB fun k h3 =>
      if k = true then (sem g c).val env h3 (fun z h4 => bndB (cmpD op' y z h4) Q h4) X else Q (.bl false) h3) h2) X
noncomputable def kN2 (g : G) (op op' : CmpOp) (x : D) (c : E) (env : Env) (Q : KD) (X : KX) : KD := fun y h2 => bndB (cmpD op x y h2) (asB fun k h3 =>
      if k = true then (sem g c).val env h3 (fun z h4 => bndB (cmpD op' y z h4) Q h4) X else Q (.bl false) h3) h2
noncomputable def kN3 (g : G) (op' : CmpOp) (y : D) (c : E) (env : Env) (Q : KD) (X : KX) : Bool → Hh → Prop := fun k h3 => if k = true then (sem g c).val env h3 (fun z h4 => bndB (cmpD op' y z h4) Q h4) X else Q (.bl false) h3
noncomputable def kAnd (g : G) (b : E) (env : Env) (Q : KD) (X : KX) : Bool → Hh → Prop := fun k h1 => if k = true then (sem g b).val env h1 Q X else Q (.bl false) h1
noncomputable def kOrt (g : G) (b : E) (env : Env) (B : Bool → Hh → Prop) (X : KX) : Bool → Hh → Prop := fun k h1 => if k = true then B true h1 else (sem g b).tst env h1 B X
noncomputable def kNot (Q : KD) : Bool → Hh → Prop := fun k h1 => Q (.bl (!k)) h1
noncomputable def kNott (B : Bool → Hh → Prop) : Bool → Hh → Prop := fun k h1 => B (!k) h1
noncomputable def kNeg (Q : KD) : KD := fun x h1 => match x with | .int i => Q (.int (-i)) h1 | _ => False
noncomputable def kI1 (g : G) (b : E) (env : Env) (Q : KD) (X : KX) : KD := fun x h1 => (sem g b).val env h1 (fun y h2 => bnd (ixD x y h2) Q) X
noncomputable def kI2 (x : D) (Q : KD) : KD := fun y h2 => bnd (ixD x y h2) Q
noncomputable def kS1 (g : G) (lo hi : E) (env : Env) (Q : KD) (X : KX) : KD := fun x h1 => (sem g lo).prt env h1 (fun l h2 => (sem g hi).prt env h2 (fun u h3 => bnd (slD x l u h3) Q) X) X
noncomputable def kS2 (g : G) (hi : E) (env : Env) (x : D) (Q : KD) (X : KX) : Option Int → Hh → Prop := fun l h2 => (sem g hi).prt env h2 (fun u h3 => bnd (slD x l u h3) Q) X
noncomputable def kS3 (x : D) (l : Option Int) (Q : KD) : Option Int → Hh → Prop := fun u h3 => bnd (slD x l u h3) Q
noncomputable def kLst (Q : KD) : List D → Hh → Prop := fun ds h1 => line ds.length = true ∧ Q (.ref h1.length) (h1 ++ [.lst ds])
noncomputable def kTup (Q : KD) : List D → Hh → Prop := fun ds h1 => line ds.length = true ∧ Q (.tup ds) h1
noncomputable def kCons (g : G) (es : E) (env : Env) (A : List D → Hh → Prop) (X : KX) : KD := fun d h1 => (sem g es).arg env h1 (fun ds h2 => A (d :: ds) h2) X
noncomputable def kCon2 (d : D) (A : List D → Hh → Prop) : List D → Hh → Prop := fun ds h2 => A (d :: ds) h2
noncomputable def kCall (g : G) (f : Nat) (Q : KD) (X : KX) : List D → Hh → Prop := fun ds h1 => g.fn f ds h1 Q X
noncomputable def kBlt (f : Z.B) (Q : KD) : List D → Hh → Prop := fun ds h1 => bnd (bltD f ds h1) Q
noncomputable def kIsi (t : Ty) (Q : KD) : KD := fun x h1 => bndB ((tyD h1 x).map fun s => isiD s t) Q h1
noncomputable def isiO (t : Ty) (o : Option String) : Option Bool := o.map fun s => isiD s t
noncomputable def kMet (g : G) (m : M) (es : E) (env : Env) (Q : KD) (X : KX) : KD := fun x h1 => metK m x h1 = true ∧ (sem g es).arg env h1 (fun ds h2 => bnd (metD m x ds h2) Q) X
noncomputable def kMe2 (m : M) (x : D) (Q : KD) : List D → Hh → Prop := fun ds h2 => bnd (metD m x ds h2) Q
noncomputable def kRng (W : KW) : KD := fun d h1 => bndW (iRange d) W h1
noncomputable def kRn1 (g : G) (b : E) (env : Env) (W : KW) (X : KX) : KD := fun x h1 => (sem g b).val env h1 (fun y h2 => bndW (iRange2 x y) W h2) X
noncomputable def kRn2 (x : D) (W : KW) : KD := fun y h2 => bndW (iRange2 x y) W h2
noncomputable def kZi1 (g : G) (b : E) (env : Env) (W : KW) (X : KX) : KD := fun x h1 => (sem g b).val env h1 (fun y h2 => bndW (iZip h2 x y) W h2) X
noncomputable def kZi2 (x : D) (W : KW) : KD := fun y h2 => bndW (iZip h2 x y) W h2
noncomputable def kIt (W : KW) : KD := fun d h1 => bndW (wkOf h1 d) W h1
noncomputable def stC (g : G) (elt : E) (tg : Tg) (cond : E) (own : List Nat) (env : Env) : D → Hh → (Option D → Hh → Prop) → Prop := fun d h2 K => bndE (tg.put d (wipeD env own)) fun env2 => if isNil cond = true then (sem g elt).val env2 h2 (fun x h3 => K (some x) h3) (fun _ _ => False)
        else (sem g cond).tst env2 h2 (fun b h3 => if b = true then (sem g elt).val env2 h3 (fun x h4 => K (some x) h4) (fun _ _ => False) else K none h3) (fun _ _ => False)
noncomputable def kNoX : KX := fun _ _ => False
noncomputable def kSome (K : Option D → Hh → Prop) : KD := fun x h3 => K (some x) h3
noncomputable def kCnd (g : G) (elt : E) (env2 : Env) (K : Option D → Hh → Prop) : Bool → Hh → Prop := fun b h3 => if b = true then (sem g elt).val env2 h3 (kSome K) kNoX else K none h3
noncomputable def kPut (g : G) (elt cond : E) (h2 : Hh) (K : Option D → Hh → Prop) : Env → Prop := fun env2 => if isNil cond = true then (sem g elt).val env2 h2 (kSome K) kNoX else (sem g cond).tst env2 h2 (kCnd g elt env2 K) kNoX
noncomputable def kRef (Q : KD) (n : Nat) : KH := fun h2 => Q (.ref n) h2
noncomputable def kCpr (g : G) (elt : E) (tg : Tg) (cond : E) (own : List Nat) (env : Env) (Q : KD) : KW := fun w h1 => walkC w.guard h1.length (stC g elt tg cond own env) (kRef Q h1.length) w.items [] (h1 ++ [.lst []])

noncomputable def dctO (o : Option Z.O) : Option (List (DKey × D)) := match o with
  | some (.dct kvs) => some kvs
  | some (.dfr kvs) => some kvs
  | _ => none
noncomputable def lsO (o : Option Z.O) : Option (List D) := match o with
  | some (.lst ds) => some ds
  | some (.fro ds) => some ds
  | _ => none
noncomputable def ksO (h : Hh) (o : Option Z.O) : Option (D × Hh) := match dctO o with
  | some kvs => if kvs.length < 64 then (srtK (kvs.map fun kv => ofKey kv.1)).map fun ds => newO h (.lst ds) else none
  | none => (lsO o).bind fun xs => if xs.length < 64 then (srtK xs).map fun ds => newO h (.lst ds) else none
theorem z_v {i : Nat} : (sem g (.v i)).val env h Q X = bnd ((vget env i).map (·, h)) Q := id rfl
theorem z_ci {n : Int} : (sem g (.ci n)).val env h Q X = Q (.int n) h := id rfl
theorem z_cb {b : Bool} : (sem g (.cb b)).val env h Q X = Q (.bl b) h := id rfl
theorem z_cn : (sem g .cn).val env h Q X = Q .non h := id rfl
theorem z_cs {x : Str} : (sem g (.cs x)).val env h Q X = Q (.str x) h := id rfl
theorem z_bin {op : Operator} {a b : E} : (sem g (.bin op a b)).val env h Q X = (sem g a).val env h (kB1 g op b env Q X) X := id rfl
theorem k_B1 {op : Operator} {b : E} {x : D} : kB1 g op b env Q X x h = (sem g b).val env h (kB2 op x Q) X := id rfl
theorem k_B2 {op : Operator} {x y : D} : kB2 op x Q y h = bnd (binD op x y h) Q := id rfl
theorem z_cmp {op : CmpOp} {a b : E} : (sem g (.cmp op a b)).val env h Q X = (sem g a).val env h (kC1 g op b env Q X) X := id rfl
theorem z_cmpt {op : CmpOp} {a b : E} : (sem g (.cmp op a b)).tst env h B X = (sem g a).val env h (kC1 g op b env (kAsB B) X) X := id rfl
theorem k_C1 {op : CmpOp} {b : E} {x : D} : kC1 g op b env Q X x h = (sem g b).val env h (kC2 op x Q) X := id rfl
theorem k_C2 {op : CmpOp} {x y : D} : kC2 op x Q y h = bndB (cmpD op x y h) Q h := id rfl
theorem k_asB {b : Bool} : kAsB B (.bl b) h = B b h := id rfl
theorem k_asP {i : Int} : kAsP O (.int i) h = O (some i) h := id rfl
theorem z_chnt {op op' : CmpOp} {a b c : E} : (sem g (.chn op op' a b c)).tst env h B X = (sem g a).val env h (kN1 g op op' b c env (kAsB B) X) X := id rfl
theorem k_N1 {op op' : CmpOp} {b c : E} {x : D} : kN1 g op op' b c env Q X x h = (sem g b).val env h (kN2 g op op' x c env Q X) X := id rfl
theorem k_N2 {op op' : CmpOp} {c : E} {x y : D} : kN2 g op op' x c env Q X y h = bndB (cmpD op x y h) (kAsB (kN3 g op' y c env Q X)) h := id rfl
theorem k_N3 {op' : CmpOp} {c : E} {y : D} {b : Bool} : kN3 g op' y c env Q X b h = if b = true then (sem g c).val env h (kC2 op' y Q) X else Q (.bl false) h := id rfl
theorem z_and {a b : E} : (sem g (.and a b)).val env h Q X = (sem g a).val env h (kAsB (kAnd g b env Q X)) X := id rfl
theorem k_And {b : E} {k : Bool} : kAnd g b env Q X k h = if k = true then (sem g b).val env h Q X else Q (.bl false) h := id rfl
theorem z_ort {a b : E} : (sem g (.or a b)).tst env h B X = (sem g a).tst env h (kOrt g b env B X) X := id rfl
theorem k_Ort {b : E} {k : Bool} : kOrt g b env B X k h = if k = true then B true h else (sem g b).tst env h B X := id rfl
theorem z_not {a : E} : (sem g (.not a)).val env h Q X = (sem g a).val env h (kAsB (kNot Q)) X := id rfl
theorem z_nott {a : E} : (sem g (.not a)).tst env h B X = (sem g a).tst env h (kNott B) X := id rfl
theorem k_Not {k : Bool} : kNot Q k h = Q (.bl (!k)) h := id rfl
theorem k_Nott {k : Bool} : kNott B k h = B (!k) h := id rfl
theorem z_neg {a : E} : (sem g (.neg a)).val env h Q X = (sem g a).val env h (kNeg Q) X := id rfl
theorem k_Neg {i : Int} : kNeg Q (.int i) h = Q (.int (-i)) h := id rfl
theorem z_ix {a b : E} : (sem g (.ix a b)).val env h Q X = (sem g a).val env h (kI1 g b env Q X) X := id rfl
theorem k_I1 {b : E} {x : D} : kI1 g b env Q X x h = (sem g b).val env h (kI2 x Q) X := id rfl
theorem k_I2 {x y : D} : kI2 x Q y h = bnd (ixD x y h) Q := id rfl
theorem z_sl {a lo hi : E} : (sem g (.sl a lo hi)).val env h Q X = (sem g a).val env h (kS1 g lo hi env Q X) X := id rfl
theorem k_S1 {lo hi : E} {x : D} : kS1 g lo hi env Q X x h = (sem g lo).prt env h (kS2 g hi env x Q X) X := id rfl
theorem k_S2 {hi : E} {x : D} {l : Option Int} : kS2 g hi env x Q X l h = (sem g hi).prt env h (kS3 x l Q) X := id rfl
theorem k_S3 {x : D} {l u : Option Int} : kS3 x l Q u h = bnd (slD x l u h) Q := id rfl
theorem z_lst {es : E} : (sem g (.lst es)).val env h Q X = (sem g es).arg env h (kLst Q) X := id rfl
theorem k_Lst {ds : List D} : kLst Q ds h = (line ds.length = true ∧ Q (.ref h.length) (h ++ [.lst ds])) := id rfl
theorem z_tup {es : E} : (sem g (.tup es)).val env h Q X = (sem g es).arg env h (kTup Q) X := id rfl
theorem k_Tup {ds : List D} : kTup Q ds h = (line ds.length = true ∧ Q (.tup ds) h) := id rfl
theorem z_nil : (sem g .nil).arg env h A X = A [] h := id rfl
theorem z_nilp : (sem g .nil).prt env h O X = O none h := id rfl
theorem z_cons {e es : E} : (sem g (.cons e es)).arg env h A X = (sem g e).val env h (kCons g es env A X) X := id rfl
theorem k_Cons {es : E} {d : D} : kCons g es env A X d h = (sem g es).arg env h (kCon2 d A) X := id rfl
theorem k_Con2 {d : D} {ds : List D} : kCon2 d A ds h = A (d :: ds) h := id rfl
theorem z_call {f : Nat} {es : E} : (sem g (.call f es)).val env h Q X = (sem g es).arg env h (kCall g f Q X) X := id rfl
theorem z_callt {f : Nat} {es : E} : (sem g (.call f es)).tst env h B X = (sem g es).arg env h (kCall g f (kAsB B) X) X := id rfl
theorem k_Call {f : Nat} {ds : List D} : kCall g f Q X ds h = g.fn f ds h Q X := id rfl
theorem z_blt {f : Z.B} {es : E} : (sem g (.blt f es)).val env h Q X = (sem g es).arg env h (kBlt f Q) X := id rfl
theorem k_Blt {f : Z.B} {ds : List D} : kBlt f Q ds h = bnd (bltD f ds h) Q := id rfl
theorem z_isi {a : E} {t : Ty} : (sem g (.isi a t)).val env h Q X = (sem g a).val env h (kIsi t Q) X := id rfl
theorem z_isit {a : E} {t : Ty} : (sem g (.isi a t)).tst env h B X = (sem g a).val env h (kIsi t (kAsB B)) X := id rfl
theorem k_Isi {t : Ty} {x : D} : kIsi t Q x h = bndB (isiO t (tyD h x)) Q h := id rfl
theorem isiO_s {t : Ty} {s : String} : isiO t (some s) = some (isiD s t) := id rfl
theorem z_dnew : (sem g .dnew).val env h Q X = Q (.ref h.length) (h ++ [.dct []]) := id rfl
theorem z_met {o : E} {m : M} {es : E} : (sem g (.met o m es)).val env h Q X = (sem g o).val env h (kMet g m es env Q X) X := id rfl
theorem k_Met {m : M} {es : E} {x : D} : kMet g m es env Q X x h = (metK m x h = true ∧ (sem g es).arg env h (kMe2 m x Q) X) := id rfl
theorem k_Me2 {m : M} {x : D} {ds : List D} : kMe2 m x Q ds h = bnd (metD m x ds h) Q := id rfl
theorem z_irange {a : E} : (sem g (.irange a)).itr env h W X = (sem g a).val env h (kRng W) X := id rfl
theorem k_Rng {d : D} : kRng W d h = bndW (iRange d) W h := id rfl
theorem z_irange2 {a b : E} : (sem g (.irange2 a b)).itr env h W X = (sem g a).val env h (kRn1 g b env W X) X := id rfl
theorem k_Rn1 {b : E} {x : D} : kRn1 g b env W X x h = (sem g b).val env h (kRn2 x W) X := id rfl
theorem k_Rn2 {x y : D} : kRn2 x W y h = bndW (iRange2 x y) W h := id rfl
theorem z_izip {a b : E} : (sem g (.izip a b)).itr env h W X = (sem g a).val env h (kZi1 g b env W X) X := id rfl
theorem k_Zi1 {b : E} {x : D} : kZi1 g b env W X x h = (sem g b).val env h (kZi2 x W) X := id rfl
theorem k_Zi2 {x y : D} : kZi2 x W y h = bndW (iZip h x y) W h := id rfl
theorem k_It {d : D} : kIt W d h = bndW (wkOf h d) W h := id rfl
theorem z_iv {i : Nat} : (sem g (.v i)).itr env h W X = (sem g (.v i)).val env h (kIt W) X := id rfl
theorem z_isl {a b c : E} : (sem g (.sl a b c)).itr env h W X = (sem g (.sl a b c)).val env h (kIt W) X := id rfl
theorem z_ilst {a : E} : (sem g (.lst a)).itr env h W X = (sem g (.lst a)).val env h (kIt W) X := id rfl
theorem z_pv {i : Nat} : (sem g (.v i)).prt env h O X = (sem g (.v i)).val env h (kAsP O) X := id rfl
theorem z_pci {i : Int} : (sem g (.ci i)).prt env h O X = (sem g (.ci i)).val env h (kAsP O) X := id rfl
theorem z_pbin {op : Operator} {a b : E} : (sem g (.bin op a b)).prt env h O X = (sem g (.bin op a b)).val env h (kAsP O) X := id rfl
theorem z_pneg {a : E} : (sem g (.neg a)).prt env h O X = (sem g (.neg a)).val env h (kAsP O) X := id rfl
theorem z_cpr {elt : E} {tg : Tg} {it cond : E} {own : List Nat} : (sem g (.cpr elt tg it cond own)).val env h Q X = (sem g it).itr env h (kCpr g elt tg cond own env Q) X := id rfl
theorem k_Cpr {elt : E} {tg : Tg} {cond : E} {own : List Nat} {w : Wk} : kCpr g elt tg cond own env Q w h = walkC w.guard h.length (stC g elt tg cond own env) (kRef Q h.length) w.items [] (h ++ [.lst []]) := id rfl
theorem k_stC {elt : E} {tg : Tg} {cond : E} {own : List Nat} {d : D} {K : Option D → Hh → Prop} : stC g elt tg cond own env d h K = bndE (tg.put d (wipeD env own)) (kPut g elt cond h K) := id rfl
theorem k_Put {elt cond : E} {K : Option D → Hh → Prop} : kPut g elt cond h K env = if isNil cond = true then (sem g elt).val env h (kSome K) kNoX else (sem g cond).tst env h (kCnd g elt env K) kNoX := id rfl
theorem k_Some {d : D} {K : Option D → Hh → Prop} : kSome K d h = K (some d) h := id rfl
theorem k_Cnd {elt : E} {b : Bool} {K : Option D → Hh → Prop} : kCnd g elt env K b h = if b = true then (sem g elt).val env h (kSome K) kNoX else K none h := id rfl
theorem isNil_nil : isNil .nil = true := id rfl
theorem isNil_isi {a : E} {t : Ty} : isNil (.isi a t) = false := id rfl
theorem wipe_nil : wipeD env [] = env := id rfl
theorem wipe_cons {i : Nat} {is : List Nat} : wipeD env (i :: is) = (wipeD env is).set i none := id rfl
theorem z_bnd {d : D} : bnd (some (d, h)) Q = Q d h := id rfl
theorem z_bndB {b : Bool} : bndB (some b) Q h = Q (.bl b) h := id rfl
theorem z_bndW {w : Wk} : bndW (some w) W h = W w h := id rfl
theorem z_bndE {P : Env → Prop} : bndE (some env) P = P env := id rfl
/-! ### statements -/
variable {D : Ends} {r : S}
noncomputable def kEx (D : Ends) (env : Env) : KX := fun x h1 => D.ex x env h1
noncomputable def kAs (tg : Tg) (D : Ends) (env : Env) : KD := fun d h1 => bndE (tg.put d env) fun env1 => D.nx env1 h1
noncomputable def kAs2 (D : Ends) (h : Hh) : Env → Prop := fun env1 => D.nx env1 h
noncomputable def kExp (D : Ends) (env : Env) : KD := fun _ h1 => D.nx env h1
noncomputable def kIte (g : G) (a b : S) (D : Ends) (env : Env) : Bool → Hh → Prop := fun k h1 => if k = true then wpS g a D env h1 else wpS g b D env h1
noncomputable def enF (D : Ends) (K : Env → Hh → Prop) : Ends := { nx := K, rt := D.rt, bk := D.nx, ex := D.ex }
noncomputable def stF (g : G) (tg : Tg) (body : S) (D : Ends) : Z.D → Env → Hh → (Env → Hh → Prop) → Prop := fun d env h K => bndE (tg.put d env) fun env1 => wpS g body (enF D K) env1 h
noncomputable def kF2 (g : G) (body : S) (D : Ends) (K : Env → Hh → Prop) (h : Hh) : Env → Prop := fun env1 => wpS g body (enF D K) env1 h
noncomputable def kFor (g : G) (tg : Tg) (body : S) (D : Ends) (env : Env) : KW := fun w h1 => walk w.guard (stF g tg body D) D.nx w.items env h1
noncomputable def enS (g : G) (r : S) (D : Ends) : Ends := { D with nx := wpS g r D }
theorem s_done : wpS g .done D env h = D.nx env h := id rfl
theorem s_seq {a : S} : wpS g (.seq a r) D env h = wpS g a (enS g r D) env h := id rfl
theorem enS_nx : (enS g r D).nx = wpS g r D := id rfl
theorem enS_rt : (enS g r D).rt = D.rt := id rfl
theorem enF_nx {K : Env → Hh → Prop} : (enF D K).nx = K := id rfl
theorem enF_rt {K : Env → Hh → Prop} : (enF D K).rt = D.rt := id rfl
theorem s_asg {tg : Tg} {e : E} : wpS g (.asg tg e) D env h = (sem g e).val env h (kAs tg D env) (kEx D env) := id rfl
theorem k_As {tg : Tg} {d : Z.D} : kAs tg D env d h = bndE (tg.put d env) (kAs2 D h) := id rfl
theorem k_As2 : kAs2 D h env = D.nx env h := id rfl
theorem s_exp {e : E} : wpS g (.exp e) D env h = (sem g e).val env h (kExp D env) (kEx D env) := id rfl
theorem k_Exp {d : Z.D} : kExp D env d h = D.nx env h := id rfl
theorem s_ret {e : E} : wpS g (.ret e) D env h = (sem g e).val env h D.rt (kEx D env) := id rfl
theorem s_ite {c : E} {a b : S} : wpS g (.ite c a b) D env h = (sem g c).tst env h (kIte g a b D env) (kEx D env) := id rfl
theorem k_Ite {a b : S} {k : Bool} : kIte g a b D env k h = if k = true then wpS g a D env h else wpS g b D env h := id rfl
theorem s_for {tg : Tg} {it : E} {b : S} : wpS g (.for tg it b) D env h = (sem g it).itr env h (kFor g tg b D env) (kEx D env) := id rfl
theorem k_For {tg : Tg} {b : S} {w : Wk} : kFor g tg b D env w h = walk w.guard (stF g tg b D) D.nx w.items env h := id rfl
theorem k_stF {tg : Tg} {b : S} {d : Z.D} {K : Env → Hh → Prop} : stF g tg b D d env h K = bndE (tg.put d env) (kF2 g b D K h) := id rfl
theorem k_F2 {b : S} {K : Env → Hh → Prop} : kF2 g b D K h env = wpS g b (enF D K) env h := id rfl
theorem z_put {i : Nat} {d : Z.D} : (Tg.nm i).put d env = some (env.set i (some d)) := id rfl
theorem z_putt {is : List Nat} {ds : List Z.D} : (Tg.tp is).put (.tup ds) env = setAll is ds env := id rfl
theorem z_setn : setAll [] [] env = some env := id rfl
theorem z_setc {i : Nat} {is : List Nat} {d : Z.D} {ds : List Z.D} : setAll (i :: is) (d :: ds) env = setAll is ds (env.set i (some d)) := id rfl
theorem z_gfn {p : Pg} {fn : Fn} : (p.g fn).fn = fn := id rfl
/-- the ends of a def's body -/
noncomputable def enD (h : Hh) (Q : KD) (X : KX) : Ends := { nx := fun _ h1 => gcQ h Q .non h1, rt := gcQ h Q, bk := fun _ _ => False, ex := fun x _ h1 => gcX h X x h1 }
noncomputable def kR (r : Z.D) (h2 : Hh) : KD := fun d h' => d = r ∧ h' = h2
theorem enD_rt : (enD h Q X).rt = gcQ h Q := id rfl
theorem k_R {d r : Z.D} {h2 : Hh} : kR r h2 d h = (d = r ∧ h = h2) := id rfl
theorem run_s {p : Pg} {n f : Nat} {ds : List Z.D} {np nn : Nat} {b : S} {df : Option Int} (e : p.fns[f]? = some ⟨np, nn, b, df⟩) (l : ds.length = np)
    (w : wpS (p.g (p.run n)) b (enD h Q X) (ds.map some ++ List.replicate (nn - ds.length) none) h) : p.run (n + 1) f ds h Q X := by
  show (match p.fns[f]? with
    | some fd => ds.length = fd.np ∧ _
    | none => False)
  rw [e]
  exact ⟨l, w⟩
/-- what a def gives -/
theorem run_v {p : Pg} {n f : Nat} {ds : List Z.D} {np nn : Nat} {b : S} {df : Option Int} {r : Z.D} {h2 : Hh} (e : p.fns[f]? = some ⟨np, nn, b, df⟩) (l : ds.length = np)
    (w : wpS (p.g (p.run n)) b (enD h (kR r h2) kNoX) (ds.map some ++ List.replicate (nn - ds.length) none) h) :
    p.run (n + 1) f ds h Q X = Q r h2 := run_eq (run_s e l w)
/-- .. of which something is known -/
theorem run_some {p : Pg} {n f : Nat} {ds : List Z.D} {Q0 : KD} (w : p.run n f ds h Q0 kNoX) : ∃ d h', Q0 d h' ∧ ∀ Q X, p.run n f ds h Q X = Q d h' := by
  rcases run_det p n f ds h with q | ⟨a, b, q⟩ | ⟨x, b, q⟩
  · exact absurd w (q _ _)
  · exact ⟨a, b, (q _ _).mp w, fun Q X => propext (q Q X)⟩
  · exact ((q _ _).mp w).elim
end
/-! ### what is forgotten -/
theorem bels_int {n : Nat} : ∀ {xs : List Int}, bels n (xs.map D.int) = true
  | [] => by unfold bels; rfl
  | x :: xs => by rw [List.map_cons]; unfold bels bel; rw [bels_int]; rfl
theorem bels_str {n : Nat} : ∀ {xs : List Str}, bels n (xs.map D.str) = true
  | [] => by unfold bels; rfl
  | x :: xs => by rw [List.map_cons]; unfold bels bel; rw [bels_str]; rfl
theorem bels_append {n : Nat} {b : List D} : ∀ {a : List D}, bels n (a ++ b) = (bels n a && bels n b)
  | [] => by simp [bels]
  | x :: a => by rw [List.cons_append]; conv => { lhs; unfold bels }; rw [bels_append]; conv => { rhs; arg 1; unfold bels }; rw [Bool.and_assoc]
section
variable {h t : Hh} {d : D} {n k : Nat} {ds : List D}
theorem bel_non : bel n .non = true := by unfold bel; rfl
theorem bel_bl {b : Bool} : bel n (.bl b) = true := by unfold bel; rfl
theorem bel_int {i : Int} : bel n (.int i) = true := by unfold bel; rfl
theorem bel_str {i : Str} : bel n (.str i) = true := by unfold bel; rfl
theorem bel_tup : bel n (.tup ds) = bels n ds := by unfold bel; rfl
theorem bel_ref : bel n (.ref k) = decide (k < n) := by unfold bel; rfl
theorem bels_nil : bels n [] = true := by unfold bels; rfl
theorem bels_cons : bels n (d :: ds) = (bel n d && bels n ds) := by conv => lhs; unfold bels
theorem gcv_old (hb : bel h.length d = true) : gcv h d (h ++ t) = (d, h) := by
  unfold gcv
  rw [if_pos (List.prefix_append _ _), if_pos hb]
theorem gcQ_old {Q : KD} (hb : bel h.length d = true) : gcQ h Q d (h ++ t) = Q d h := by unfold gcQ; rw [gcv_old hb]
theorem gcQ_id {Q : KD} (hb : bel h.length d = true) : gcQ h Q d h = Q d h := by
  have := gcQ_old (h := h) (t := []) (Q := Q) hb
  rwa [List.append_nil] at this
/-! ### the heap -/
theorem h_at : (h ++ t)[h.length + k]? = t[k]? := by rw [List.getElem?_append_right (by omega)]; congr 1; omega
theorem h_at0 : (h ++ t)[h.length]? = t[0]? := h_at (k := 0)
theorem h_old (hl : k < h.length) : (h ++ t)[k]? = h[k]? := List.getElem?_append_left hl
theorem h_set {o : O} : (h ++ t).set (h.length + k) o = h ++ t.set k o := by rw [List.set_append_right _ _ (by omega)]; congr 2; omega
theorem h_set0 {o : O} : (h ++ t).set h.length o = h ++ t.set 0 o := h_set (k := 0)
theorem lt_of_at {o : O} (e : h[k]? = some o) : k < h.length := (List.getElem?_eq_some_iff.mp e).1
end

/-! ### loops -/
theorem walk_rule {gd : Hh → Prop} {step : D → Env → Hh → (Env → Hh → Prop) → Prop} {k : Env → Hh → Prop} {ds : List D} {env : Env} {h : Hh} (I : Nat → Env → Hh → Prop) (h0 : I 0 env h)
    (hg : ∀ i env h, i ≤ ds.length → I i env h → gd h) (hs : ∀ i env h (hi : i < ds.length), I i env h → ∀ K : Env → Hh → Prop, (∀ env' h', I (i + 1) env' h' → K env' h') → step ds[i] env h K)
    (hk : ∀ env h, I ds.length env h → k env h) : walk gd step k ds env h := by
  suffices aux : ∀ (m i : Nat) (env : Env) (h : Hh), i + m = ds.length → I i env h → walk gd step k (ds.drop i) env h by
    simpa using aux ds.length 0 env h (by simp) h0
  intro m
  induction m with
  | zero =>
    intro i env h e hI
    have e : i = ds.length := by omega
    subst e
    rw [List.drop_length]
    exact ⟨hg _ _ _ (Nat.le_refl _) hI, hk _ _ hI⟩
  | succ m ih =>
    intro i env h e hI
    have hi : i < ds.length := by omega
    rw [List.drop_eq_getElem_cons hi]
    exact ⟨hg _ _ _ (by omega) hI, hs i env h hi hI _ fun env' h' q => ih (i + 1) env' h' (by omega) q⟩
end Z

set_option Elab.async false
set_option linter.all false
set_option maxRecDepth 100000
/-! Z, part T: values of plain shapes. -/
namespace Y
open PySem PySem.Spec PyProof.Rows Z

abbrev tI (xs : List Int) : D := .tup (xs.map .int)
abbrev lI (xs : List Int) : O := .lst (xs.map .int)
abbrev fI (xs : List Int) : O := .fro (xs.map .int)
/-- the i-th number, 0 beyond -/
noncomputable def at0 (xs : List Int) (i : Int) : Int := xs.getD i.toNat 0
/-- the last number, 0 of none -/
noncomputable def last0 (xs : List Int) : Int := xs.getLastD 0
section
variable {h : Hh} {a b c d e : D} {r ds : List D} {i j : Int} {n m : Nat} {x y : Str} {xs ys : List Int}
/-! ### subscripts -/
theorem atI_of {α : Type} {xs : List α} {i : Int} (h0 : 0 ≤ i) (h1 : i < xs.length) : L2.atI xs i = xs[i.toNat]? := by
  unfold L2.atI L2.ixN
  rw [if_pos h0, if_pos h1]
  rfl
theorem map_at0 {f : Int → D} (h0 : 0 ≤ i) (h1 : i < xs.length) : (xs.map f)[i.toNat]? = some (f (at0 xs i)) := by
  rw [List.getElem?_map, List.getElem?_eq_getElem (by omega)]
  unfold at0
  rw [List.getD_eq_getElem?_getD, List.getElem?_eq_getElem (by omega)]
  rfl
noncomputable def ixO (o : Option O) (i : Int) (h : Hh) : Option (D × Hh) := match o with
  | some (.lst ds) => (L2.atI ds i).map (·, h)
  | some (.fro ds) => (L2.atI ds i).map (·, h)
  | some (.dct kvs) => (valD kvs (.inl i)).map (·, h)
  | some (.dfr kvs) => (valD kvs (.inl i)).map (·, h)
  | _ => none
theorem ix_ref : ixD (.ref n) (.int i) h = ixO h[n]? i h := rfl
theorem ixO_fI (h0 : 0 ≤ i) (h1 : i < xs.length) : ixO (some (.fro (xs.map .int))) i h = some (.int (at0 xs i), h) := by
  show (L2.atI (xs.map D.int) i).map (·, h) = _
  rw [atI_of h0 (by simpa using h1), map_at0 h0 h1]
  rfl
theorem ixO_lst : ixO (some (.lst ds)) i h = (L2.atI ds i).map (·, h) := rfl
theorem last_map {f : Int → D} (hx : xs ≠ []) : L2.atI (xs.map f) (-1) = some (f (last0 xs)) := by
  obtain ⟨ys, z, rfl⟩ : ∃ ys z, xs = ys ++ [z] := ⟨xs.dropLast, xs.getLast hx, (List.dropLast_concat_getLast hx).symm⟩
  rw [List.map_append]
  unfold last0
  rw [show [z].map f = [f z] from rfl, L2.atI_last]
  simp
theorem ix_last_tI (hx : xs ≠ []) : ixD (.tup (xs.map .int)) (.int (-1)) h = some (.int (last0 xs), h) := by
  show (L2.atI (xs.map D.int) (-1)).map (·, h) = _
  rw [last_map hx]; rfl
theorem ixO_last (hx : xs ≠ []) : ixO (some (.lst (xs.map .int))) (-1) h = some (.int (last0 xs), h) := by
  show (L2.atI (xs.map D.int) (-1)).map (·, h) = _
  rw [last_map hx]; rfl
theorem atI_0 {α : Type} {a : α} {r : List α} : L2.atI (a :: r) 0 = some a := by
  have := atI_of (xs := a :: r) (i := 0) (by omega) (by simp <;> omega)
  simpa using this
theorem atI_1 {α : Type} {a b : α} {r : List α} : L2.atI (a :: b :: r) 1 = some b := by
  have := atI_of (xs := a :: b :: r) (i := 1) (by omega) (by simp <;> omega)
  simpa using this
theorem atI_3 {α : Type} {a b c d : α} {r : List α} : L2.atI (a :: b :: c :: d :: r) 3 = some d := by
  have := atI_of (xs := a :: b :: c :: d :: r) (i := 3) (by omega) (by simp <;> omega)
  simpa using this
theorem ix_0 : ixD (.tup (a :: r)) (.int 0) h = some (a, h) := by
  show (L2.atI (a :: r) 0).map (·, h) = _
  rw [atI_0]; rfl
theorem ix_1 : ixD (.tup (a :: b :: r)) (.int 1) h = some (b, h) := by
  show (L2.atI (a :: b :: r) 1).map (·, h) = _
  rw [atI_1]; rfl
theorem ix_3 : ixD (.tup (a :: b :: c :: d :: r)) (.int 3) h = some (d, h) := by
  show (L2.atI (a :: b :: c :: d :: r) 3).map (·, h) = _
  rw [atI_3]; rfl
/-! ### operators -/
theorem bin_add : binD .Add (.int i) (.int j) h = some (.int (i + j), h) := rfl
theorem bin_sub : binD .Sub (.int i) (.int j) h = some (.int (i - j), h) := rfl
theorem small_of (h1 : -18446744073709551616 < i) (h2 : i < 18446744073709551616) : small i = true := by
  unfold small
  rw [decide_eq_true (show -(2^64) < i by omega), decide_eq_true (show i < 2^64 by omega)]
  rfl
theorem bin_mulR (h1 : -18446744073709551616 < j) (h2 : j < 18446744073709551616) : binD .Mult (.int i) (.int j) h = some (.int (i * j), h) := by
  show (if mulOk i j then some (D.int (i * j), h) else none) = _
  rw [if_pos (by unfold mulOk; rw [small_of h1 h2]; simp)]
theorem bin_mod (hj : 0 < j) : binD .Mod (.int i) (.int j) h = some (.int (i % j), h) := if_pos hj
theorem bin_div (hj : 0 < j) (h2 : j < 18446744073709551616) : binD .FloorDiv (.int i) (.int j) h = some (.int (i / j), h) := by
  refine if_pos ?_
  unfold divOk
  rw [decide_eq_true hj, decide_eq_true]
  · rfl
  · have h3 : j.natAbs.log2 < 9000 := by
      by_cases h0 : j.natAbs = 0
      · omega
      · rw [Nat.log2_lt h0]
        exact Nat.lt_of_lt_of_le (show j.natAbs < 2 ^ 64 by omega) (Nat.pow_le_pow_right (by decide) (by decide))
    exact h3
theorem cmp_lt : cmpD .Lt (.int i) (.int j) h = some (decide (i < j)) := rfl
theorem cmp_le : cmpD .LtE (.int i) (.int j) h = some (decide (i ≤ j)) := rfl
theorem cmp_gt : cmpD .Gt (.int i) (.int j) h = some (decide (j < i)) := rfl
theorem cmp_ge : cmpD .GtE (.int i) (.int j) h = some (decide (j ≤ i)) := rfl
theorem cmp_eq : cmpD .Eq a b h = orN (eqD h a b) (nilD h a b) := rfl
theorem cmp_ne : cmpD .NotEq a b h = (orN (eqD h a b) (nilD h a b)).map (!·) := rfl
theorem orN_some {r : Bool} {q : Option Bool} : orN (some r) q = some r := rfl
theorem omap_some {α β : Type} {f : α → β} {a : α} : (some a).map f = some (f a) := rfl
theorem cmp_is_int : cmpD .Is (.int i) .non h = some false := rfl
theorem cmp_is_bl {k : Bool} : cmpD .Is (.bl k) .non h = some false := rfl
theorem cmp_is_str : cmpD .Is (.str x) .non h = some false := rfl
theorem cmp_is_tup : cmpD .Is (.tup ds) .non h = some false := rfl
theorem cmp_is_ref : cmpD .Is (.ref n) .non h = some false := rfl
theorem cmp_is_non : cmpD .Is .non .non h = some true := rfl
theorem cmp_isn_int : cmpD .IsNot (.int i) .non h = some true := rfl
theorem cmp_isn_bl {k : Bool} : cmpD .IsNot (.bl k) .non h = some true := rfl
theorem cmp_isn_str : cmpD .IsNot (.str x) .non h = some true := rfl
theorem cmp_isn_tup : cmpD .IsNot (.tup ds) .non h = some true := rfl
theorem cmp_isn_ref : cmpD .IsNot (.ref n) .non h = some true := rfl
theorem cmp_isn_non : cmpD .IsNot .non .non h = some false := rfl
theorem cmp_is_bb {k j : Bool} : cmpD .Is (.bl j) (.bl k) h = some (decide (j = k)) := rfl
theorem cmp_isn_bb {k j : Bool} : cmpD .IsNot (.bl j) (.bl k) h = some (!decide (j = k)) := rfl
/-! ### equality -/
noncomputable def eqP (p q : Option PyData) : Option Bool := match p, q with
  | some x, some y => if SeqAt.shaped x && SeqAt.shaped y then some (PyData.eqv x y) else none
  | _, _ => none
noncomputable def deepO (h : Hh) (o : Option O) : Option PyData := match o with
  | some (.lst ds) => (ds.mapM (deep 7 h)).map .list
  | some (.fro ds) => (ds.mapM (deep 7 h)).map .list
  | _ => none
theorem eq_of {p q : PyData} (h1 : deep deepN h a = some p) (h2 : deep deepN h b = some q) (s1 : SeqAt.shaped p = true) (s2 : SeqAt.shaped q = true) : eqD h a b = some (PyData.eqv p q) := by
  unfold eqD
  rw [h1, h2]
  simp only [s1, s2, Bool.and_self, ↓reduceIte]
noncomputable def nilO (h : Hh) (p q : Option O) : Option Bool := match p, q with
  | some (.lst ds), some (.lst []) => some ds.isEmpty
  | some (.dct ks), some (.dct ls) => dicO h ks ls
  | some (.lst xs), some (.lst ys) => seqT h xs ys
  | _, _ => none
theorem nil_refs : nilD h (.ref n) (.ref m) = nilO h h[n]? h[m]? := rfl
theorem nilO_nil : nilO h (some (.lst ds)) (some (.lst [])) = some ds.isEmpty := rfl
theorem deep_int {k : Nat} : deep (k + 1) h (.int i) = some (.int i) := rfl
theorem deep_ints {k : Nat} : ∀ {xs : List Int}, (xs.map D.int).mapM (deep (k + 1) h) = some (xs.map PyData.int)
  | [] => rfl
  | x :: xs => by rw [List.map_cons, List.mapM_cons, deep_ints, deep_int]; rfl
theorem deep_tI {k : Nat} : deep (k + 2) h (.tup (xs.map .int)) = some (.tuple (xs.map .int)) := by
  show ((xs.map D.int).mapM (deep (k + 1) h)).map PyData.tuple = _
  rw [deep_ints]; rfl
theorem deepO_lI : deepO h (some (.lst (xs.map .int))) = some (.list (xs.map .int)) := by
  show ((xs.map D.int).mapM (deep 7 h)).map PyData.list = _
  rw [deep_ints]; rfl
theorem deepO_fI : deepO h (some (.fro (xs.map .int))) = some (.list (xs.map .int)) := by
  show ((xs.map D.int).mapM (deep 7 h)).map PyData.list = _
  rw [deep_ints]; rfl
theorem deepO_fnil : deepO h (some (.fro [])) = some (.list []) := rfl
theorem deepO_nil : deepO h (some (.lst [])) = some (.list []) := rfl
theorem lay_ints : ∀ {xs : List Int}, PyData.canLayAll0 (xs.map .int) = true
  | [] => by unfold PyData.canLayAll0; rfl
  | x :: xs => by rw [List.map_cons]; unfold PyData.canLayAll0 PyData.canLay0; rw [lay_ints]; rfl
theorem dep_ints : ∀ {xs : List Int}, PyData.depthAll (xs.map .int) = 0
  | [] => by unfold PyData.depthAll; rfl
  | x :: xs => by rw [List.map_cons]; unfold PyData.depthAll PyData.depth; rw [dep_ints]; rfl
theorem shaped_tI : SeqAt.shaped (.tuple (xs.map .int)) = true := by
  unfold SeqAt.shaped PyData.canLay0 PyData.depth
  rw [lay_ints, dep_ints]; rfl
theorem shaped_lI : SeqAt.shaped (.list (xs.map .int)) = true := by
  unfold SeqAt.shaped PyData.canLay0 PyData.depth
  rw [lay_ints, dep_ints]; rfl
theorem eqv_int : PyData.eqv (.int i) (.int j) = decide (i = j) := by unfold PyData.eqv; rfl
theorem eqvAll_ints : ∀ {xs ys : List Int}, PyData.eqvAll (xs.map .int) (ys.map .int) = decide (xs = ys)
  | [], [] => by unfold PyData.eqvAll; rfl
  | [], y :: ys => by rw [List.map_nil, List.map_cons]; unfold PyData.eqvAll; simp
  | x :: xs, [] => by rw [List.map_nil, List.map_cons]; unfold PyData.eqvAll; simp
  | x :: xs, y :: ys => by
    rw [List.map_cons, List.map_cons]
    unfold PyData.eqvAll
    rw [eqv_int, eqvAll_ints]
    simp
theorem eq_int : eqD h (.int i) (.int j) = some (decide (i = j)) := by
  rw [eq_of (p := .int i) (q := .int j) rfl rfl rfl rfl, eqv_int]
theorem eq_bl {k l : Bool} : eqD h (.bl k) (.bl l) = some (k == l) := by
  rw [eq_of (p := .bool k) (q := .bool l) rfl rfl rfl rfl]; unfold PyData.eqv; rfl
theorem eq_tI : eqD h (.tup (xs.map .int)) (.tup (ys.map .int)) = some (decide (xs = ys)) := by
  rw [eq_of deep_tI deep_tI shaped_tI shaped_tI]
  unfold PyData.eqv
  rw [eqvAll_ints]
theorem eq_refs : eqD h (.ref n) (.ref m) = eqP (deepO h h[n]?) (deepO h h[m]?) := rfl
theorem eqP_lists : eqP (some (.list (xs.map .int))) (some (.list (ys.map .int))) = some (decide (xs = ys)) := by
  unfold eqP
  simp only [shaped_lI, Bool.and_self, ↓reduceIte]
  unfold PyData.eqv
  rw [eqvAll_ints]
theorem eqP_nil : eqP (some (.list (xs.map .int))) (some (.list [])) = some (decide (xs = [])) := eqP_lists (ys := [])
theorem eqP_nn : eqP (some (.list [])) (some (.list [])) = some true := eqP_lists (xs := []) (ys := [])
/-! ### builtins -/
theorem b_len_tup (ds : List D) : bltD .len [.tup ds] h = some (.int ds.length, h) := rfl
noncomputable def lenO (o : Option O) : Option Nat := match o with
  | some (.lst ds) => some ds.length
  | some (.fro ds) => some ds.length
  | some (.dct kvs) => some kvs.length
  | _ => none
theorem b_len_ref : bltD .len [.ref n] h = (lenO h[n]?).map fun (n : Nat) => (D.int (n : Int), h) := rfl
theorem lenO_lst : lenO (some (.lst ds)) = some ds.length := rfl
theorem lenO_fro : lenO (some (.fro ds)) = some ds.length := rfl
theorem b_abs : bltD .abs [.int i] h = some (.int i.natAbs, h) := rfl
theorem b_min : bltD .min [.int i, .int j] h = some (.int (min i j), h) := rfl
theorem b_max : bltD .max [.int i, .int j] h = some (.int (max i j), h) := rfl
theorem b_int : bltD .int [.int i] h = some (.int i, h) := rfl
theorem b_int_b {k : Bool} : bltD .int [.bl k] h = some (.int (if k then 1 else 0), h) := rfl
noncomputable def seqO (o : Option O) : Option (List D) := match o with
  | some (.lst ds) => some ds
  | some (.fro ds) => some ds
  | _ => none
theorem seqO_lst : seqO (some (.lst ds)) = some ds := rfl
theorem seqO_fro : seqO (some (.fro ds)) = some ds := rfl
theorem b_tuple_tup : bltD .tuple [.tup ds] h = some (.tup ds, h) := rfl
theorem b_tuple_ref : bltD .tuple [.ref n] h = (seqO h[n]?).map fun ds => (D.tup ds, h) := rfl
theorem b_list_tup : bltD .list [.tup ds] h = some (.ref h.length, h ++ [.lst ds]) := rfl
theorem b_list_ref : bltD .list [.ref n] h = (seqO h[n]?).map fun ds => (.ref h.length, h ++ [.lst ds]) := rfl
/-! ### methods -/
noncomputable def isO (o : Option O) : Bool := match o with
  | some (.lst _) => true
  | some (.fro _) => true
  | _ => false
theorem m_app_k : metK .append (.ref n) h = isO h[n]? := rfl
theorem isO_lst : isO (some (.lst ds)) = true := rfl
noncomputable def appO (o : Option O) (n : Nat) (d : D) (h : Hh) : Option (D × Hh) := match o with
  | some (.lst xs) => if decide (xs.length < sizeLine) then some (.non, h.set n (.lst (xs ++ [d]))) else none
  | _ => none
theorem m_app : metD .append (.ref n) [d] h = appO h[n]? n d h := rfl
theorem appO_lst (hl : ds.length < 16777216) : appO (some (.lst ds)) n d h = some (.non, h.set n (.lst (ds ++ [d]))) := if_pos (decide_eq_true (by simpa [sizeLine] using hl))
theorem line_ok (hl : m ≤ 16777216) : line m = true := decide_eq_true (by simpa [sizeLine] using hl)
/-! ### walks -/
theorem wk_tup : wkOf h (.tup ds) = some (.pure ds) := rfl
noncomputable def wkO (n : Nat) (o : Option O) : Option Wk := match o with
  | some (.lst ds) => some (.ofL n ds)
  | some (.fro ds) => some (.ofL n ds)
  | _ => none
theorem wk_ref : wkOf h (.ref n) = wkO n h[n]? := rfl
theorem wkO_lst : wkO n (some (.lst ds)) = some (.ofL n ds) := rfl
theorem wkO_fro : wkO n (some (.fro ds)) = some (.ofL n ds) := rfl
theorem w_range (h1 : -4611686018427387904 ≤ j) (h2 : j < 4611686018427387904) : iRange (.int j) = some (.pure ((List.range j.toNat).map fun i => .int (i : Nat))) := by
  refine if_pos ?_
  unfold small62
  rw [decide_eq_true (by simpa using h1), decide_eq_true (by simpa using h2)]
  rfl
theorem w_range2 (h1 : -4611686018427387904 ≤ i) (h2 : i < 4611686018427387904) (h3 : -4611686018427387904 ≤ j) (h4 : j < 4611686018427387904) : iRange2 (.int i) (.int j) = some (.pure ((List.range (j - i).toNat).map fun k => .int (i + (k : Nat)))) := by
  refine if_pos ?_
  unfold small62
  rw [decide_eq_true (by simpa using h1), decide_eq_true (by simpa using h2), decide_eq_true (by simpa using h3), decide_eq_true (by simpa using h4)]
  rfl
theorem w_zip_tup {ds es : List D} : iZip h (.tup ds) (.tup es) = some (.pure (List.zipWith (fun a b => .tup [a, b]) ds es)) := rfl
theorem w_items {ds : List D} : (Wk.pure ds).items = ds := rfl
theorem w_guard {ds : List D} : (Wk.pure ds).guard h = True := rfl
/-! ### isinstance -/
theorem ty_int : tyD h (.int i) = some "int" := rfl
theorem ty_bl {k : Bool} : tyD h (.bl k) = some "bool" := rfl
theorem ty_str : tyD h (.str x) = some "str" := rfl
theorem ty_tup : tyD h (.tup ds) = some "tuple" := rfl
theorem ty_utx {h : Hh} : tyD h .utx = some "str" := rfl
theorem ty_non : tyD h .non = some "NoneType" := rfl
end
end Y
namespace Y
open PySem PySem.Spec PyProof.Rows Z
theorem walk_range {m : Nat} {f : Nat → D} {step : D → Z.Env → Hh → (Z.Env → Hh → Prop) → Prop} {k : Z.Env → Hh → Prop} {env : Z.Env} {h : Hh} (I : Nat → Z.Env → Hh → Prop) (h0 : I 0 env h)
    (hs : ∀ i env h, i < m → I i env h → ∀ K : Z.Env → Hh → Prop, (∀ env' h', I (i + 1) env' h' → K env' h') → step (f i) env h K)
    (hk : ∀ env h, I m env h → k env h) : walk (Wk.pure ((List.range m).map f)).guard step k ((List.range m).map f) env h := by
  refine walk_rule I h0 (fun _ _ _ _ _ => trivial) (fun i env h hi hI K hK => ?_) fun env h hI => hk env h (by simpa using hI)
  have hi' : i < m := by simpa using hi
  have := hs i env h hi' hI K hK
  simpa using this
theorem last0_append {xs : List Int} {x : Int} : last0 (xs ++ [x]) = x := by simp [last0]
theorem last0_mem {xs : List Int} (hx : xs ≠ []) : last0 xs ∈ xs := by
  obtain ⟨ys, z, rfl⟩ : ∃ ys z, xs = ys ++ [z] := ⟨xs.dropLast, xs.getLast hx, (List.dropLast_concat_getLast hx).symm⟩
  rw [last0_append]; simp
end Y
namespace Y
open PySem PySem.Spec PyProof.Rows Z
section
variable {h : Hh} {xs ys : List Int} {a : Int}
theorem cut_map {α β : Type} {f : α → β} {xs : List α} {lo hi : Option Int} : cut (xs.map f) lo hi = (cut xs lo hi).map f := by
  unfold cut
  rw [List.length_map, List.map_take, List.map_drop]
theorem cut_to {α : Type} {xs : List α} (h0 : 0 ≤ a) : cut xs none (some a) = xs.take a.toNat := by
  unfold cut HT.sIx
  simp only [Nat.sub_zero, List.drop_zero]
  rw [if_neg (by omega)]
  rcases Nat.le_total a.toNat xs.length with e | e
  · rw [Nat.min_eq_left e]
  · rw [Nat.min_eq_right e, List.take_of_length_le e, List.take_of_length_le (Nat.le_refl _)]
theorem cut_from {α : Type} {xs : List α} (h0 : 0 ≤ a) : cut xs (some a) none = xs.drop a.toNat := by
  unfold cut HT.sIx
  simp only
  rw [if_neg (by omega)]
  rcases Nat.le_total a.toNat xs.length with e | e
  · rw [Nat.min_eq_left e, List.take_of_length_le (by rw [List.length_drop]; exact Nat.le_refl _)]
  · rw [Nat.min_eq_right e, List.drop_of_length_le e, List.drop_of_length_le (Nat.le_refl _), List.take_nil]
theorem sl_tI {lo hi : Option Int} : slD (.tup (xs.map .int)) lo hi h = some (.tup ((cut xs lo hi).map .int), h) := by
  show some (D.tup (cut (xs.map D.int) lo hi), h) = _
  rw [cut_map]
end
/-- a comprehension whose turns lay nothing -/
theorem walkC_pure {gd : Hh → Prop} {n : Nat} {step : D → Hh → (Option D → Hh → Prop) → Prop} {k : Hh → Prop} {ds : List D} {h : Hh} (f : Nat → Option D) (hn : n = h.length) (hl : ds.length < 16777216)
    (hg : ∀ acc, gd (h ++ [O.lst acc]))
    (hs : ∀ i (hi : i < ds.length) acc (K : Option D → Hh → Prop), K (f i) (h ++ [O.lst acc]) → step ds[i] (h ++ [O.lst acc]) K)
    (hk : k (h ++ [O.lst ((List.range ds.length).filterMap f)])) : walkC gd n step k ds [] (h ++ [O.lst []]) := by
  subst hn
  have look : ∀ acc, (h ++ [O.lst acc])[h.length]? = some (O.lst acc) := fun acc => by simp
  have put : ∀ acc b, (h ++ [O.lst acc]).set h.length (O.lst b) = h ++ [O.lst b] := fun acc b => by simp
  suffices aux : ∀ (m i : Nat), i + m = ds.length → walkC gd h.length step k (ds.drop i) ((List.range i).filterMap f) (h ++ [O.lst ((List.range i).filterMap f)]) by
    simpa using aux ds.length 0 (by simp)
  intro m
  induction m with
  | zero =>
    intro i e
    have e : i = ds.length := by omega
    subst e
    rw [List.drop_length]
    exact ⟨hg _, hk⟩
  | succ m ih =>
    intro i e
    have hi : i < ds.length := by omega
    rw [List.drop_eq_getElem_cons hi]
    refine ⟨hg _, hs i hi _ _ ?_⟩
    have nx := ih (i + 1) (by omega)
    rw [List.range_succ, List.filterMap_append] at nx
    cases hf : f i with
    | none =>
      simp only [hf, List.filterMap_cons, List.filterMap_nil, List.append_nil] at nx ⊢
      exact ⟨look _, nx⟩
    | some x =>
      simp only [hf, List.filterMap_cons, List.filterMap_nil] at nx ⊢
      refine ⟨look _, ?_, ?_⟩
      · have := List.length_filterMap_le f (List.range i)
        rw [List.length_range] at this
        show _ < 2 ^ 24
        omega
      · rw [put]
        exact nx
end Y
namespace Y
open PySem PySem.Spec PyProof.Rows Z
end Y
namespace Y
open PySem PySem.Spec PyProof.Rows Z
theorem isi_int_int : isiD "int" .int = true := by decide
theorem isi_int_bool : isiD "int" .bool = false := by decide
theorem isi_int_str : isiD "int" .str = false := by decide
theorem isi_int_list : isiD "int" .list = false := by decide
theorem isi_int_tuple : isiD "int" .tuple = false := by decide
theorem isi_int_dict : isiD "int" .dict = false := by decide
theorem isi_bool_int : isiD "bool" .int = true := by decide
theorem isi_bool_bool : isiD "bool" .bool = true := by decide
theorem isi_bool_str : isiD "bool" .str = false := by decide
theorem isi_bool_list : isiD "bool" .list = false := by decide
theorem isi_bool_tuple : isiD "bool" .tuple = false := by decide
theorem isi_bool_dict : isiD "bool" .dict = false := by decide
theorem isi_str_int : isiD "str" .int = false := by decide
theorem isi_str_bool : isiD "str" .bool = false := by decide
theorem isi_str_str : isiD "str" .str = true := by decide
theorem isi_str_list : isiD "str" .list = false := by decide
theorem isi_str_tuple : isiD "str" .tuple = false := by decide
theorem isi_str_dict : isiD "str" .dict = false := by decide
theorem isi_list_int : isiD "list" .int = false := by decide
theorem isi_list_bool : isiD "list" .bool = false := by decide
theorem isi_list_str : isiD "list" .str = false := by decide
theorem isi_list_list : isiD "list" .list = true := by decide
theorem isi_list_tuple : isiD "list" .tuple = false := by decide
theorem isi_list_dict : isiD "list" .dict = false := by decide
theorem isi_tuple_int : isiD "tuple" .int = false := by decide
theorem isi_tuple_bool : isiD "tuple" .bool = false := by decide
theorem isi_tuple_str : isiD "tuple" .str = false := by decide
theorem isi_tuple_list : isiD "tuple" .list = false := by decide
theorem isi_tuple_tuple : isiD "tuple" .tuple = true := by decide
theorem isi_tuple_dict : isiD "tuple" .dict = false := by decide
theorem isi_dict_int : isiD "dict" .int = false := by decide
theorem isi_dict_bool : isiD "dict" .bool = false := by decide
theorem isi_dict_str : isiD "dict" .str = false := by decide
theorem isi_dict_list : isiD "dict" .list = false := by decide
theorem isi_dict_tuple : isiD "dict" .tuple = false := by decide
theorem isi_dict_dict : isiD "dict" .dict = true := by decide
theorem isi_NoneType_int : isiD "NoneType" .int = false := by decide
theorem isi_NoneType_bool : isiD "NoneType" .bool = false := by decide
theorem isi_NoneType_str : isiD "NoneType" .str = false := by decide
theorem isi_NoneType_list : isiD "NoneType" .list = false := by decide
theorem isi_NoneType_tuple : isiD "NoneType" .tuple = false := by decide
theorem isi_NoneType_dict : isiD "NoneType" .dict = false := by decide
end Y
namespace Y
open PySem PySem.Spec PyProof.Rows Z
section
variable {h : Hh} {n k : Nat} {ds : List D} {i : Int}
abbrev lT (xss : List (List Int)) : O := .lst (xss.map tI)
noncomputable def enumO (n : Nat) (o : Option O) : Option Wk := match o with
  | some (.lst ds) => some (.enumL n ds)
  | some (.fro ds) => some (.enumL n ds)
  | _ => none
theorem en_ref : iEnum h (.ref n) = enumO n h[n]? := rfl
theorem enumO_lst : enumO n (some (.lst ds)) = some (.enumL n ds) := rfl
theorem enumO_fro : enumO n (some (.fro ds)) = some (.enumL n ds) := rfl
theorem en_tup : iEnum h (.tup ds) = some (.pure ((List.range ds.length).zipWith (fun i d => .tup [.int (i : Nat), d]) ds)) := rfl
theorem bels_tI : ∀ {xss : List (List Int)}, bels n (xss.map tI) = true
  | [] => by unfold bels; rfl
  | x :: xs => by rw [List.map_cons]; unfold bels bel; rw [bels_int, bels_tI]; rfl
theorem bel_lst : O.bel n (.lst ds) = bels n ds := rfl
theorem bel_dct {kvs : List (DKey × D)} : O.bel n (.dct kvs) = belk n kvs := rfl
noncomputable def slO (o : Option O) (lo hi : Option Int) (h : Hh) : Option (D × Hh) := match o with
  | some (.lst ds) => some (newO h (.lst (cut ds lo hi)))
  | some (.fro ds) => some (newO h (.lst (cut ds lo hi)))
  | _ => none
theorem sl_ref {lo hi : Option Int} : slD (.ref n) lo hi h = slO h[n]? lo hi h := rfl
noncomputable def slsO (o : Option O) (i j : Int) (h : Hh) : Option (D × Hh) := match o with
  | some (.lst ds) => some (.ref h.length, h ++ [.lst (pickL ds i j)])
  | some (.fro ds) => some (.ref h.length, h ++ [.lst (pickL ds i j)])
  | _ => none
theorem slsO_lst {i j : Int} : slsO (some (.lst ds)) i j h = some (.ref h.length, h ++ [.lst (pickL ds i j)]) := rfl
theorem pickL_map {α β : Type} {f : α → β} {xs : List α} {i j : Int} : pickL (xs.map f) i j = (pickL xs i j).map f := by
  unfold pickL
  rw [List.length_map, List.map_filterMap]
  congr 1
  funext k
  rw [List.getElem?_map]
theorem pickL_le {α : Type} {xs : List α} {i j : Int} : (pickL xs i j).length ≤ xs.length := by
  have h := slicePick_size_le (List.replicate xs.length (Value.none)).toArray (some i) none (some j)
  have e : pickL (List.replicate xs.length (Value.none)) i j = (pickL xs i j).map fun _ => Value.none := by
    rw [← pickL_map]
    congr 1
    rw [List.map_const']
  rw [slicePick, List.size_toArray, List.size_toArray, List.length_replicate] at h
  simp only [List.getElem?_toArray] at h
  have e2 : (pickL (List.replicate xs.length (Value.none)) i j).length ≤ xs.length := by
    unfold pickL
    rw [List.length_replicate]
    exact h
  rw [e, List.length_map] at e2
  exact e2
theorem slO_lst {lo hi : Option Int} : slO (some (.lst ds)) lo hi h = some (.ref h.length, h ++ [.lst (cut ds lo hi)]) := rfl
theorem slO_fro {lo hi : Option Int} : slO (some (.fro ds)) lo hi h = some (.ref h.length, h ++ [.lst (cut ds lo hi)]) := rfl
noncomputable def addO (a b : Option O) (h : Hh) : Option (D × Hh) := match a, b with
  | some (.lst xs), some (.lst ys) => if line (xs.length + ys.length) then some (newO h (.lst (xs ++ ys))) else none
  | _, _ => none
theorem add_refs {m : Nat} : binD .Add (.ref m) (.ref n) h = addO h[m]? h[n]? h := rfl
noncomputable def tyO (o : Option O) : Option String := match o with
    | some (.lst _) => some "list"
    | some (.fro _) => some "list"
    | some (.dct _) => some "dict"
    | _ => none
theorem ty_ref : tyD h (.ref n) = tyO h[n]? := rfl
theorem tyO_lst : tyO (some (.lst ds)) = some "list" := rfl
theorem tyO_fro : tyO (some (.fro ds)) = some "list" := rfl
theorem tyO_dct {kvs : List (DKey × D)} : tyO (some (.dct kvs)) = some "dict" := rfl
end
end Y
namespace Y
open PySem PySem.Spec PyProof.Rows Z
/-- the least and the greatest depth that may be next -/
noncomputable def lowf (S : Int) (f : List Int) : Int := if f = [] then 0 else max 0 (last0 f - S)
noncomputable def highf (D S : Int) (f : List Int) : Int := if f = [] then D - 1 else min (D - 1) (last0 f + S)
theorem lowf_ne {S : Int} {f : List Int} (h : f ≠ []) : lowf S f = max 0 (last0 f - S) := if_neg h
theorem highf_ne {D S : Int} {f : List Int} (h : f ≠ []) : highf D S f = min (D - 1) (last0 f + S) := if_neg h
noncomputable def drawn (D S : Int) (f : List Int) (v : Int) : Int := lowf S f + v % (highf D S f - lowf S f + 1)
theorem low_high {D S : Int} {f : List Int} (hD : 1 ≤ D) (hS : 0 ≤ S) (hf : ∀ x ∈ f, 0 ≤ x ∧ x < D) : 0 ≤ lowf S f ∧ highf D S f < D ∧ lowf S f ≤ highf D S f := by
  unfold lowf highf
  split
  · omega
  · rename_i hn
    have := hf _ (last0_mem hn)
    omega
theorem drawn_ok {D S v : Int} {f : List Int} (hD : 1 ≤ D) (hS : 0 ≤ S) (hf : ∀ x ∈ f, 0 ≤ x ∧ x < D) : lowf S f ≤ drawn D S f v ∧ drawn D S f v ≤ highf D S f ∧ 0 ≤ drawn D S f v ∧ drawn D S f v < D := by
  have h1 := low_high hD hS hf
  have h2 := Int.emod_nonneg v (show highf D S f - lowf S f + 1 ≠ 0 by omega)
  have h3 := Int.emod_lt_of_pos v (show 0 < highf D S f - lowf S f + 1 by omega)
  unfold drawn
  omega
end Y
namespace Y
open PySem PySem.Spec PyProof.Rows Z
section
variable {g : G} {elt : E} {tg : Tg} {cond : E} {own : List Nat} {env : Z.Env} {Q : KD} {w : Wk} {H : Hh} {m : Nat}
theorem cpr_any (f : Nat → Option D) (hm : w.items.length = m) (hl : m < 16777216) (hg : ∀ acc, w.guard (H ++ [O.lst acc]))
    (hs : ∀ i (hi : i < w.items.length), i < m → ∀ acc (K : Option D → Hh → Prop), K (f i) (H ++ [O.lst acc]) → stC g elt tg cond own env w.items[i] (H ++ [O.lst acc]) K)
    (hk : Q (.ref H.length) (H ++ [O.lst ((List.range m).filterMap f)])) : kCpr g elt tg cond own env Q w H := by
  rw [k_Cpr]
  refine walkC_pure f rfl (by omega) hg (fun i hi acc K q => hs i hi (by omega) acc K q) ?_
  rw [hm]
  exact hk
end
end Y
namespace Y
open PySem PySem.Spec PyProof.Rows Z
end Y
namespace Y
open PySem PySem.Spec PyProof.Rows Z
end Y
namespace Y
open PySem PySem.Spec PyProof.Rows Z
section
variable {h : Hh} {n : Nat} {ds : List D} {xs : List Int}
noncomputable def ssO (o : Option O) (h : Hh) : Option (D × Hh) := ((seqO o).bind intsOf).bind fun ns => if ns.length < 64 then some (newO h (.lst ((ssort ns).map .int))) else none
theorem un_sset_ref : unD .sset (.ref n) h = ssO h[n]? h := rfl
noncomputable def rvO (o : Option O) (h : Hh) : Option (D × Hh) := (seqO o).map fun ds => newO h (.lst ds.reverse)
theorem un_rev : unD .rev (.ref n) h = rvO h[n]? h := rfl
theorem rvO_lst : rvO (some (.lst ds)) h = some (.ref h.length, h ++ [.lst ds.reverse]) := rfl
theorem un_lrev : unD .lrev (.ref n) h = rvO h[n]? h := rfl
noncomputable def stO (o : Option O) (h : Hh) : Option (D × Hh) := ((seqO o).bind strsOf).bind fun zs => if zs.length < 64 then some (newO h (.lst ((tsrt (uniqT zs)).map .str))) else none
theorem un_ssrt : unD .ssrt (.ref n) h = stO h[n]? h := rfl
noncomputable def lzO (a b : Option O) (h : Hh) : Option (D × Hh) := (seqO a).bind fun xs => (xs.mapM keyOf).bind fun ks => (seqO b).map fun ys => newO h (.lst ((ks.zip ys).map fun p => .tup [ofKey p.1, p.2]))
theorem lz_ref {m n : Nat} : lzipK (.ref m) (.ref n) h = lzO h[m]? h[n]? h := rfl
noncomputable def dzO (a b : Option O) (h : Hh) : Option (D × Hh) := (seqO a).bind fun xs => (xs.mapM keyOf).bind fun ks => (seqO b).map fun ys => newO h (.dct (mergeD [] (ks.zip ys)))
theorem dz_ref {m n : Nat} : dzipD (.ref m) (.ref n) h = dzO h[m]? h[n]? h := rfl
end
end Y
namespace Y
open PySem PySem.Spec PyProof.Rows Z
/-- neighbours no farther apart than S -/
noncomputable def stepOk (S : Int) : List Int → Prop
  | [] => True
  | [_] => True
  | x :: y :: r => -S ≤ x - y ∧ x - y ≤ S ∧ stepOk S (y :: r)
theorem stepOk_snoc {S : Int} : ∀ {xs : List Int} {z : Int}, stepOk S (xs ++ [z]) ↔ stepOk S xs ∧ (xs ≠ [] → -S ≤ last0 xs - z ∧ last0 xs - z ≤ S)
  | [], z => by simp [stepOk]
  | [x], z => by simp [stepOk, last0]
  | x :: y :: r, z => by
    have ih := stepOk_snoc (S := S) (xs := y :: r) (z := z)
    have e : last0 (x :: y :: r) = last0 (y :: r) := by simp [last0]
    rw [e]
    simp only [List.cons_append, stepOk] at ih ⊢
    rw [ih]
    simp [and_assoc]
/-- cuts by rules -/
noncomputable def isC (D S : Int) (P : Nat) (ys : List Int) : Prop := ys.length = P ∧ (∀ y ∈ ys, 0 ≤ y ∧ y < D) ∧ stepOk S ys
section
variable {h : Hh} {i : Int} {ds : List D} {n : Nat}
abbrev tT (xss : List (List Int)) : D := .tup (xss.map tI)
theorem cmp_in {a b : D} : cmpD .In a b h = orN (inD h a b) (inP h a b) := rfl
theorem cmp_nin {a b : D} : cmpD .NotIn a b h = (orN (inD h a b) (inP h a b)).map (!·) := rfl
end
end Y
namespace Y
open PySem PySem.Spec PyProof.Rows Z
section
variable {g : G} {elt : E} {tg : Tg} {cond : E} {own : List Nat} {env : Z.Env} {Q : KD} {w : Wk} {H : Hh} {m : Nat}
theorem filterMap_range {α β : Type} {f : α → Option β} : ∀ {xs : List α}, (List.range xs.length).filterMap (fun i => xs[i]?.bind f) = xs.filterMap f
  | [] => rfl
  | x :: xs => by
    have ih := filterMap_range (f := f) (xs := xs)
    rw [List.length_cons, List.range_succ_eq_map, List.filterMap_cons, List.filterMap_map, List.filterMap_cons]
    have e : ((fun i => (x :: xs)[i]?.bind f) ∘ Nat.succ) = fun i => xs[i]?.bind f := by funext i; simp
    rw [e, ih]
    rfl
/-- a comprehension over what is known -/
theorem cpr_list {α : Type} (xs : List α) (enc : α → D) (f : α → Option D) (hw : w.items = xs.map enc) (hl : xs.length < 16777216) (hg : ∀ acc, w.guard (H ++ [O.lst acc]))
    (hs : ∀ x ∈ xs, ∀ acc (K : Option D → Hh → Prop), K (f x) (H ++ [O.lst acc]) → stC g elt tg cond own env (enc x) (H ++ [O.lst acc]) K)
    (hk : Q (.ref H.length) (H ++ [O.lst (xs.filterMap f)])) : kCpr g elt tg cond own env Q w H := by
  refine cpr_any (m := xs.length) (fun i => xs[i]?.bind f) (by rw [hw, List.length_map]) hl hg (fun i hi hi' acc K q => ?_) ?_
  · have e : w.items[i] = enc xs[i] := by simp [hw]
    rw [e]
    rw [List.getElem?_eq_getElem hi'] at q
    exact hs _ (List.getElem_mem _) acc K q
  · rw [filterMap_range]; exact hk
/-- over range(..) -/
theorem cpr_range (f : Nat → Int) (hw : w.items = (List.range m).map fun i => .int (i : Nat)) (hl : m < 16777216) (hg : ∀ acc, w.guard (H ++ [O.lst acc]))
    (hs : ∀ i, i < m → ∀ acc (K : Option D → Hh → Prop), K (some (.int (f i))) (H ++ [O.lst acc]) → stC g elt tg cond own env (.int (i : Nat)) (H ++ [O.lst acc]) K)
    (hk : Q (.ref H.length) (H ++ [lI ((List.range m).map f)])) : kCpr g elt tg cond own env Q w H := by
  refine cpr_list (List.range m) (fun i => .int (i : Nat)) (fun i => some (.int (f i))) hw (by simpa using hl) hg (fun i hi => hs i (List.mem_range.mp hi)) ?_
  have e : (List.range m).filterMap (fun x => some (D.int (f x))) = ((List.range m).map f).map .int := by
    generalize List.range m = xs
    induction xs with
    | nil => rfl
    | cons x xs ih => simp_all
  rw [e]
  exact hk
end
end Y
namespace Y
open PySem PySem.Spec PyProof.Rows Z
section
variable {α : Type} {xs : List α} {enc : α → D} {good : α → Prop} {I : Z.Env → Hh → Prop} {step : D → Z.Env → Hh → (Z.Env → Hh → Prop) → Prop} {k : Z.Env → Hh → Prop} {env : Z.Env} {h : Hh}
/-- a loop that goes on as long as each thing is good -/
theorem walk_all_g {gd : Hh → Prop} {ds : List D} (hd : ds = xs.map enc) (hg : ∀ env h, I env h → gd h) (h0 : I env h)
    (hs : ∀ x, x ∈ xs → ∀ env h, I env h → ∀ K : Z.Env → Hh → Prop, (good x → ∀ env' h', I env' h' → K env' h') → step (enc x) env h K)
    (hk : (∀ x, x ∈ xs → good x) → ∀ env h, I env h → k env h) : walk gd step k ds env h := by
  subst hd
  refine walk_rule (I := fun i env h => I env h ∧ ∀ j (hj : j < xs.length), j < i → good xs[j]) ⟨h0, fun j _ hj => by omega⟩ (fun i env h _ z => hg env h z.1) ?_ ?_
  · rintro i env h hi ⟨z, hI⟩ K hK
    have hi' : i < xs.length := by simpa using hi
    rw [List.getElem_map]
    refine hs _ (List.getElem_mem _) env h z K fun hx env' h' z' => hK env' h' ⟨z', fun j hj hji => ?_⟩
    by_cases e : j = i
    · subst e; exact hx
    · exact hI j hj (by omega)
  · rintro env h ⟨z, hI⟩
    refine hk (fun x hx => ?_) env h z
    obtain ⟨j, hj, rfl⟩ := List.getElem_of_mem hx
    exact hI j hj (by simpa using hj)
theorem walk_all (h0 : I env h)
    (hs : ∀ x, x ∈ xs → ∀ env h, I env h → ∀ K : Z.Env → Hh → Prop, (good x → ∀ env' h', I env' h' → K env' h') → step (enc x) env h K)
    (hk : (∀ x, x ∈ xs → good x) → ∀ env h, I env h → k env h) : walk (Wk.pure (xs.map enc)).guard step k (xs.map enc) env h :=
  walk_all_g rfl (fun _ _ _ => trivial) h0 hs hk
theorem walk_allL {n : Nat} {ds : List D} (hd : ds = xs.map enc) (hg : ∀ env h, I env h → h[n]? = some (.lst ds)) (h0 : I env h)
    (hs : ∀ x, x ∈ xs → ∀ env h, I env h → ∀ K : Z.Env → Hh → Prop, (good x → ∀ env' h', I env' h' → K env' h') → step (enc x) env h K)
    (hk : (∀ x, x ∈ xs → good x) → ∀ env h, I env h → k env h) : walk (Wk.ofL n ds).guard step k ds env h :=
  walk_all_g hd (fun env h z => .inl (hg env h z)) h0 hs hk
/-- .. over pairs -/
theorem walk_zip {β : Type} {ys : List β} {f : α → D} {g : β → D} {good : α → β → Prop} (h0 : I env h) (hl : xs.length = ys.length)
    (hs : ∀ i (hi : i < xs.length) (hj : i < ys.length), ∀ env h, I env h → ∀ K : Z.Env → Hh → Prop, (good xs[i] ys[i] → ∀ env' h', I env' h' → K env' h') → step (.tup [f xs[i], g ys[i]]) env h K)
    (hk : (∀ i (hi : i < xs.length) (hj : i < ys.length), good xs[i] ys[i]) → ∀ env h, I env h → k env h) :
    walk (Wk.pure (List.zipWith (fun a b => .tup [a, b]) (xs.map f) (ys.map g))).guard step k (List.zipWith (fun a b => .tup [a, b]) (xs.map f) (ys.map g)) env h := by
  refine walk_rule (I := fun i env h => I env h ∧ ∀ j (hi : j < xs.length) (hj : j < ys.length), j < i → good xs[j] ys[j]) ⟨h0, fun j _ _ hj => by omega⟩ (fun _ _ _ _ _ => trivial) ?_ ?_
  · rintro i env h hi ⟨z, hI⟩ K hK
    have hi' : i < xs.length := by simp at hi; omega
    have hj' : i < ys.length := by omega
    simp only [List.getElem_zipWith, List.getElem_map]
    refine hs i hi' hj' env h z K fun hx env' h' z' => hK env' h' ⟨z', fun j h1 h2 hji => ?_⟩
    by_cases e : j = i
    · subst e; exact hx
    · exact hI j h1 h2 (by omega)
  · rintro env h ⟨z, hI⟩
    refine hk (fun j h1 h2 => hI j h1 h2 ?_) env h z
    simp; omega
end
end Y
namespace Y
open PySem PySem.Spec PyProof.Rows Z
theorem walk_cons {gd : Hh → Prop} {step : D → Z.Env → Hh → (Z.Env → Hh → Prop) → Prop} {k : Z.Env → Hh → Prop} {d : D} {ds : List D} {env : Z.Env} {h : Hh} : walk gd step k (d :: ds) env h = (gd h ∧ step d env h (walk gd step k ds)) := id rfl
theorem walk_nil {gd : Hh → Prop} {step : D → Z.Env → Hh → (Z.Env → Hh → Prop) → Prop} {k : Z.Env → Hh → Prop} {env : Z.Env} {h : Hh} : walk gd step k [] env h = (gd h ∧ k env h) := id rfl
theorem guard_ofL {n : Nat} {ds : List D} {h : Hh} : (Wk.ofL n ds).guard h = (h[n]? = some (.lst ds) ∨ h[n]? = some (.fro ds)) := rfl
theorem items_ofL {n : Nat} {ds : List D} : (Wk.ofL n ds).items = ds := rfl
end Y
namespace Y
open PySem PySem.Spec PyProof.Rows Z
section
variable {h : Hh} {n : Nat} {ds : List D} {j : Int}
noncomputable def mulO (n : Nat) (o : Option O) (k : Int) (h : Hh) : Option (D × Hh) := match o with
  | some (.lst xs) => if decide (-(2 ^ 63) ≤ k) && decide (k < 2 ^ 63) && line (xs.length * k.toNat) then some (newO h (.lst (List.replicate k.toNat xs).flatten)) else none
  | _ => none
theorem mul_ref {k : Int} : binD .Mult (.ref n) (.int k) h = mulO n h[n]? k h := by
  cases e : h[n]? with
  | none => simp only [binD, e, mulO]
  | some o => cases o <;> simp only [binD, e, mulO]
theorem mulO_lst {k : Int} (h0 : 0 ≤ k) (h1 : k < 1000000) (hl : ds.length ≤ 10) : mulO n (some (.lst ds)) k h = some (.ref h.length, h ++ [.lst (List.replicate k.toNat ds).flatten]) := by
  refine if_pos ?_
  rw [decide_eq_true (show -(2^63) ≤ k by omega), decide_eq_true (show k < 2^63 by omega)]
  have : ds.length * k.toNat ≤ 10 * 1000000 := Nat.mul_le_mul hl (by omega)
  exact line_ok (by omega)
theorem mul_lst {k : Int} : binD .Mult (.ref n) (.int k) h = mulO n h[n]? k h := mul_ref
end
end Y
namespace Y
open PySem PySem.Spec PyProof.Rows Z
end Y
namespace Y
open PySem PySem.Spec PyProof.Rows Z
section
variable {h : Hh} {n : Nat} {xs : List Int} {o : Option (List Int)}
end
end Y
namespace Y
open PySem PySem.Spec PyProof.Rows Z
section
variable {h t : Hh} {d : D} {ds es : List D}
theorem bin_addtupD (hl : ds.length + es.length ≤ 16777216) : binD .Add (.tup ds) (.tup es) h = some (.tup (ds ++ es), h) := if_pos (line_ok hl)
theorem atI_mem {α : Type} {xs : List α} {i : Int} (h0 : 0 ≤ i) (h1 : i < xs.length) : ∃ x, x ∈ xs ∧ L2.atI xs i = some x :=
  ⟨xs[i.toNat]'(by omega), List.getElem_mem _, by rw [atI_of h0 h1, List.getElem?_eq_getElem (by omega)]⟩
/-- a thing whose kind is known, and so its items, if it is a tuple -/
noncomputable def tyOk (h : Hh) (d : D) : Prop := tyD h d ≠ none ∧ ∀ ds, d = .tup ds → ∀ x, x ∈ ds → tyD h x ≠ none
theorem tyO_cases {o : Option O} {s : String} (e : tyO o = some s) : s = "list" ∨ s = "dict" := by
  unfold tyO at e
  split at e <;> first | (cases e; simp) | cases e
theorem ty_cut (hb : bel h.length d = true) (e : tyD (h ++ t) d ≠ none) : tyD h d ≠ none := by
  cases d with
  | ref k =>
    rw [bel_ref, decide_eq_true_eq] at hb
    rw [ty_ref] at e ⊢
    rwa [h_old hb] at e
  | _ => exact fun z => nomatch z
theorem bels_mem : ∀ {ds : List D} {n : Nat}, bels n ds = true → ∀ x, x ∈ ds → bel n x = true
  | [], _, _, x, hx => nomatch hx
  | d :: ds, n, e, x, hx => by
    rw [bels_cons, Bool.and_eq_true] at e
    rcases List.mem_cons.mp hx with rfl | hx
    · exact e.1
    · exact bels_mem e.2 x hx
theorem gc_ty (e : tyOk (h ++ t) d) : gcQ h (fun d h' => ∃ t, h' = h ++ t ∧ tyOk h' d) d (h ++ t) := by
  unfold gcQ gcv
  rw [if_pos (List.prefix_append _ _)]
  split
  · rename_i hb
    refine ⟨[], by simp, ty_cut hb e.1, fun ds hd x hx => ?_⟩
    subst hd
    exact ty_cut (bels_mem (by rwa [bel_tup] at hb) x hx) (e.2 ds rfl x hx)
  · cases d with
    | ref k =>
      simp only
      cases ho : (h ++ t)[k]? with
      | none => exact ⟨t, rfl, e⟩
      | some o =>
        simp only
        split
        · refine ⟨[o], rfl, ?_, fun ds hd => nomatch hd⟩
          have := e.1
          rw [ty_ref, ho] at this
          rw [ty_ref, h_at0]
          exact this
        · exact ⟨t, rfl, e⟩
    | _ => exact ⟨t, rfl, e⟩
theorem ty_lst {k : Nat} (e : h[k]? = some (.lst ds)) : tyD h (.ref k) ≠ none := by rw [ty_ref, e]; exact fun z => nomatch z
end
end Y
/-! ### texts, by their signs -/
namespace Y
open PySem PySem.Spec PyProof.Rows Z
/-- the text of these signs -/
abbrev tS (l : List Nat) : D := .str (SX.S l)
/-- signs that there are -/
noncomputable def okL (l : List Nat) : Prop := ∀ c ∈ l, c < 1114112
section
variable {h : Hh} {l m a b : List Nat} {c : Nat} {n : Nat} {z x y : Str} {i : Int} {ps : List (List Nat)} {ds : List D}
end
theorem obind_some {α β : Type} {f : α → Option β} {a : α} : (some a).bind f = f a := rfl
theorem belk_nil {κ : Type} {n : Nat} : belk n ([] : List (κ × D)) = true := by unfold belk; rfl
theorem belk_cons {κ : Type} {n : Nat} {f : κ} {d : D} {r : List (κ × D)} : belk n ((f, d) :: r) = (bel n d && belk n r) := by conv => lhs; unfold belk
noncomputable def fldO (f : Str) (o : Option O) (h : Hh) : Option (D × Hh) := match o with
  | some (.exc _ fs) => (fs.lookup f).map (·, h)
  | some (.ins _ fs) => (fs.lookup f).map (·, h)
  | _ => none
theorem fld_ref {h : Hh} {n : Nat} {f : Str} : fldD f (.ref n) h = fldO f h[n]? h := rfl
theorem fldO_exc {h : Hh} {f c : Str} {fs : List (Str × D)} : fldO f (some (.exc c fs)) h = (fs.lookup f).map (·, h) := rfl
theorem fldO_ins {h : Hh} {f c : Str} {fs : List (Str × D)} : fldO f (some (.ins c fs)) h = (fs.lookup f).map (·, h) := rfl
noncomputable def isxO (cs : List Str) (o : Option O) : Option Bool := match o with
  | some (.exc c _) => some (cs.any (excSub c))
  | _ => none
theorem isx_ref {h : Hh} {n : Nat} {cs : List Str} : isxD cs (.ref n) h = isxO cs h[n]? := rfl
theorem un_revT {h : Hh} {ds : List D} : unD .rev (.tup ds) h = some (.tup ds.reverse, h) := rfl
/-! ### things of some kinds -/
section
variable {h t : Hh} {d : D} {n m k : Nat}
/-- flat: none, a truth, a number, a text -/
noncomputable def fl (d : D) : Prop := d = .non ∨ (∃ b, d = .bl b) ∨ (∃ i, d = .int i) ∨ ∃ l, d = tS l ∧ okL l
/-- flat, a tuple of flat ones, a list of numbers -/
noncomputable def pn (h : Hh) (d : D) : Prop := fl d ∨ (∃ ds, d = .tup ds ∧ ∀ x ∈ ds, fl x) ∨ ∃ k ns, d = .ref k ∧ h[k]? = some (lI ns)
/-- flat, a tuple of such ones, a list, a dict -/
noncomputable def tg (h : Hh) (d : D) : Prop := fl d ∨ (∃ ds, d = .tup ds ∧ ∀ x ∈ ds, pn h x) ∨ ∃ k, d = .ref k ∧ tyD h d ≠ none
end
section
variable {h : Hh} {l a b : List Nat} {i k : Int} {n : Nat} {d x y : D} {z : Str}
end
end Y
namespace Y
open PySem PySem.Spec PyProof.Rows Z
section
variable {g : G} {elt cond : E} {tg : Tg} {own : List Nat} {env : Z.Env} {Q : KD} {w : Wk} {H : Hh}
end
theorem mpop_k : metK .pop (.ref n) h = isO h[n]? := rfl
noncomputable def popOf (o : Option O) (n : Nat) (i : Int) (h : Hh) : Option (D × Hh) := match o with
  | some (.lst xs) => if decide (0 ≤ i) && decide (i < 2 ^ 63) then (xs[i.toNat]?).map fun d => (d, h.set n (.lst (xs.eraseIdx i.toNat))) else none
  | _ => none
theorem mpop : metD .pop (.ref n) [.int i] h = popOf h[n]? n i h := rfl
theorem mins_k : metK .insert (.ref n) h = isO h[n]? := rfl
noncomputable def insOf (o : Option O) (n : Nat) (i : Int) (d : D) (h : Hh) : Option (D × Hh) := match o with
  | some (.lst xs) => if decide (xs.length < sizeLine) && (decide (0 ≤ i) && decide (i < 2 ^ 63)) then some (.non, h.set n (.lst (xs.take i.toNat ++ [d] ++ xs.drop i.toNat))) else none
  | _ => none
theorem mins {d : D} : metD .insert (.ref n) [.int i, d] h = insOf h[n]? n i d h := rfl
end Y

namespace Y
open PySem PySem.Spec PyProof.Rows Z
/-! ### dicts by whole numbers -/
abbrev fD (pin : List Int) (f : Int → Int) : List (DKey × D) := pin.map fun k => (Sum.inl k, D.int (f k))
noncomputable def sumF (f : Int → Int) : List Int → Int
  | [] => 0
  | x :: xs => f x + sumF f xs
section
variable {h : Hh} {n m : Nat} {i k : Int} {pin : List Int} {f : Int → Int} {v : D} {kvs : List (DKey × D)} {o p : O} {t : Hh}
theorem ixO_dct : ixO (some (.dct kvs)) i h = (valD kvs (.inl i)).map (·, h) := rfl
theorem ixO_dfr : ixO (some (.dfr kvs)) i h = (valD kvs (.inl i)).map (·, h) := rfl
noncomputable def ksK (h : Hh) (ds : List D) : Option (D × Hh) := if ds.length < 64 then (srtK ds).map fun ds => newO h (.lst ds) else none
theorem ksO_l {ds : List D} : ksO h (some (.lst ds)) = ksK h ds := rfl
noncomputable def iskO (t : Str) (o : Option O) : Option Bool := match o with
  | some (.ins c _) => some (insSub c t)
  | _ => none
theorem isk_ref {t : Str} {n : Nat} : iskD t (.ref n) h = iskO t h[n]? := rfl
theorem iskO_ins {t c : Str} {fs : List (Str × D)} : iskO t (some (.ins c fs)) = some (insSub c t) := rfl
noncomputable def inK (o : Option O) (k : Int) : Option Bool := match o with
  | some (.lst ds) => if ds.all flatD then some (ds.any fun y => eqF y (.int k)) else none
  | some (.fro ds) => if ds.all flatD then some (ds.any fun y => eqF y (.int k)) else none
  | some (.dct kvs) => some (valD kvs (.inl k)).isSome
  | some (.dfr kvs) => some (valD kvs (.inl k)).isSome
  | _ => none
theorem inK_dct : inK (some (.dct kvs)) k = some (valD kvs (.inl k)).isSome := rfl
theorem inK_dfr : inK (some (.dfr kvs)) k = some (valD kvs (.inl k)).isSome := rfl
theorem irev_tup {ds : List D} : iRev h (.tup ds) = some (.pure ds.reverse) := rfl
theorem hs_ne (hne : m ≠ n) : (h.set m o)[n]? = h[n]? := List.getElem?_set_ne hne
end
/-- the heap but for what is above -/
theorem ap_set {h t : Hh} {m : Nat} {o : O} (hm : h.length ≤ m) : ∃ t', (h ++ t).set m o = h ++ t' := ⟨t.set (m - h.length) o, List.set_append_right _ _ hm⟩
end Y

/-! ### ways through pins -/
namespace Y
open PySem PySem.Spec PyProof.Rows Z
/-! ### sums, ways -/
noncomputable def near (s o k : Int) : Bool := decide ((((o - k).natAbs : Int)) ≤ s)
/-- the ways on from a height of the first pin -/
noncomputable def ways (s : Int) : List (List Int) → Int → Int
  | [] => fun _ => 1
  | q :: r => fun k => sumF (ways s r) (q.filter fun o => near s o k)
/-- how many: from the first pin on -/
noncomputable def count (s : Int) : List (List Int) → Int
  | [] => 0
  | p :: r => sumF (ways s r) p
end Y
namespace Y
open PySem PySem.Spec PyProof.Rows Z
noncomputable def isTabs (s : Int) (G : Hh) : List (List Int) → List Nat → Prop
  | [], [] => True
  | p :: b, r :: rs => G[r]? = some (.dct (fD p (ways s b))) ∧ isTabs s G b rs
  | _, _ => False
theorem isTabs.mono {s : Int} {G G' : Hh} : ∀ {b : List (List Int)} {rs : List Nat}, isTabs s G b rs → (∀ r ∈ rs, G'[r]? = G[r]?) → isTabs s G' b rs
  | [], [], _, _ => trivial
  | p :: b, r :: rs, h, e => ⟨by rw [e r (by simp)]; exact h.1, isTabs.mono h.2 fun x hx => e x (by simp [hx])⟩
  | [], _ :: _, h, _ => h.elim
  | _ :: _, [], h, _ => h.elim
theorem isTabs.len {s : Int} {G : Hh} : ∀ {b : List (List Int)} {rs : List Nat}, isTabs s G b rs → rs.length = b.length
  | [], [], _ => rfl
  | p :: b, r :: rs, h => by rw [List.length_cons, List.length_cons, isTabs.len h.2]
  | [], _ :: _, h => h.elim
  | _ :: _, [], h => h.elim
noncomputable def Ex (h G : Hh) : Prop := ∃ t, G = h ++ t
theorem Ex.rfl {h : Hh} : Ex h h := ⟨[], by simp⟩
theorem Ex.trans {h G H : Hh} (a : Ex h G) (b : Ex G H) : Ex h H := by
  obtain ⟨t, rfl⟩ := a
  obtain ⟨u, rfl⟩ := b
  exact ⟨t ++ u, List.append_assoc ..⟩
theorem Ex.set {h G : Hh} {m : Nat} {o : O} (e : Ex h G) (hm : h.length ≤ m) : Ex h (G.set m o) := by
  obtain ⟨u, rfl⟩ := e
  exact ap_set hm
theorem Ex.le {h G : Hh} (e : Ex h G) : h.length ≤ G.length := by
  obtain ⟨u, rfl⟩ := e
  simp
end Y

namespace Y
open PySem PySem.Spec PyProof.Rows Z
/-! ### pins, as tuples or lists -/
noncomputable def pinOk (h : Hh) (d : D) (p : List Int) : Prop := d = tI p ∨ ∃ m, d = .ref m ∧ h[m]? = some (lI p)
inductive PinsOk (h : Hh) : List D → List (List Int) → Prop
  | nil : PinsOk h [] []
  | cons {d : D} {p : List Int} {ds : List D} {b : List (List Int)} : pinOk h d p → PinsOk h ds b → PinsOk h (d :: ds) (p :: b)
noncomputable def pinsOk (h : Hh) (d : D) (b : List (List Int)) : Prop := ∃ ds, (d = .tup ds ∨ ∃ m, d = .ref m ∧ h[m]? = some (.lst ds)) ∧ PinsOk h ds b
theorem PinsOk.len {h : Hh} : ∀ {ds : List D} {b : List (List Int)}, PinsOk h ds b → ds.length = b.length
  | _, _, .nil => rfl
  | _, _, .cons _ t => by rw [List.length_cons, List.length_cons, t.len]
theorem PinsOk.at {h : Hh} : ∀ {ds : List D} {b : List (List Int)}, PinsOk h ds b → ∀ {i : Nat} {d : D} {p : List Int}, ds[i]? = some d → b[i]? = some p → pinOk h d p
  | _, _, .nil, i, d, p, e, _ => by simp at e
  | _, _, .cons h _, 0, d, p, e, e2 => by
    have e := Option.some.inj e
    have e2 := Option.some.inj e2
    subst e e2
    exact h
  | _, _, .cons _ t, i + 1, d, p, e, e2 => t.at (i := i) (by simpa using e) (by simpa using e2)
theorem PinsOk.tT {h : Hh} : ∀ {b : List (List Int)}, PinsOk h (b.map tI) b
  | [] => .nil
  | p :: b => .cons (.inl rfl) PinsOk.tT
theorem pinsOk.tT {h : Hh} {b : List (List Int)} : pinsOk h (Y.tT b) b := ⟨_, .inl rfl, PinsOk.tT⟩
theorem PinsOk.snoc {h : Hh} {d : D} {p : List Int} : ∀ {ds : List D} {b : List (List Int)}, PinsOk h ds b → pinOk h d p → PinsOk h (ds ++ [d]) (b ++ [p])
  | _, _, .nil, q => .cons q .nil
  | _, _, .cons h t, q => .cons h (t.snoc q)
theorem pinOk.mono {h G : Hh} {d : D} {p : List Int} (e : Ex h G) (q : pinOk h d p) : pinOk G d p := by
  obtain ⟨t, rfl⟩ := e
  exact q.imp id fun ⟨m, h1, h2⟩ => ⟨m, h1, by rw [h_old (lt_of_at h2)]; exact h2⟩
theorem PinsOk.mono {h G : Hh} (e : Ex h G) : ∀ {ds : List D} {b : List (List Int)}, PinsOk h ds b → PinsOk G ds b
  | _, _, .nil => .nil
  | _, _, .cons h t => .cons (h.mono e) (t.mono e)
theorem pinOk.wk {h G : Hh} {d : D} {p : List Int} (q : pinOk h d p) (e : Ex h G) : ∃ w, wkOf G d = some w ∧ w.items = p.map .int ∧ ∀ G', Ex h G' → w.guard G' := by
  rcases q with rfl | ⟨m, rfl, hm⟩
  · exact ⟨.pure (p.map .int), rfl, rfl, fun _ _ => trivial⟩
  · have look : ∀ G', Ex h G' → G'[m]? = some (lI p) := fun G' ⟨t, et⟩ => by rw [et, h_old (lt_of_at hm)]; exact hm
    exact ⟨.ofL m (p.map .int), by show (match G[m]? with | some (.lst ds) => some (Wk.ofL m ds) | some (.fro ds) => some (.ofL m ds) | _ => none) = _; rw [look G e], rfl, fun G' e' => .inl (look G' e')⟩
/-- a walk's guard, kept by one place -/
noncomputable def Kp (w : Wk) (s : Nat) (o : O) (G : Hh) : Prop := (∀ G', w.guard G') ∨ (G[s]? = some o ∧ ∀ G', G'[s]? = some o → w.guard G')
theorem Kp.g {w : Wk} {s : Nat} {o : O} {G : Hh} (k : Kp w s o G) : w.guard G := k.elim (fun h => h G) fun h => h.2 G h.1
theorem Kp.set {w : Wk} {s m : Nat} {o p q : O} {G : Hh} (k : Kp w s o G) (e : G[m]? = some p) (ne : p ≠ o) : Kp w s o (G.set m q) := k.imp id fun h => ⟨by
  rw [hs_ne fun z => ?_]
  · exact h.1
  · rw [z, h.1] at e
    exact ne (Option.some.inj e).symm, h.2⟩
end Y
namespace Y
open PySem PySem.Spec PyProof.Rows Z
theorem sumF_nn {f : Int → Int} (hf : ∀ x, 0 ≤ f x) : ∀ {xs : List Int}, 0 ≤ sumF f xs
  | [] => by simp [sumF]
  | x :: xs => by
    show 0 ≤ f x + sumF f xs
    have := hf x
    have := sumF_nn hf (xs := xs)
    omega
theorem sumF_ge {f : Int → Int} (hf : ∀ x, 0 ≤ f x) : ∀ {xs : List Int} {x : Int}, x ∈ xs → f x ≤ sumF f xs
  | y :: xs, x, h => by
    show f x ≤ f y + sumF f xs
    have h0 := sumF_nn hf (xs := xs)
    have h2 := hf y
    rcases List.mem_cons.mp h with rfl | h
    · omega
    · have := sumF_ge hf h
      omega
theorem ways_nn {S : Int} : ∀ {b : List (List Int)} {k : Int}, 0 ≤ ways S b k
  | [], _ => by show (0 : Int) ≤ 1; omega
  | q :: b, k => sumF_nn fun x => ways_nn
/-- each one is of its pin -/
noncomputable def Op : List (List Int) → List Int → Prop
  | [], [] => True
  | p :: b, y :: ys => y ∈ p ∧ Op b ys
  | _, _ => False
theorem Op.of : ∀ {b : List (List Int)} {ys : List Int}, ys.length = b.length → (∀ (i : Nat) (p : List Int) (y : Int), b[i]? = some p → ys[i]? = some y → y ∈ p) → Op b ys
  | [], [], _, _ => trivial
  | p :: b, y :: ys, hl, h => ⟨h 0 p y rfl rfl, Op.of (by simpa using hl) fun i p y h1 h2 => h (i + 1) p y (by simpa using h1) (by simpa using h2)⟩
  | [], _ :: _, h, _ => by simp at h
  | _ :: _, [], h, _ => by simp at h
theorem Op.ways {S : Int} : ∀ {b : List (List Int)} {ys : List Int} {x : Int}, Op b ys → stepOk S (x :: ys) → 1 ≤ ways S b x
  | [], [], x, _, _ => by show (1 : Int) ≤ 1; omega
  | p :: b, y :: ys, x, h, s => by
    have s2 : -S ≤ x - y ∧ x - y ≤ S ∧ stepOk S (y :: ys) := s
    have h1 := Op.ways h.2 s2.2.2
    have hm : y ∈ p.filter fun o => near S o x := List.mem_filter.mpr ⟨h.1, by unfold near; rw [decide_eq_true_eq]; omega⟩
    have h2 := sumF_ge (f := Y.ways S b) (fun x => ways_nn) hm
    show 1 ≤ sumF (Y.ways S b) (p.filter fun o => near S o x)
    omega
  | [], _ :: _, _, h, _ => h.elim
  | _ :: _, [], _, h, _ => h.elim
theorem Op.count {S : Int} {b : List (List Int)} {ys : List Int} (hne : b ≠ []) (h : Op b ys) (s : stepOk S ys) : 1 ≤ count S b := by
  cases b with
  | nil => exact absurd rfl hne
  | cons p b =>
    cases ys with
    | nil => exact h.elim
    | cons y ys =>
      have h1 := Op.ways h.2 s
      have h2 := sumF_ge (f := Y.ways S b) (fun x => ways_nn) h.1
      show 1 ≤ sumF (Y.ways S b) p
      omega
theorem PinsOk.set {G : Hh} {m : Nat} {o : O} : ∀ {rs : List Nat} {b : List (List Int)}, (∀ r ∈ rs, r ≠ m) → PinsOk G (rs.map D.ref) b → PinsOk (G.set m o) (rs.map D.ref) b
  | [], _, _, .nil => .nil
  | r :: rs, _, hr, .cons h t => by
    refine .cons ?_ (PinsOk.set (fun x hx => hr x (by simp [hx])) t)
    rcases h with h | ⟨k, h1, h2⟩
    · cases h
    · have e : r = k := by injection h1
      exact .inr ⟨k, h1, by rw [hs_ne (fun z => hr r (by simp) (e.trans z.symm))]; exact h2⟩
end Y
namespace Y
open PySem PySem.Spec PyProof.Rows Z
theorem isTabs.at {s : Int} {G : Hh} : ∀ {b : List (List Int)} {rs : List Nat} {i : Nat} {r : Nat}, isTabs s G b rs → rs[i]? = some r → ∃ p b', b.drop i = p :: b' ∧ G[r]? = some (.dct (fD p (ways s b')))
  | [], [], i, r, _, e => by simp at e
  | p :: b, x :: rs, 0, r, h, e => by
    have e := Option.some.inj e
    subst e
    exact ⟨p, b, rfl, h.1⟩
  | p :: b, x :: rs, i + 1, r, h, e => isTabs.at (i := i) h.2 (by simpa using e)
  | [], _ :: _, _, _, h, _ => h.elim
  | _ :: _, [], _, _, h, _ => h.elim
end Y


set_option Elab.async false
set_option linter.all false
set_option maxRecDepth 100000
set_option maxHeartbeats 1000000
/-! Z, part HA: names, lists of names, rows of a name and a list of names, houses. -/
namespace Y
open PySem PySem.Spec PyProof.Rows Z
theorem Ex.at {h G : Hh} (e : Ex h G) {k : Nat} {o : O} (q : h[k]? = some o) : G[k]? = some o := by
  obtain ⟨t, rfl⟩ := e
  rw [h_old (lt_of_at q)]
  exact q
theorem Ex.of {h t : Hh} : Ex h (h ++ t) := ⟨t, Eq.refl _⟩
/-- a list of names -/
abbrev lS (xs : List (List Nat)) : O := .lst (xs.map fun p => .str (SX.S p))
section
variable {h : Hh} {a b : List Nat} {n : Nat} {xs ys : List (List Nat)}
end
noncomputable def isLow (l : List Nat) : Prop := ∀ c ∈ l, 97 ≤ c ∧ c ≤ 122
instance {l : List Nat} : Decidable (isLow l) := inferInstanceAs (Decidable (∀ c ∈ l, 97 ≤ c ∧ c ≤ 122))
theorem isLow.ok {l : List Nat} (h : isLow l) : okL l := fun c hc => by have := (h c hc).2; omega
theorem cut_sub {α : Type} {xs : List α} {lo hi : Option Int} {x : α} (h : x ∈ cut xs lo hi) : x ∈ xs := List.mem_of_mem_drop (List.mem_of_mem_take h)
/-! ### rows -/
abbrev NRow := List Nat × List (List Nat)
/-- rows, their lists laid from n on -/
noncomputable def isRows (n : Nat) (G : Hh) : List D → List NRow → Prop
  | [], [] => True
  | d :: ds, r :: rs => (∃ k, n ≤ k ∧ d = .tup [tS r.1, .ref k] ∧ G[k]? = some (lS r.2)) ∧ isRows n G ds rs
  | _, _ => False
section
variable {n m : Nat} {G H : Hh}
theorem isRows.mono (q : ∀ k o, n ≤ k → G[k]? = some o → H[k]? = some o) : ∀ {ds : List D} {rs : List NRow}, isRows n G ds rs → isRows n H ds rs
  | [], [], _ => trivial
  | d :: ds, r :: rs, ⟨⟨k, h0, h1, h2⟩, t⟩ => ⟨⟨k, h0, h1, q k _ h0 h2⟩, isRows.mono q t⟩
  | [], _ :: _, h => h.elim
  | _ :: _, [], h => h.elim
theorem isRows.ex (e : Ex G H) {ds : List D} {rs : List NRow} (h : isRows n G ds rs) : isRows n H ds rs := h.mono fun _ _ _ q => e.at q
theorem isRows.len : ∀ {ds : List D} {rs : List NRow}, isRows n G ds rs → ds.length = rs.length
  | [], [], _ => rfl
  | d :: ds, r :: rs, ⟨_, t⟩ => by rw [List.length_cons, List.length_cons, isRows.len t]
  | [], _ :: _, h => h.elim
  | _ :: _, [], h => h.elim
theorem isRows.snoc {k : Nat} {r : NRow} (h0 : n ≤ k) (h2 : G[k]? = some (lS r.2)) : ∀ {ds : List D} {rs : List NRow}, isRows n G ds rs → isRows n G (ds ++ [.tup [tS r.1, .ref k]]) (rs ++ [r])
  | [], [], _ => ⟨⟨k, h0, rfl, h2⟩, trivial⟩
  | d :: ds, r :: rs, ⟨q, t⟩ => ⟨q, isRows.snoc h0 h2 t⟩
  | [], _ :: _, h => h.elim
  | _ :: _, [], h => h.elim
theorem isRows.at : ∀ {ds : List D} {rs : List NRow}, isRows n G ds rs → ∀ {i : Nat} (hi : i < ds.length) (hj : i < rs.length), ∃ k, n ≤ k ∧ ds[i] = .tup [tS rs[i].1, .ref k] ∧ G[k]? = some (lS rs[i].2)
  | d :: ds, r :: rs, ⟨q, t⟩, 0, _, _ => q
  | d :: ds, r :: rs, ⟨q, t⟩, i + 1, hi, hj => isRows.at t (i := i) (by simpa using hi) (by simpa using hj)
  | [], [], _, _, hi, _ => absurd hi (by simp)
  | [], _ :: _, h, _, _, _ => h.elim
  | _ :: _, [], h, _, _, _ => h.elim
theorem isRows.cut (a b : Nat) : ∀ {ds : List D} {rs : List NRow}, isRows n G ds rs → isRows n G ((ds.drop a).take b) ((rs.drop a).take b) := by
  have dr : ∀ (a : Nat) {ds : List D} {rs : List NRow}, isRows n G ds rs → isRows n G (ds.drop a) (rs.drop a) := by
    intro a
    induction a with
    | zero => exact fun h => h
    | succ a ih =>
      intro ds rs h
      cases ds with
      | nil => cases rs with
        | nil => exact trivial
        | cons _ _ => exact h.elim
      | cons d ds => cases rs with
        | nil => exact h.elim
        | cons r rs => exact ih h.2
  have tk : ∀ (b : Nat) {ds : List D} {rs : List NRow}, isRows n G ds rs → isRows n G (ds.take b) (rs.take b) := by
    intro b
    induction b with
    | zero => exact fun _ => trivial
    | succ b ih =>
      intro ds rs h
      cases ds with
      | nil => cases rs with
        | nil => exact trivial
        | cons _ _ => exact h.elim
      | cons d ds => cases rs with
        | nil => exact h.elim
        | cons r rs => exact ⟨h.1, ih h.2⟩
  intro ds rs h
  exact tk b (dr a h)
theorem isRows.rev : ∀ {ds : List D} {rs : List NRow}, isRows n G ds rs → isRows n G ds.reverse rs.reverse
  | [], [], _ => trivial
  | d :: ds, r :: rs, ⟨⟨k, h0, h1, h2⟩, t⟩ => by
    rw [List.reverse_cons, List.reverse_cons, h1]
    exact (isRows.rev t).snoc h0 h2
  | [], _ :: _, h => h.elim
  | _ :: _, [], h => h.elim
end
/-! ### a comprehension that lays things -/
section
variable {g : G} {elt cond : E} {tg : Tg} {own : List Nat} {env : Z.Env} {H : Hh} {Q : KD} {w : Wk}
end
/-! ### houses -/
noncomputable def houseF (rules : D) (a b c : Nat) : List (Str × D) := [("rules", rules), ("doors", .ref a), ("wings", .ref b), ("grants", .ref c)]
structure House where
  doors : List (List Nat)
  wings : List NRow
  grants : List NRow
noncomputable def isHouse (G : Hh) (n : Nat) (rules : D) (H : House) : Prop :=
  ∃ a b c ws gs, G[n]? = some (.ins "House" (houseF rules a b c)) ∧ G[a]? = some (lS H.doors) ∧ (G[b]? = some (.lst ws) ∧ isRows 0 G ws H.wings) ∧ G[c]? = some (.lst gs) ∧ isRows 0 G gs H.grants
theorem isHouse.ex {G K : Hh} {n : Nat} {r : D} {H : House} (e : Ex G K) (q : isHouse G n r H) : isHouse K n r H := by
  obtain ⟨a, b, c, ws, gs, h1, h2, ⟨h3, h4⟩, h5, h6⟩ := q
  exact ⟨a, b, c, ws, gs, e.at h1, e.at h2, ⟨e.at h3, h4.ex e⟩, e.at h5, h6.ex e⟩
section
variable {r : D} {a b c : Nat}
end
/-! ### f-strings, dicts -/
section
variable {h : Hh} {a b : List Nat} {n m : Nat}
end
end Y

set_option Elab.async false
set_option linter.all false
set_option maxRecDepth 100000
set_option maxHeartbeats 1000000
/-! Z, part CN: cuts by their number, those ahead of cuts. -/
namespace Y
open PySem PySem.Spec PyProof.Rows Z
noncomputable def opens : List (List Int) → List Int → Prop
  | p :: b, x :: xs => x ∈ p ∧ opens b xs
  | [], [] => True
  | _, _ => False
instance opensDec : ∀ (b : List (List Int)) (xs : List Int), Decidable (opens b xs)
  | p :: b, x :: xs => @instDecidableAnd _ _ inferInstance (opensDec b xs)
  | [], [] => .isTrue trivial
  | [], _ :: _ => .isFalse id
  | _ :: _, [] => .isFalse id
noncomputable def rising (b : List (List Int)) : Prop := ∀ p ∈ b, p.Pairwise (· < ·)
end Y

set_option Elab.async false
set_option linter.all false
set_option maxRecDepth 100000
set_option maxHeartbeats 1000000
/-! Z, part HB: sets of names, tables of rows by name, the doors of a name. -/
namespace Y
open PySem PySem.Spec PyProof.Rows Z
abbrev kS (z : List Nat) : DKey := .inr (SX.S z)
/-! ### rows by name -/
noncomputable def rowOf (tb : List NRow) (z : List Nat) : Option (List (List Nat)) := tb.foldl (fun o r => if r.1 = z then some r.2 else o) none
/-- a dict that tells the rows by name -/
noncomputable def relR (G : Hh) : Option D → Option (List (List Nat)) → Prop
  | some d, some ms => ∃ k, d = .ref k ∧ G[k]? = some (lS ms)
  | none, none => True
  | _, _ => False
noncomputable def tabOk (G : Hh) (kvs : List (DKey × D)) (tb : List NRow) : Prop := ∀ z, relR G (valD kvs (kS z)) (rowOf tb z)
theorem relR.or {G : Hh} {a b : Option D} {x y : Option (List (List Nat))} (h1 : relR G a x) (h2 : relR G b y) : relR G (a.or b) (x.or y) := by
  cases a <;> cases x <;> first | exact h1.elim | exact h2 | exact h1
theorem relR.mono {G K : Hh} (q : ∀ (k : Nat) (ms : List (List Nat)), G[k]? = some (lS ms) → K[k]? = some (lS ms)) {a : Option D} {x : Option (List (List Nat))} (h : relR G a x) : relR K a x := by
  cases a <;> cases x <;> first | exact h.elim | exact trivial | skip
  obtain ⟨k, e1, e2⟩ := h
  exact ⟨k, e1, q k _ e2⟩
theorem tabOk.mono {G K : Hh} {kvs : List (DKey × D)} {tb : List NRow} (q : ∀ (k : Nat) (ms : List (List Nat)), G[k]? = some (lS ms) → K[k]? = some (lS ms)) (h : tabOk G kvs tb) : tabOk K kvs tb := fun z => (h z).mono q
/-! ### the doors of a name -/
noncomputable def leaves : Nat → List NRow → List Nat → List (List Nat)
  | 0, _, z => [z]
  | f + 1, tb, z => match rowOf tb z with
    | none => [z]
    | some ms => ms.flatMap (leaves f tb)
noncomputable def deepOk : Nat → List NRow → List Nat → Prop
  | 0, tb, z => rowOf tb z = none
  | f + 1, tb, z => ∀ ms, rowOf tb z = some ms → ∀ m ∈ ms, deepOk f tb m
theorem deepOk.up : ∀ {f : Nat} {tb : List NRow} {z : List Nat}, deepOk f tb z → deepOk (f + 1) tb z
  | 0, tb, z, h => fun ms e => by have h : rowOf tb z = none := h; rw [h] at e; cases e
  | f + 1, tb, z, h => fun ms e m hm => (h ms e m hm).up
end Y

open Z Y
local macro_rules | `(tactic| simp_arith [$ls,*]) => do
  let xs ← ("vget_0 vget_s z_v z_ci z_cb z_cn z_cs z_bin k_B1 k_B2 z_cmp z_cmpt k_C1 k_C2 k_asB k_asP z_chnt k_N1 k_N2 k_N3 z_and k_And z_ort k_Ort z_not z_nott k_Not k_Nott z_neg k_Neg z_ix k_I1 k_I2 z_sl k_S1 k_S2 k_S3 z_lst k_Lst z_tup k_Tup z_nil z_nilp z_cons k_Cons k_Con2 z_call z_callt k_Call z_blt k_Blt z_isi z_isit k_Isi isiO_s z_dnew z_met k_Met k_Me2 z_irange k_Rng z_irange2 k_Rn1 k_Rn2 z_izip k_Zi1 k_Zi2 k_It z_iv z_isl z_ilst z_pv z_pci z_pbin z_pneg k_stC k_Put k_Some k_Cnd isNil_nil isNil_isi wipe_nil wipe_cons z_bnd z_bndB z_bndW z_bndE s_done s_seq enS_nx enS_rt enF_nx enF_rt s_asg k_As k_As2 s_exp k_Exp s_ret s_ite k_Ite s_for k_For k_stF k_F2 z_put z_putt z_setn z_setc z_gfn enD_rt k_R h_at h_at0 h_old h_set h_set0 bel_non bel_bl bel_int bel_str bel_tup bel_ref bels_nil bels_cons bels_int bels_str gcQ_old gcQ_id List.zip_cons_cons List.zip_nil_left List.reverse_cons List.reverse_nil Y.fld_ref Y.obind_some Y.fldO_exc Y.fldO_ins Y.isx_ref Y.ix_ref Y.ixO_fI Y.ix_last_tI Y.ixO_last Y.ix_0 Y.ix_1 Y.ix_3 Y.bin_add Y.bin_sub Y.bin_mulR Y.bin_mod Y.bin_div Y.sl_tI Y.cut_to Y.cut_from Y.cmp_lt Y.cmp_le Y.cmp_gt Y.cmp_ge Y.cmp_eq Y.cmp_ne Y.orN_some Y.nil_refs Y.nilO_nil Y.omap_some Y.cmp_is_bb Y.cmp_isn_bb Y.cmp_is_int Y.cmp_is_bl Y.cmp_is_str Y.cmp_is_tup Y.cmp_is_ref Y.cmp_is_non Y.cmp_isn_int Y.cmp_isn_bl Y.cmp_isn_str Y.cmp_isn_tup Y.cmp_isn_ref Y.cmp_isn_non Y.eq_int Y.eq_bl Y.eq_tI Y.eq_refs Y.deepO_lI Y.deepO_fI Y.deepO_nil Y.deepO_fnil Y.line_ok Y.eqP_lists Y.eqP_nil Y.eqP_nn Y.b_len_tup Y.b_len_ref Y.lenO_lst Y.lenO_fro Y.b_abs Y.b_min Y.b_max Y.b_int Y.b_int_b Y.seqO_lst Y.seqO_fro Y.b_tuple_tup Y.b_tuple_ref Y.b_list_tup Y.b_list_ref Y.en_ref Y.enumO_lst Y.enumO_fro Y.en_tup bels_append Y.bels_tI Y.bel_lst Y.bel_dct Y.sl_ref Y.slO_lst slsO_lst Y.slO_fro Y.add_refs Y.ty_ref Y.tyO_lst Y.tyO_fro Y.tyO_dct Y.cmp_in Y.cmp_nin Y.un_sset_ref Y.un_rev Y.un_lrev Y.un_ssrt Y.dz_ref Y.lz_ref Y.un_revT Y.rvO_lst Y.guard_ofL Y.items_ofL Y.mul_ref Y.mulO_lst Y.m_app_k Y.ixO_dct Y.ixO_dfr Y.ksO_l Y.isk_ref Y.iskO_ins Y.inK_dct Y.inK_dfr Y.irev_tup Y.hs_ne Y.mpop_k Y.mpop Y.mins_k Y.mins Y.isO_lst Y.m_app Y.appO_lst Y.wk_tup Y.wk_ref Y.wkO_lst Y.wkO_fro Y.w_range Y.w_range2 Y.w_zip_tup Y.w_items Y.w_guard Y.ty_int Y.ty_bl Y.ty_str Y.ty_tup Y.ty_non Y.ty_utx Y.isi_int_int Y.isi_int_bool Y.isi_int_str Y.isi_int_list Y.isi_int_tuple Y.isi_int_dict Y.isi_bool_int Y.isi_bool_bool Y.isi_bool_str Y.isi_bool_list Y.isi_bool_tuple Y.isi_bool_dict Y.isi_str_int Y.isi_str_bool Y.isi_str_str Y.isi_str_list Y.isi_str_tuple Y.isi_str_dict Y.isi_list_int Y.isi_list_bool Y.isi_list_str Y.isi_list_list Y.isi_list_tuple Y.isi_list_dict Y.isi_tuple_int Y.isi_tuple_bool Y.isi_tuple_str Y.isi_tuple_list Y.isi_tuple_tuple Y.isi_tuple_dict Y.isi_dict_int Y.isi_dict_bool Y.isi_dict_str Y.isi_dict_list Y.isi_dict_tuple Y.isi_dict_dict Y.isi_NoneType_int Y.isi_NoneType_bool Y.isi_NoneType_str Y.isi_NoneType_list Y.isi_NoneType_tuple Y.isi_NoneType_dict beq_self_eq_true List.map_cons List.map_nil List.length_map List.length_cons List.length_nil List.cons_append List.nil_append List.append_assoc List.length_append List.getElem?_cons_zero List.getElem?_cons_succ List.set_cons_zero List.set_cons_succ List.replicate List.replicate_zero List.replicate_succ true_or or_true eq_self true_and and_true and_self Bool.false_eq_true Bool.and_true Bool.true_and Bool.not_true Bool.not_false decide_true decide_false decide_eq_true_eq decide_not Bool.not_eq_true' decide_eq_false_iff_not Nat.reduceSub Nat.reduceAdd Int.reduceEq Int.reduceLT Int.reduceLE Int.reduceGT Int.reduceGE Int.reduceNe Int.reduceAdd Int.reduceSub Int.reduceMul Int.reduceNeg Int.reduceMod Int.reduceDiv Int.reduceToNat Nat.reduceEqDiff Nat.reduceLT Nat.reduceMul Int.cast_ofNat_Int Nat.add_zero Nat.zero_add".splitOn " ").toArray.mapM fun s => `(Lean.Parser.Tactic.simpLemma| $(Lean.mkIdent s.toName):term)
  `(tactic| simp (disch := first | assumption | omega | (rw [h_old (by first | assumption | omega)]; assumption) | (apply Int.emod_nonneg; omega) | (apply Int.emod_lt_of_pos; omega) | (simp only [Y.belk_nil, Y.belk_cons, Y.bel_lst, Y.bel_dct, Y.bels_tI, bels_append, bel_non, bel_bl, bel_int, bel_str, bel_tup, bel_ref, bels_nil, bels_cons, bels_int, bels_str, Bool.and_self, decide_eq_true_eq] <;> omega) | (simp only [List.length_take, List.length_drop, List.length_set, List.length_replicate, List.length_map, List.length_range, List.length_append, List.length_cons, List.length_nil]; omega)) only [$xs,*, ↓reduceIte, $ls,*])
namespace ZL
open PySem PySem.Spec PyProof.Rows Z Y
variable {h : Hh} {Q : KD} {X : KX} {ns : List Int} {n : Nat}
/-! is_whole -/
theorem sp_whole {d : Z.D} (ht : tyD h d ≠ none) : pg.run (n + 1) 0 [d] h Q X = Q (.bl (intOf d).isSome) h := by
  refine run_v rfl rfl ?_
  cases d with
  | ref k =>
    rw [ty_ref] at ht
    cases e : tyO h[k]? with
    | none => exact absurd e ht
    | some s =>
      rcases tyO_cases e with rfl | rfl
      · simp_arith [e0_0, e]; rfl
      · simp_arith [e0_0, e]; rfl
  | _ => simp_arith [e0_0]; rfl

/-! is_cuts -/
theorem stepOk_zip {S : Int} : ∀ {ys : List Int}, stepOk S ys ↔ ∀ p ∈ ys.zip (ys.drop 1), ((p.1 - p.2).natAbs : Int) ≤ S
  | [] => by simp [stepOk]
  | [x] => by simp [stepOk]
  | x :: y :: r => by
    have ih := stepOk_zip (S := S) (ys := y :: r)
    simp only [stepOk, ih, List.drop_succ_cons, List.drop_zero, List.zip_cons_cons, List.forall_mem_cons]
    constructor
    · rintro ⟨a, b, c⟩
      exact ⟨by omega, c⟩
    · rintro ⟨a, c⟩
      exact ⟨by omega, by omega, c⟩
theorem zip_enc : ∀ {xs ys : List Int}, List.zipWith (fun a b => Z.D.tup [a, b]) (xs.map .int) (ys.map .int) = (xs.zip ys).map fun p => .tup [.int p.1, .int p.2]
  | [], _ => rfl
  | _ :: _, [] => rfl
  | x :: xs, y :: ys => by
    have ih := zip_enc (xs := xs) (ys := ys)
    simp only [List.map_cons, List.zipWith_cons_cons, List.zip_cons_cons, ih]
instance stepDec {S : Int} : ∀ {ys : List Int}, Decidable (stepOk S ys)
  | [] => isTrue trivial
  | [_] => isTrue trivial
  | x :: y :: r => by
    have := stepDec (S := S) (ys := y :: r)
    unfold stepOk
    infer_instance
instance {D S : Int} {P : Nat} {ys : List Int} : Decidable (isC D S P ys) := by unfold isC; infer_instance
theorem sp_iscuts {P D T S : Int} {ys : List Int} (h0 : 0 ≤ P) (hl : ys.length < 1000000) : pg.run (n + 2) 1 [.tup [.int P, .int D, .int T, .int S], tI ys] h Q X = Q (.bl (decide (isC D S P.toNat ys))) h := by
  refine run_v rfl rfl ?_
  by_cases hp : (ys.length : Int) = P
  · subst hp
    simp_arith [e1_0, e1_1, e1_2, e1_3, e1_4, e1_5, e1_6, e1_7, e1_8, e1_9, s_for]
    refine walk_all (xs := ys) (enc := .int) (I := fun env h' => h' = h ∧ ∃ a, env = [some (.tup [.int (ys.length : Nat), .int D, .int T, .int S]), some (tI ys), a, some (.int (ys.length : Nat)), some (.int D), some (.int T), some (.int S), none, none]) (good := fun y => 0 ≤ y ∧ y < D) ⟨rfl, _, rfl⟩ ?_ ?_
    · rintro y hy env h' ⟨rfl, a, rfl⟩ K hK
      have ht : tyD h' (.int y) ≠ none := fun z => nomatch z
      by_cases h1 : 0 ≤ y
      · by_cases h2 : y < D
        · simp_arith [e1_0, e1_1, e1_2, e1_3, e1_4, e1_5, e1_6, e1_7, e1_8, e1_9, sp_whole ht, intOf, Option.isSome, h1, h2]
          exact hK ⟨h1, h2⟩ _ _ ⟨rfl, _, rfl⟩
        · have e : decide (isC D S (Int.toNat ys.length) ys) = false := decide_eq_false fun z => h2 (z.2.1 y hy).2
          simp_arith [e1_0, e1_1, e1_2, e1_3, e1_4, e1_5, e1_6, e1_7, e1_8, e1_9, sp_whole ht, intOf, Option.isSome, h1, h2, e]
      · have e : decide (isC D S (Int.toNat ys.length) ys) = false := decide_eq_false fun z => h1 (z.2.1 y hy).1
        simp_arith [e1_0, e1_1, e1_2, e1_3, e1_4, e1_5, e1_6, e1_7, e1_8, e1_9, sp_whole ht, intOf, Option.isSome, h1, e]
    · rintro hall env h' ⟨rfl, a, rfl⟩
      simp_arith [e1_0, e1_1, e1_2, e1_3, e1_4, e1_5, e1_6, e1_7, e1_8, e1_9, s_for]
      refine walk_all_g (xs := ys.zip (ys.drop 1)) (enc := fun p => .tup [.int p.1, .int p.2]) (I := fun env h'' => h'' = h' ∧ ∃ a c d, env = [some (.tup [.int (ys.length : Nat), .int D, .int T, .int S]), some (tI ys), a, some (.int (ys.length : Nat)), some (.int D), some (.int T), some (.int S), c, d]) (good := fun p => ((p.1 - p.2).natAbs : Int) ≤ S) zip_enc (fun _ _ _ => trivial) ⟨rfl, _, _, _, rfl⟩ ?_ ?_
      · rintro ⟨x, y⟩ hp env h'' ⟨rfl, a, c, d, rfl⟩ K hK
        by_cases h1 : S < ((x - y).natAbs : Int)
        · have e : decide (isC D S (Int.toNat ys.length) ys) = false := decide_eq_false fun z => by
            have := stepOk_zip.mp z.2.2 _ hp
            simp only at this
            omega
          simp_arith [e1_0, e1_1, e1_2, e1_3, e1_4, e1_5, e1_6, e1_7, e1_8, e1_9, h1, e]
        · simp_arith [e1_0, e1_1, e1_2, e1_3, e1_4, e1_5, e1_6, e1_7, e1_8, e1_9, h1]
          exact hK (by simp only; omega) _ _ ⟨rfl, _, _, _, rfl⟩
      · rintro hst env h'' ⟨rfl, a, c, d, rfl⟩
        have e : decide (isC D S (Int.toNat ys.length) ys) = true := decide_eq_true ⟨by simp, hall, stepOk_zip.mpr hst⟩
        simp_arith [e1_0, e1_1, e1_2, e1_3, e1_4, e1_5, e1_6, e1_7, e1_8, e1_9, e]
  · have e : decide (isC D S P.toNat ys) = false := decide_eq_false fun z => hp (by have := z.1; omega)
    simp_arith [e1_0, e1_1, e1_2, e1_3, e1_4, e1_5, e1_6, e1_7, e1_8, e1_9, hp, e]

/-! first_cuts -/
theorem sp_first {P D T S : Int} (h0 : 0 ≤ P) (h1 : P ≤ 1000) : pg.run (n + 1) 2 [.tup [.int P, .int D, .int T, .int S]] h Q X = Q (tI (List.replicate P.toNat 0)) h := by
  refine run_v rfl rfl ?_
  simp_arith [e2_0, mul_lst]
  have e : (List.replicate P.toNat [Z.D.int 0]).flatten = (List.replicate P.toNat 0).map .int := by
    generalize P.toNat = m
    induction m with
    | zero => rfl
    | succ m ih => rw [List.replicate_succ, List.flatten_cons, ih, List.replicate_succ]; rfl
  rw [e]
  simp_arith []

/-! _law_mixed -/
noncomputable def mixed (ns : List Int) (k : Int) : Int := if ns = [] then k else (at0 ns (k % ns.length) + 1 + k) * (48271 + 7919 * k) % 2147483647
theorem sp_mixed {k : Int} (hs : h[0]? = some (.fro (ns.map .int))) (h0 : 0 ≤ k) (h1 : k < 100000) : pg.run (n + 1) 3 [.ref 0, .int k] h Q X = Q (.int (mixed ns k)) h := by
  refine run_v (b := b3_2) rfl rfl ?_
  have hl := lt_of_at hs
  unfold b3_2 mixed
  by_cases hn : ns = []
  · subst hn
    simp_arith [b3_1, hs]
  · have hp : 0 < ns.length := List.length_pos_iff.mpr hn
    simp_arith [b3_1, b3_0, hs, hn]

/-! _law_rules -/
noncomputable def rD (ns : List Int) : Int := 2 + mixed ns 0 % 19
noncomputable def rP (ns : List Int) : Int := 1 + mixed ns 1 % 24
noncomputable def rT (ns : List Int) : Int := 1 + mixed ns 2 % rD ns
noncomputable def rS (ns : List Int) : Int := 1 + mixed ns 3 % (rD ns - 1)
theorem rD_b (ns : List Int) : 2 ≤ rD ns ∧ rD ns ≤ 20 := by unfold rD; omega
theorem rP_b (ns : List Int) : 1 ≤ rP ns ∧ rP ns ≤ 24 := by unfold rP; omega
theorem rS_b (ns : List Int) : 1 ≤ rS ns ∧ rS ns ≤ rD ns - 1 := by
  have := rD_b ns
  have h1 := Int.emod_nonneg (mixed ns 3) (show rD ns - 1 ≠ 0 by omega)
  have h2 := Int.emod_lt_of_pos (mixed ns 3) (show 0 < rD ns - 1 by omega)
  unfold rS; omega
theorem sp_rules (hs : h[0]? = some (.fro (ns.map .int))) : pg.run (n + 2) 4 [.ref 0] h Q X = Q (.tup [.int (rP ns), .int (rD ns), .int (rT ns), .int (rS ns)]) h := by
  refine run_v (b := b4_2) rfl rfl ?_
  have hb := rD_b ns
  unfold b4_2 b4_1 b4_0
  simp_arith [sp_mixed]
  rfl

/-! _law_cuts -/
noncomputable def cutsN (D S : Int) (ns : List Int) (b : Int) : Nat → List Int
  | 0 => []
  | i + 1 => cutsN D S ns b i ++ [drawn D S (cutsN D S ns b i) (mixed ns (b + i))]
theorem cutsN_ok {D S b : Int} (hD : 2 ≤ D) (hS : 0 ≤ S) : ∀ i, (cutsN D S ns b i).length = i ∧ ∀ x ∈ cutsN D S ns b i, 0 ≤ x ∧ x < D := by
  intro i
  induction i with
  | zero => exact ⟨rfl, fun x hx => nomatch hx⟩
  | succ i ih =>
    refine ⟨by rw [cutsN, List.length_append, ih.1]; rfl, fun x hx => ?_⟩
    rw [cutsN, List.mem_append] at hx
    rcases hx with hx | hx
    · exact ih.2 x hx
    · rw [List.mem_singleton] at hx
      have := drawn_ok (v := mixed ns (b + i)) (show 1 ≤ D by omega) hS ih.2
      rw [hx]; omega
theorem cutsN_isC {D S b : Int} (hD : 2 ≤ D) (hS : 0 ≤ S) : ∀ i, isC D S i (cutsN D S ns b i) := by
  intro i
  obtain ⟨h1, h2⟩ := cutsN_ok (ns := ns) (b := b) hD hS i
  refine ⟨h1, h2, ?_⟩
  clear h1 h2
  induction i with
  | zero => trivial
  | succ i ih =>
    obtain ⟨h1, h2⟩ := cutsN_ok (ns := ns) (b := b) hD hS i
    have h3 := drawn_ok (v := mixed ns (b + i)) (show 1 ≤ D by omega) hS h2
    refine stepOk_snoc.mpr ⟨ih, fun hn => ?_⟩
    rw [lowf_ne hn, highf_ne hn] at h3
    omega
theorem sp_cuts {P D T S b : Int} (hs : h[0]? = some (.fro (ns.map .int))) (hP0 : 0 ≤ P) (hP : P ≤ 100) (hD : 2 ≤ D) (hS : 0 ≤ S) (hb0 : 0 ≤ b) (hb : b < 50000) :
    pg.run (n + 2) 5 [.tup [.int P, .int D, .int T, .int S], .ref 0, .int b] h Q X = Q (tI (cutsN D S ns b P.toNat)) h := by
  refine run_v (b := b5_8) rfl rfl ?_
  have hl := lt_of_at hs
  unfold b5_8 b5_7
  simp_arith [s_for]
  refine walk_range (I := fun i env h' => ∃ a c d t, env = [some (.tup [.int P, .int D, .int T, .int S]), some (.ref 0), some (.int b), some (.ref h.length), a, c, d] ∧ h' = h ++ .lst ((cutsN D S ns b i).map .int) :: t) ⟨_, _, _, _, rfl, rfl⟩ ?_ ?_
  · rintro i env h' hi ⟨a, c, d, t, rfl, rfl⟩ K hK
    obtain ⟨hc1, hc2⟩ := cutsN_ok (ns := ns) (b := b) hD hS i
    unfold b5_6 b5_5 b5_4 b5_3 b5_2 b5_1
    by_cases hn : cutsN D S ns b i = []
    · simp_arith [hn, sp_mixed]
      refine hK _ _ ⟨_, _, _, t ++ [.lst []], rfl, ?_⟩
      rw [cutsN, hn]; rfl
    · have := hc2 _ (last0_mem hn)
      simp_arith [hn, sp_mixed]
      refine hK _ _ ⟨_, _, _, t ++ [.lst []], rfl, ?_⟩
      rw [cutsN, List.map_append, drawn, lowf_ne hn, highf_ne hn]; rfl
  · rintro env h' ⟨a, c, d, t, rfl, rfl⟩
    unfold b5_0
    simp_arith []

end ZL


namespace ZL
open PySem PySem.Spec PyProof.Rows Z Y
variable {h : Hh} {Q : KD} {X : KX} {ns : List Int} {n : Nat}
abbrev R4 (p d t s : Int) : Z.D := .tup [.int p, .int d, .int t, .int s]
noncomputable def isCT (P : Nat) (D S : Int) (d : Z.D) : Bool := match d with
  | .tup ds => match intsOf ds with
    | some ys => decide (isC D S P ys)
    | none => false
  | _ => false
theorem isCT_ints {P : Nat} {D S : Int} {ys : List Int} : isCT P D S (.tup (ys.map .int)) = decide (isC D S P ys) := by
  show (match intsOf (ys.map Z.D.int) with
    | some ys => decide (isC D S P ys)
    | none => false) = _
  rw [intsOf_map]
theorem isCT_no {P : Nat} {D S : Int} {ds : List Z.D} (e : intsOf ds = none) : isCT P D S (.tup ds) = false := by
  show (match intsOf ds with
    | some ys => decide (isC D S P ys)
    | none => false) = _
  rw [e]
theorem ints_some : ∀ {ds : List Z.D}, (∀ x ∈ ds, ∃ i : Int, x = .int i) → intsOf ds ≠ none
  | [], _ => fun z => nomatch z
  | d :: ds, h => by
    obtain ⟨i, rfl⟩ := h d List.mem_cons_self
    have := ints_some (ds := ds) fun x hx => h x (List.mem_cons_of_mem _ hx)
    intro z
    cases e : intsOf ds with
    | none => exact this e
    | some ys =>
      have e : ds.mapM intOf = some ys := e
      have z : (Z.D.int i :: ds).mapM intOf = none := z
      rw [List.mapM_cons, e] at z
      cases z
theorem sp_isC {P D T S : Int} {d : Z.D} (h0 : 0 ≤ P) (ht : tyOk h d) (hlen : ∀ ds, d = .tup ds → ds.length < 1000000) : pg.run (n + 2) 1 [R4 P D T S, d] h Q X = Q (.bl (isCT P.toNat D S d)) h := by
  cases d with
  | ref k =>
    refine run_v rfl rfl ?_
    have ht := ht.1
    rw [ty_ref] at ht
    cases e : tyO h[k]? with
    | none => exact absurd e ht
    | some s =>
      rcases tyO_cases e with rfl | rfl
      · simp_arith [e1_0, e1_1, e1_2, e1_3, e1_4, e1_5, e1_6, e1_7, e1_8, e1_9, e]; rfl
      · simp_arith [e1_0, e1_1, e1_2, e1_3, e1_4, e1_5, e1_6, e1_7, e1_8, e1_9, e]; rfl
  | tup ds =>
    cases e0 : intsOf ds with
    | some ys =>
      obtain rfl := intsOf_eq e0
      rw [isCT_ints]
      exact sp_iscuts h0 (by have := hlen _ rfl; simpa using this)
    | none =>
      rw [isCT_no e0]
      refine run_v rfl rfl ?_
      have ht2 := ht.2 ds rfl
      by_cases hl : (ds.length : Int) = P
      · simp_arith [e1_0, e1_1, e1_2, e1_3, e1_4, e1_5, e1_6, e1_7, e1_8, e1_9, s_for, hl]
        have e : ds = ds.map id := by simp
        rw [e]
        refine walk_all (xs := ds) (enc := id) (I := fun env h' => h' = h ∧ ∃ a, env = [some (R4 P D T S), some (.tup (ds.map id)), a, some (.int P), some (.int D), some (.int T), some (.int S), none, none]) (good := fun x => ∃ i : Int, x = .int i) ⟨rfl, _, rfl⟩ ?_ ?_
        · rintro x hx env h' ⟨rfl, a, rfl⟩ K hK
          show stF _ _ _ _ x _ _ _
          have hw := fun (Q : KD) (X : KX) => sp_whole (h := h') (n := n) (Q := Q) (X := X) (ht2 x hx)
          cases hi : intOf x with
          | none =>
            rw [hi] at hw
            simp_arith [e1_0, e1_1, e1_2, e1_3, e1_4, e1_5, e1_6, e1_7, e1_8, e1_9, hw, Option.isSome]
          | some i =>
            have ex : x = .int i := by cases x <;> cases hi; rfl
            subst ex
            rw [hi] at hw
            by_cases h1 : 0 ≤ i
            · by_cases h2 : i < D
              · simp_arith [e1_0, e1_1, e1_2, e1_3, e1_4, e1_5, e1_6, e1_7, e1_8, e1_9, hw, Option.isSome, h1, h2]
                exact hK ⟨i, rfl⟩ _ _ ⟨rfl, _, rfl⟩
              · simp_arith [e1_0, e1_1, e1_2, e1_3, e1_4, e1_5, e1_6, e1_7, e1_8, e1_9, hw, Option.isSome, h1, h2]
            · simp_arith [e1_0, e1_1, e1_2, e1_3, e1_4, e1_5, e1_6, e1_7, e1_8, e1_9, hw, Option.isSome, h1]
        · rintro hall env h' ⟨rfl, a, rfl⟩
          exact absurd e0 (ints_some hall)
      · simp_arith [e1_0, e1_1, e1_2, e1_3, e1_4, e1_5, e1_6, e1_7, e1_8, e1_9, hl]
  | _ =>
    refine run_v rfl rfl ?_
    simp_arith [e1_0, e1_1, e1_2, e1_3, e1_4, e1_5, e1_6, e1_7, e1_8, e1_9] <;> rfl
theorem stepOk_at {S : Int} {ys : List Int} : stepOk S ys ↔ ∀ i, i + 1 < ys.length → ((ys.getD i 0 - ys.getD (i + 1) 0).natAbs : Int) ≤ S := by
  rw [stepOk_zip]
  constructor
  · intro h i hi
    have hm : (ys[i], ys[i + 1]) ∈ ys.zip (ys.drop 1) := by
      refine List.mem_iff_getElem.mpr ⟨i, by simp; omega, ?_⟩
      simp [List.getElem_zip]
    have := h _ hm
    rw [List.getD_eq_getElem?_getD, List.getD_eq_getElem?_getD, List.getElem?_eq_getElem (by omega), List.getElem?_eq_getElem hi]
    exact this
  · rintro h ⟨a, b⟩ hp
    obtain ⟨i, hi, e⟩ := List.mem_iff_getElem.mp hp
    have hi' : i + 1 < ys.length := by simp at hi; omega
    have := h i hi'
    rw [List.getElem_zip] at e
    obtain ⟨e1, e2⟩ := Prod.mk.inj e
    rw [List.getD_eq_getElem?_getD, List.getD_eq_getElem?_getD, List.getElem?_eq_getElem (by omega), List.getElem?_eq_getElem hi'] at this
    rw [List.getElem_drop] at e2
    have e2' : ys[i + 1] = b := by rw [← e2]; congr 1; omega
    show ((a - b).natAbs : Int) ≤ S
    rw [← e1, ← e2']
    exact this
theorem sp_good {P D T S : Int} {d : Z.D} (h0 : 0 ≤ P) (ht : tyOk h d) (hlen : ∀ ds, d = .tup ds → ds.length < 1000000) : pg.run (n + 1) 7 [R4 P D T S, d] h Q X = Q (.bl (isCT P.toNat D S d)) h := by
  have r0 : ∀ G, ixD (R4 P D T S) (.int 0) G = some (.int P, G) := fun _ => rfl
  have r1 : ∀ G, ixD (R4 P D T S) (.int 1) G = some (.int D, G) := fun _ => rfl
  have r3 : ∀ G, ixD (R4 P D T S) (.int 3) G = some (.int S, G) := fun _ => rfl
  obtain ⟨R, hR⟩ : ∃ R, R = R4 P D T S := ⟨_, rfl⟩
  rw [← hR] at r0 r1 r3 ⊢
  cases d with
  | ref k =>
    refine run_v rfl rfl ?_
    have ht := ht.1
    rw [ty_ref] at ht
    cases e : tyO h[k]? with
    | none => exact absurd e ht
    | some s =>
      rcases tyO_cases e with rfl | rfl
      · simp_arith [e7_0, e7_1, e7_2, e7_3, e7_4, e7_5, e7_6, e7_7, e7_8, e]; rfl
      · simp_arith [e7_0, e7_1, e7_2, e7_3, e7_4, e7_5, e7_6, e7_7, e7_8, e]; rfl
  | tup ds =>
    have ht2 := ht.2 ds rfl
    cases e0 : intsOf ds with
    | none =>
      rw [isCT_no e0]
      refine run_v rfl rfl ?_
      by_cases hl : (ds.length : Int) = P
      · simp_arith [e7_0, e7_1, e7_2, e7_3, e7_4, e7_5, e7_6, e7_7, e7_8, s_for, r0, hl]
        have e : ds = ds.map id := by simp
        rw [e]
        refine walk_all (xs := ds) (enc := id) (I := fun env h' => h' = h ∧ ∃ a, env = [some R, some (.tup (ds.map id)), a, none]) (good := fun x => ∃ i : Int, x = .int i) ⟨rfl, _, rfl⟩ ?_ ?_
        · rintro x hx env h' ⟨rfl, a, rfl⟩ K hK
          show stF _ _ _ _ x _ _ _
          have htx := ht2 x hx
          cases x with
          | int i =>
            by_cases h1 : i < 0
            · simp_arith [e7_0, e7_1, e7_2, e7_3, e7_4, e7_5, e7_6, e7_7, e7_8, r1, h1]
            · by_cases h2 : D ≤ i
              · simp_arith [e7_0, e7_1, e7_2, e7_3, e7_4, e7_5, e7_6, e7_7, e7_8, r1, h1, h2]
              · simp_arith [e7_0, e7_1, e7_2, e7_3, e7_4, e7_5, e7_6, e7_7, e7_8, r1, h1, h2]
                exact hK ⟨i, rfl⟩ _ _ ⟨rfl, _, rfl⟩
          | ref k =>
            rw [ty_ref] at htx
            cases e2 : tyO h'[k]? with
            | none => exact absurd e2 htx
            | some s =>
              rcases tyO_cases e2 with rfl | rfl
              · simp_arith [e7_0, e7_1, e7_2, e7_3, e7_4, e7_5, e7_6, e7_7, e7_8, e2]
              · simp_arith [e7_0, e7_1, e7_2, e7_3, e7_4, e7_5, e7_6, e7_7, e7_8, e2]
          | _ => simp_arith [e7_0, e7_1, e7_2, e7_3, e7_4, e7_5, e7_6, e7_7, e7_8]
        · rintro hall env h' ⟨rfl, a, rfl⟩
          have hf : False := ints_some hall e0
          first
            | cases hf
            | exact hf.elim
      · simp_arith [e7_0, e7_1, e7_2, e7_3, e7_4, e7_5, e7_6, e7_7, e7_8, r0, hl]
    | some ys =>
      obtain rfl := intsOf_eq e0
      rw [isCT_ints]
      have hle := hlen _ rfl
      rw [List.length_map] at hle
      refine run_v rfl rfl ?_
      have hlt : (ys.length : Int) < 4611686018427387904 := by omega
      have hm1 : ((ys.length : Int) - 1).toNat = ys.length - 1 := by omega
      have hx : ∀ (i : Nat) (G : Hh), i < ys.length → ixD (.tup (ys.map .int)) (.int (i : Nat)) G = some (.int (ys.getD i 0), G) := fun i G hi => by
        show (L2.atI (ys.map Z.D.int) (i : Int)).map (·, G) = _
        rw [Y.atI_of (by omega) (by simp; omega), Int.toNat_natCast, List.getElem?_map, List.getElem?_eq_getElem hi, List.getD_eq_getElem?_getD, List.getElem?_eq_getElem hi]; rfl
      obtain ⟨T, hT⟩ : ∃ T, T = Z.D.tup (ys.map .int) := ⟨_, rfl⟩
      have eN : ∀ H : Hh, bltD .len [T] H = some (.int (ys.length : Nat), H) := fun H => by
        rw [hT]
        show (some (ys.map Z.D.int).length).map (fun (n : Nat) => (Z.D.int (n : Int), H)) = _
        rw [List.length_map]; rfl
      rw [← hT] at hx ⊢
      by_cases hl : (ys.length : Int) = P
      case neg =>
        have e9 : decide (isC D S P.toNat ys) = false := decide_eq_false fun z => hl (by have := z.1; omega)
        have tyT : ∀ G : Hh, tyD G T = some "tuple" := fun G => by rw [hT]; rfl
        simp_arith [e7_0, e7_1, e7_2, e7_3, e7_4, e7_5, e7_6, e7_7, e7_8, r0, eN, hl, e9, tyT]
      have tyT : ∀ G : Hh, tyD G T = some "tuple" := fun G => by rw [hT]; rfl
      have itT : ∀ G : Hh, wkOf G T = some (Wk.pure (ys.map Z.D.int)) := fun G => by rw [hT]; rfl
      simp_arith [e7_0, e7_1, e7_2, e7_3, e7_4, e7_5, e7_6, e7_7, e7_8, s_for, r0, eN, hl, tyT, itT]
      refine walk_all (xs := ys) (enc := .int) (I := fun env h' => h' = h ∧ ∃ a, env = [some R, some T, a, none]) (good := fun i : Int => 0 ≤ i ∧ i < D) ⟨rfl, _, rfl⟩ ?_ ?_
      · rintro i hi env h' ⟨rfl, a, rfl⟩ K hK
        by_cases h1 : i < 0
        · have e9 : decide (isC D S P.toNat ys) = false := decide_eq_false fun z => by have := z.2.1 i hi; omega
          simp_arith [e7_0, e7_1, e7_2, e7_3, e7_4, e7_5, e7_6, e7_7, e7_8, r1, h1, e9]
        · by_cases h2 : D ≤ i
          · have e9 : decide (isC D S P.toNat ys) = false := decide_eq_false fun z => by have := z.2.1 i hi; omega
            simp_arith [e7_0, e7_1, e7_2, e7_3, e7_4, e7_5, e7_6, e7_7, e7_8, r1, h1, h2, e9]
          · simp_arith [e7_0, e7_1, e7_2, e7_3, e7_4, e7_5, e7_6, e7_7, e7_8, r1, h1, h2]
            exact hK ⟨by omega, by omega⟩ _ _ ⟨rfl, _, rfl⟩
      · rintro hall env h' ⟨rfl, a, rfl⟩
        simp_arith [e7_0, e7_1, e7_2, e7_3, e7_4, e7_5, e7_6, e7_7, e7_8, s_for, eN, hm1]
        refine walk_range (I := fun i env h'' => h'' = h' ∧ (∀ j, j < i → j + 1 < ys.length → ((ys.getD j 0 - ys.getD (j + 1) 0).natAbs : Int) ≤ S) ∧ ∃ b, env = [some R, some T, a, b]) ⟨rfl, fun j hj => absurd hj (by omega), _, rfl⟩ ?_ ?_
        · rintro i env h'' hi ⟨rfl, hall2, b, rfl⟩ K hK
          have x1 : ∀ G : Hh, ixD T (.int (1 + (i : Int) - 1)) G = some (.int (ys.getD i 0), G) := fun G => by
            rw [show 1 + (i : Int) - 1 = (i : Int) by omega]; exact hx i G (by omega)
          have x2 : ∀ G : Hh, ixD T (.int (1 + (i : Int))) G = some (.int (ys.getD (i + 1) 0), G) := fun G => by
            rw [show 1 + (i : Int) = ((i + 1 : Nat) : Int) by omega]; exact hx (i + 1) G (by omega)
          have nx := fun (hh : ((ys.getD i 0 - ys.getD (i + 1) 0).natAbs : Int) ≤ S) => hK [some R, some T, a, some (.int (1 + (i : Int)))] h'' ⟨rfl, fun j hj hj2 => by
            by_cases c : j = i
            · subst c; exact hh
            · exact hall2 j (by omega) hj2, _, rfl⟩
          have no := fun (hh : ¬ ((ys.getD i 0 - ys.getD (i + 1) 0).natAbs : Int) ≤ S) => (show decide (isC D S P.toNat ys) = false from decide_eq_false fun z => hh (stepOk_at.mp z.2.2 i (by omega)))
          generalize ys.getD i 0 = u at *
          generalize ys.getD (i + 1) 0 = v at *
          by_cases c : S < max u v - min u v
          · have nn := no (by omega)
            simp_arith [e7_0, e7_1, e7_2, e7_3, e7_4, e7_5, e7_6, e7_7, e7_8, x1, x2, r3, c, nn]
          · simp_arith [e7_0, e7_1, e7_2, e7_3, e7_4, e7_5, e7_6, e7_7, e7_8, x1, x2, r3, c]
            exact nx (by omega)
        · rintro env h'' ⟨rfl, hall2, b, rfl⟩
          have yes : decide (isC D S P.toNat ys) = true := decide_eq_true ⟨by omega, fun y hy => hall y hy, stepOk_at.mpr fun i hi => hall2 i (by omega) hi⟩
          simp_arith [e7_0, e7_1, e7_2, e7_3, e7_4, e7_5, e7_6, e7_7, e7_8, yes]
  | _ =>
    refine run_v rfl rfl ?_
    simp_arith [e7_0, e7_1, e7_2, e7_3, e7_4, e7_5, e7_6, e7_7, e7_8] <;> rfl
end ZL


namespace ZL
open PySem PySem.Spec PyProof.Rows Z Y
variable {h : Hh} {Q : KD} {X : KX} {ns : List Int} {n : Nat}
theorem sp_told {P D T S : Int} {d : Z.D} {k : Bool} (h0 : 0 ≤ P) (ht : tyOk h d) (hlen : ∀ ds, d = .tup ds → ds.length < 1000000) : pg.run (n + 3) 8 [R4 P D T S, d, .bl k] h Q X = Q (.bl (isCT P.toNat D S d == k)) h := by
  refine run_v rfl rfl ?_
  have hc := fun (Q : KD) (X : KX) => sp_isC (n := n) (P := P) (D := D) (T := T) (S := S) (Q := Q) (X := X) h0 ht hlen
  obtain ⟨R, hR⟩ : ∃ R, R = R4 P D T S := ⟨_, rfl⟩
  rw [← hR] at hc ⊢
  simp_arith [e8_0, e8_1, hc]
noncomputable def lenOk (d : Z.D) : Prop := ∀ ds, d = .tup ds → ds.length ≤ 200
theorem gcv_fst {d : Z.D} {H : Hh} : (gcv h d H).1 = d ∨ ∃ k, (gcv h d H).1 = .ref k := by
  unfold gcv
  split
  · split
    · exact .inl rfl
    · split
      · split
        · split
          · exact .inr ⟨_, rfl⟩
          · exact .inl rfl
        · exact .inl rfl
      · exact .inl rfl
  · exact .inl rfl
theorem gc_ty2 {d : Z.D} {u : Hh} (e : tyOk (h ++ u) d) (l : lenOk d) : gcQ h (fun d h' => ∃ t, h' = h ++ t ∧ tyOk h' d ∧ lenOk d) d (h ++ u) := by
  obtain ⟨t, h1, h2⟩ := (show ∃ t, (gcv h d (h ++ u)).2 = h ++ t ∧ tyOk (gcv h d (h ++ u)).2 (gcv h d (h ++ u)).1 from gc_ty e)
  refine (show ∃ t, (gcv h d (h ++ u)).2 = h ++ t ∧ tyOk (gcv h d (h ++ u)).2 (gcv h d (h ++ u)).1 ∧ lenOk (gcv h d (h ++ u)).1 from ⟨t, h1, h2, ?_⟩)
  rcases gcv_fst (h := h) (d := d) (H := h ++ u) with q | ⟨k, q⟩
  · rw [q]; exact l
  · rw [q]; exact fun ds z => nomatch z
theorem ty_i {i : Int} : tyD h (.int i) ≠ none := fun z => nomatch z
theorem tyOk_ints {ds : List Z.D} (hx : ∀ x, x ∈ ds → tyD h x ≠ none) : tyOk h (.tup ds) := ⟨(fun z => nomatch z), fun _ e x m => by cases e; exact hx x m⟩
theorem sp_thing {P D T S c : Int} {ys : List Int} (hm : ys.length ≤ 24) (hp : 1 ≤ ys.length) (hr : ∀ y ∈ ys, 0 ≤ y ∧ y < 20) :
    ∃ (dd : Z.D) (u : Hh), tyOk (h ++ u) dd ∧ lenOk dd ∧ ∀ Q X, pg.run (n + 1) 6 [R4 P D T S, tI ys, .int c] h Q X = Q dd (h ++ u) := by
  suffices w : pg.run (n + 1) 6 [R4 P D T S, tI ys, .int c] h (fun d h' => ∃ t, h' = h ++ t ∧ tyOk h' d ∧ lenOk d) kNoX by
    obtain ⟨d, h', ⟨u, rfl, h2, h3⟩, e⟩ := run_some w
    exact ⟨d, u, h2, h3, e⟩
  have hne : ys ≠ [] := fun z => by rw [z] at hp; simp at hp
  obtain ⟨LT, hLT⟩ : ∃ L, L = ys.map Z.D.int := ⟨_, rfl⟩
  have lLT : LT.length = ys.length := by rw [hLT, List.length_map]
  have tyL : ∀ (G : Hh) x, x ∈ LT → tyD G x ≠ none := fun G x hx => by
    rw [hLT] at hx
    obtain ⟨i, _, rfl⟩ := List.mem_map.mp hx
    exact ty_i
  obtain ⟨TT, hTT⟩ : ∃ A, A = Z.D.tup LT := ⟨_, rfl⟩
  have hTI : TT = tI ys := by rw [hTT, hLT]
  have hpos : (0 : Int) < (ys.length : Int) := by omega
  have eN : ∀ G : Hh, bltD .len [TT] G = some (.int (ys.length : Nat), G) := fun G => by
    rw [hTT]
    show (some LT.length).map (fun (n : Nat) => (Z.D.int (n : Int), G)) = _
    rw [lLT]; rfl
  have eL : ∀ G : Hh, bltD .list [TT] G = some (.ref G.length, G ++ [.lst LT]) := fun G => by rw [hTT]; rfl
  have hstr : ∀ G : Hh, bltD .str [TT] G = some (.utx, G) := fun G => by
    rw [hTT]
    show (match intsOf LT with
      | some ns => if (decide (ns.length ≤ 1000) && ns.all fun n => decide (0 ≤ n) && decide (n < 1000000)) = true then some (Z.D.utx, G) else none
      | none => none) = _
    rw [hLT, intsOf_map]
    show (if (decide (ys.length ≤ 1000) && ys.all fun n => decide (0 ≤ n) && decide (n < 1000000)) = true then some (Z.D.utx, G) else none) = _
    rw [if_pos]
    rw [Bool.and_eq_true, decide_eq_true_eq, List.all_eq_true]
    refine ⟨by omega, fun y hy => ?_⟩
    have := hr y hy
    rw [Bool.and_eq_true, decide_eq_true_eq, decide_eq_true_eq]
    omega
  have a0 := Int.emod_nonneg (c / 7) (show (ys.length : Int) ≠ 0 by omega)
  have a1 := Int.emod_lt_of_pos (c / 7) hpos
  generalize hA : c / 7 % (ys.length : Int) = A at a0 a1
  have b0 := Int.emod_nonneg (A + 1) (show (ys.length : Int) ≠ 0 by omega)
  have b1 := Int.emod_lt_of_pos (A + 1) hpos
  have hlast : ∀ G : Hh, ixD TT (.int (-1)) G = some (.int (last0 ys), G) := fun G => by rw [hTI]; exact ix_last_tI hne
  have hix : ∀ (i : Int) (G : Hh), 0 ≤ i → i < ys.length → ixD TT (.int i) G = some (.int (ys.getD i.toNat 0), G) := fun i G h0 h1 => by
    rw [hTT, hLT]
    show (L2.atI (ys.map Z.D.int) i).map (·, G) = _
    rw [Y.atI_of h0 (by simp; omega), List.getElem?_map, List.getElem?_eq_getElem (by omega), List.getD_eq_getElem?_getD, List.getElem?_eq_getElem (by omega)]; rfl
  have hbe := fun G => hix ((A + 1) % (ys.length : Int)) G b0 b1
  generalize ys.getD ((A + 1) % (ys.length : Int)).toNat 0 = B at hbe
  have cl : ∀ {lo hi : Option Int}, (cut LT lo hi).length ≤ 24 := fun {lo hi} => by
    unfold cut
    simp only [List.length_take, List.length_drop]
    omega
  obtain ⟨D1, hD1⟩ : ∃ L, L = cut LT none (some (-1)) := ⟨_, rfl⟩
  obtain ⟨D2, hD2⟩ : ∃ L, L = cut LT none (some A) := ⟨_, rfl⟩
  obtain ⟨D3, hD3⟩ : ∃ L, L = cut LT (some (A + 1)) none := ⟨_, rfl⟩
  have l1 : D1.length ≤ 24 := by rw [hD1]; exact cl
  have l2 : D2.length ≤ 24 := by rw [hD2]; exact cl
  have l3 : D3.length ≤ 24 := by rw [hD3]; exact cl
  have y1 : ∀ (G : Hh) x, x ∈ D1 → tyD G x ≠ none := fun G x hx => tyL G x (by rw [hD1] at hx; exact cut_sub hx)
  have y2 : ∀ (G : Hh) x, x ∈ D2 → tyD G x ≠ none := fun G x hx => tyL G x (by rw [hD2] at hx; exact cut_sub hx)
  have y3 : ∀ (G : Hh) x, x ∈ D3 → tyD G x ≠ none := fun G x hx => tyL G x (by rw [hD3] at hx; exact cut_sub hx)
  have s1 : ∀ G : Hh, slD TT none (some (-1)) G = some (.tup D1, G) := fun G => by rw [hTT, hD1]; rfl
  have s2 : ∀ G : Hh, slD TT none (some A) G = some (.tup D2, G) := fun G => by rw [hTT, hD2]; rfl
  have s3 : ∀ G : Hh, slD TT (some (A + 1)) none G = some (.tup D3, G) := fun G => by rw [hTT, hD3]; rfl
  have d1 : ∀ (o : Z.D) (G : Hh), binD .Add (.tup D2) (.tup [o]) G = some (.tup (D2 ++ [o]), G) := fun o G => bin_addtupD (by simp; omega)
  have d2 : ∀ (o : Z.D) (G : Hh), binD .Add (.tup (D2 ++ [o])) (.tup D3) G = some (.tup (D2 ++ o :: D3), G) := fun o G => by
    rw [bin_addtupD (by simp; omega), List.append_assoc]; rfl
  have d3 : ∀ (o : Z.D) (G : Hh), binD .Add TT (.tup [o]) G = some (.tup (LT ++ [o]), G) := fun o G => by rw [hTT]; exact bin_addtupD (by simp; omega)
  have fin : ∀ (o : Z.D) (u : Hh), tyD (h ++ u) o ≠ none → gcQ h (fun d h' => ∃ t, h' = h ++ t ∧ tyOk h' d ∧ lenOk d) (.tup (D2 ++ o :: D3)) (h ++ u) := fun o u ho => by
    refine gc_ty2 (tyOk_ints fun x hx => ?_) fun ds e => ?_
    · rcases List.mem_append.mp hx with hx | hx
      · exact y2 _ x hx
      · rcases List.mem_cons.mp hx with rfl | hx
        · exact ho
        · exact y3 _ x hx
    · cases e; simp; omega
  have fin0 : ∀ (o : Z.D), tyD h o ≠ none → gcQ h (fun d h' => ∃ t, h' = h ++ t ∧ tyOk h' d ∧ lenOk d) (.tup (D2 ++ o :: D3)) h := fun o ho => by
    have := fin o [] (by simpa using ho)
    simpa using this
  have r3 : ∀ G : Hh, ixD (R4 P D T S) (.int 3) G = some (.int S, G) := fun _ => rfl
  obtain ⟨R, hR⟩ : ∃ R, R = R4 P D T S := ⟨_, rfl⟩
  rw [← hTI]
  rw [← hR] at r3 ⊢
  refine run_s rfl rfl ?_
  by_cases c3 : c % 7 = 3
  · obtain ⟨x, hx, hax⟩ := atI_mem (xs := [Z.D.ref h.length, .tup (LT ++ [.int (last0 ys)]), .tup D1, .tup [TT], .utx, .tup (LT ++ [.int 0]), TT]) (i := c / 7 % 7) (by omega) (by simp; omega)
    simp_arith [e6_0, e6_1, e6_2, e6_3, e6_4, e6_5, e6_6, e6_7, e6_8, e6_9, e6_10, e6_11, e6_12, e6_13, eN, hpos, hA, hbe, c3, eL, hlast, d3, s1, hstr, ixO_lst, hax]
    have ti : ∀ (G : Hh) (L : List Z.D), L.length ≤ 200 → (∀ x ∈ L, tyD G x ≠ none) → tyOk G (.tup L) ∧ lenOk (.tup L) := fun G L hl hx => ⟨tyOk_ints hx, fun ds e => by cases e; exact hl⟩
    suffices hh : tyOk (h ++ [.lst LT, .lst [Z.D.ref h.length, .tup (LT ++ [.int (last0 ys)]), .tup D1, .tup [TT], .utx, .tup (LT ++ [.int 0]), TT]]) x ∧ lenOk x by exact gc_ty2 hh.1 hh.2
    rcases List.mem_cons.mp hx with rfl | hx
    · exact ⟨⟨ty_lst (by rw [h_at0]; rfl), fun ds e => nomatch e⟩, fun ds e => nomatch e⟩
    rcases List.mem_cons.mp hx with rfl | hx
    · refine ti _ _ (by simp; omega) fun x hx => ?_
      rcases List.mem_append.mp hx with hx | hx
      · exact tyL _ x hx
      · rw [List.mem_singleton.mp hx]; exact ty_i
    rcases List.mem_cons.mp hx with rfl | hx
    · exact ti _ _ (by omega) (y1 _)
    rcases List.mem_cons.mp hx with rfl | hx
    · refine ti _ _ (by simp) fun x hx => ?_
      rw [List.mem_singleton.mp hx, hTT]; exact fun z => nomatch z
    rcases List.mem_cons.mp hx with rfl | hx
    · exact ⟨⟨(fun z => nomatch z), fun ds e => nomatch e⟩, fun ds e => nomatch e⟩
    rcases List.mem_cons.mp hx with rfl | hx
    · refine ti _ _ (by simp; omega) fun x hx => ?_
      rcases List.mem_append.mp hx with hx | hx
      · exact tyL _ x hx
      · rw [List.mem_singleton.mp hx]; exact ty_i
    rcases List.mem_cons.mp hx with rfl | hx
    · rw [hTT]; exact ti _ _ (by omega) (tyL _)
    cases hx
  · by_cases c0 : c % 7 = 0
    · simp_arith [e6_0, e6_1, e6_2, e6_3, e6_4, e6_5, e6_6, e6_7, e6_8, e6_9, e6_10, e6_11, e6_12, e6_13, eN, hpos, hA, hbe, c0, r3, s2, s3, d1, d2]
      exact fin0 _ ty_i
    · by_cases c1 : c % 7 = 1
      · simp_arith [e6_0, e6_1, e6_2, e6_3, e6_4, e6_5, e6_6, e6_7, e6_8, e6_9, e6_10, e6_11, e6_12, e6_13, eN, hpos, hA, hbe, c1, r3, s2, s3, d1, d2]
        exact fin0 _ ty_i
      · by_cases c5 : c % 7 = 5
        · obtain ⟨x, hx, hax⟩ := atI_mem (xs := [Z.D.bl true, .bl false, .non, .str "0", .tup [.int 0], .ref h.length]) (i := c / 7 / 24 % 6) (by omega) (by simp; omega)
          simp_arith [e6_0, e6_1, e6_2, e6_3, e6_4, e6_5, e6_6, e6_7, e6_8, e6_9, e6_10, e6_11, e6_12, e6_13, eN, hpos, hA, hbe, c5, s2, s3, d1, d2, ixO_lst, hax]
          refine fin x [O.lst [.int 0], O.lst [Z.D.bl true, .bl false, .non, .str "0", .tup [.int 0], .ref h.length]] ?_
          rcases List.mem_cons.mp hx with rfl | hx
          · exact fun z => nomatch z
          rcases List.mem_cons.mp hx with rfl | hx
          · exact fun z => nomatch z
          rcases List.mem_cons.mp hx with rfl | hx
          · exact fun z => nomatch z
          rcases List.mem_cons.mp hx with rfl | hx
          · exact fun z => nomatch z
          rcases List.mem_cons.mp hx with rfl | hx
          · exact fun z => nomatch z
          rcases List.mem_cons.mp hx with rfl | hx
          · exact ty_lst (by rw [h_at0]; rfl)
          cases hx
        · simp_arith [e6_0, e6_1, e6_2, e6_3, e6_4, e6_5, e6_6, e6_7, e6_8, e6_9, e6_10, e6_11, e6_12, e6_13, eN, hpos, hA, hbe, c3, c0, c1, c5, s2, s3, d1, d2]
          exact fin0 _ ty_i
end ZL


namespace ZL
open PySem PySem.Spec PyProof.Rows Z Y
variable {h : Hh} {Q : KD} {X : KX} {ns : List Int} {n : Nat}
theorem gcQ_bl {G : Hh} : gcQ h (fun d _ => d = .bl true) (.bl true) G := by
  unfold gcQ gcv
  split
  · rw [if_pos (show bel h.length (.bl true) = true from rfl)]
  · rfl
theorem run_law (ns : List Int) (hl : ns.length ≤ 63) (hb : ∀ z ∈ ns, Builtin.Int.intBits z ≤ 1048576) : pg.run 6 9 [.ref 0] (scr ns) (fun d _ => d = .bl true) (fun _ _ => False) := by
  have hs : (scr ns)[0]? = some (.fro (ns.map .int)) := rfl
  generalize scr ns = h at hs ⊢
  have hl0 := lt_of_at hs
  have hD := rD_b ns
  have hP := rP_b ns
  have hS := rS_b ns
  have hrul := fun (Q : KD) (X : KX) => sp_rules (n := 3) (Q := Q) (X := X) hs
  generalize rP ns = P at *
  generalize rD ns = D at *
  generalize rT ns = T at *
  generalize rS ns = S at *
  have hP0 : 0 ≤ P := by omega
  have hcut := fun (Q : KD) (X : KX) => sp_cuts (n := 3) (P := P) (D := D) (T := T) (S := S) (b := 4) (Q := Q) (X := X) hs hP0 (by omega) (by omega) (by omega) (by omega) (by omega)
  obtain ⟨q1, q2⟩ := cutsN_ok (ns := ns) (b := 4) (D := D) (S := S) (by omega) (by omega) P.toNat
  have q3 := cutsN_isC (ns := ns) (b := 4) (D := D) (S := S) (by omega) (by omega) P.toNat
  generalize cutsN D S ns 4 P.toNat = ys at *
  have tyI : ∀ (G : Hh) (zs : List Int), tyOk G (tI zs) := fun G zs => tyOk_ints fun x hx => by
    obtain ⟨i, _, rfl⟩ := List.mem_map.mp hx
    exact ty_i
  have lnI : ∀ (zs : List Int), zs.length ≤ 100 → ∀ ds, tI zs = .tup ds → ds.length < 1000000 := fun zs hz ds e => by
    cases e
    rw [List.length_map]; omega
  have t1 : ∀ (G : Hh) (zs : List Int), zs.length ≤ 100 → isC D S P.toNat zs → ∀ (Q : KD) (X : KX), pg.run 5 8 [R4 P D T S, tI zs, .bl true] G Q X = Q (.bl true) G := fun G zs hz hc Q X => by
    rw [sp_told (n := 2) hP0 (tyI G zs) (lnI zs hz), isCT_ints, decide_eq_true hc]; rfl
  have hone := fun (G : Hh) => t1 G ys (by omega) q3
  have hfst := fun (G : Hh) (Q : KD) (X : KX) => sp_first (n := 4) (h := G) (P := P) (D := D) (T := T) (S := S) (Q := Q) (X := X) hP0 (by omega)
  have hzc : isC D S P.toNat (List.replicate P.toNat 0) := by
    refine ⟨by simp, fun y hy => by rw [List.eq_of_mem_replicate hy]; omega, stepOk_at.mpr fun i hi => ?_⟩
    have g : ∀ j, (List.replicate P.toNat (0 : Int)).getD j 0 = 0 := fun j => by
      rw [List.getD_eq_getElem?_getD, List.getElem?_replicate]
      split <;> rfl
    rw [g, g]; simp; omega
  have hz0 := fun (G : Hh) => t1 G (List.replicate P.toNat 0) (by simp; omega) hzc
  have hthing := fun (G : Hh) (c : Int) => sp_thing (n := 4) (h := G) (P := P) (D := D) (T := T) (S := S) (c := c) (ys := ys) (by omega) (by omega) (fun y hy => by have := q2 y hy; omega)
  have hgood := fun (G : Hh) (d : Z.D) (a : tyOk G d) (b : lenOk d) (Q : KD) (X : KX) => sp_good (n := 4) (h := G) (P := P) (D := D) (T := T) (S := S) (Q := Q) (X := X) hP0 a (fun ds e => by have := b ds e; omega)
  have htold := fun (G : Hh) (d : Z.D) (k : Bool) (a : tyOk G d) (b : lenOk d) (Q : KD) (X : KX) => sp_told (n := 2) (h := G) (P := P) (D := D) (T := T) (S := S) (k := k) (Q := Q) (X := X) hP0 a (fun ds e => by have := b ds e; omega)
  have r0 : ∀ G : Hh, ixD (R4 P D T S) (.int 0) G = some (.int P, G) := fun _ => rfl
  obtain ⟨R, hR⟩ : ∃ R, R = R4 P D T S := ⟨_, rfl⟩
  rw [← hR] at r0
  have hrul : ∀ (Q : KD) (X : KX), pg.run 5 4 [.ref 0] h Q X = Q R h := fun Q X => by rw [hR]; exact hrul Q X
  have hcut : ∀ (Q : KD) (X : KX), pg.run 5 5 [R, .ref 0, .int 4] h Q X = Q (tI ys) h := fun Q X => by rw [hR]; exact hcut Q X
  have hone : ∀ (G : Hh) (Q : KD) (X : KX), pg.run 5 8 [R, tI ys, .bl true] G Q X = Q (.bl true) G := fun G Q X => by rw [hR]; exact hone G Q X
  have hz0 : ∀ (G : Hh) (Q : KD) (X : KX), pg.run 5 8 [R, tI (List.replicate P.toNat 0), .bl true] G Q X = Q (.bl true) G := fun G Q X => by rw [hR]; exact hz0 G Q X
  have hfst : ∀ (G : Hh) (Q : KD) (X : KX), pg.run 5 2 [R] G Q X = Q (tI (List.replicate P.toNat 0)) G := fun G Q X => by rw [hR]; exact hfst G Q X
  obtain ⟨TT, hTT⟩ : ∃ A, A = tI ys := ⟨_, rfl⟩
  rw [← hTT] at hcut hone hthing
  refine run_s rfl rfl ?_
  simp_arith [e9_14, e9_13, e9_12, e9_10, hrul, hcut, hone, s_for, hs]
  refine walk_allL (xs := ns.take 60) (enc := .int) (good := fun _ => True) (I := fun env h' => ∃ a b t, env = [some (.ref 0), some R, some TT, a, b, none, none, none] ∧ h' = h ++ O.lst ((ns.map Z.D.int).take 60) :: t) (by rw [List.map_take]) ?_ ⟨_, _, [], rfl, rfl⟩ ?_ ?_
  · rintro env h' ⟨a, b, t, rfl, rfl⟩
    rw [h_at0]; rfl
  · rintro v _ env h' ⟨a, b, t, rfl, rfl⟩ K hK
    generalize hH : h ++ O.lst ((ns.map Z.D.int).take 60) :: t = H
    obtain ⟨dd, u, hty, hln, hth⟩ := hthing H v
    have hg := hgood _ dd hty hln
    have ht := htold _ dd (isCT P.toNat D S dd) hty hln
    rw [← hR] at hth hg ht
    have fin := fun a b => hK trivial [some (.ref 0), some R, some TT, a, b, none, none, none] (H ++ u) ⟨_, _, t ++ u, rfl, by rw [← hH]; simp⟩
    generalize isCT P.toNat D S dd = kk at *
    simp_arith [e9_9, e9_8, hth, hg, ht]
    exact fin _ _
  · rintro _ env h' ⟨a, b, t, rfl, rfl⟩
    simp_arith [e9_6, s_for]
    generalize hL : [Z.D.non, Z.D.int 0, Z.D.str (Str.ofString "0-0"), Z.D.ref (h.length + (t.length + 1)), Z.D.ref (h.length + (t.length + 1 + 1)), Z.D.tup []] = L
    generalize hH : h ++ O.lst ((ns.map Z.D.int).take 60) :: (t ++ [O.lst [], O.dct [], O.lst L]) = H
    have g1 : H[h.length + (t.length + 2 + 1)]? = some (.lst L) := by rw [← hH, h_at, List.getElem?_cons_succ, h_at]; rfl
    have g2 : H[h.length + (t.length + 1)]? = some (.lst []) := by rw [← hH, h_at, List.getElem?_cons_succ, h_at0]; rfl
    have g3 : H[h.length + (t.length + 1 + 1)]? = some (.dct []) := by rw [← hH, h_at, List.getElem?_cons_succ, h_at]; rfl
    have r : ∀ d : Z.D, tyOk H d → lenOk d → isCT P.toNat D S d = false → ∀ Q X, pg.run 5 8 [R, d, .bl false] H Q X = Q (.bl true) H := fun d a b c Q X => by rw [hR, htold H d false a b, c]; rfl
    have tsimple : ∀ (d : Z.D), tyD H d ≠ none → (∀ ds, d ≠ .tup ds) → tyOk H d ∧ lenOk d := fun d a b => ⟨⟨a, fun ds e => absurd e (b ds)⟩, fun ds e => absurd e (b ds)⟩
    have s1 := tsimple .non (fun z => nomatch z) fun _ z => nomatch z
    have s2 := tsimple (.int 0) (fun z => nomatch z) fun _ z => nomatch z
    have s3 := tsimple (.str (Str.ofString "0-0")) (fun z => nomatch z) fun _ z => nomatch z
    have s4 := tsimple (.ref (h.length + (t.length + 1))) (by rw [ty_ref, g2]; exact fun z => nomatch z) fun _ z => nomatch z
    have s5 := tsimple (.ref (h.length + (t.length + 1 + 1))) (by rw [ty_ref, g3]; exact fun z => nomatch z) fun _ z => nomatch z
    have r1 := r .non s1.1 s1.2 rfl
    have r2 := r (.int 0) s2.1 s2.2 rfl
    have r3 := r (.str (Str.ofString "0-0")) s3.1 s3.2 rfl
    have r4 := r (.ref (h.length + (t.length + 1))) s4.1 s4.2 rfl
    have r5 := r (.ref (h.length + (t.length + 1 + 1))) s5.1 s5.2 rfl
    have r6 := r (.tup []) (tyOk_ints fun x hx => nomatch hx) (fun ds e => by cases e; simp) (by
      have := isCT_ints (P := P.toNat) (D := D) (S := S) (ys := [])
      rw [List.map_nil] at this
      rw [this]
      exact decide_eq_false fun z => by have := z.1; simp at this; omega)
    rw [← hL] at g1 ⊢
    simp_arith [e9_5, e9_3, walk_cons, walk_nil, g1, r1, r2, r3, r4, r5, r6, hfst]
    obtain ⟨ZT, hZT⟩ : ∃ A, A = tI (List.replicate P.toNat 0) := ⟨_, rfl⟩
    have tyT : ∀ G : Hh, tyD G ZT = some "tuple" := fun G => by rw [hZT]; rfl
    have itT : ∀ G : Hh, wkOf G ZT = some (Wk.pure ((List.replicate P.toNat (0 : Int)).map Z.D.int)) := fun G => by rw [hZT]; rfl
    rw [← hZT] at hz0 ⊢
    simp_arith [e9_2, tyT, itT, z_cpr]
    refine cpr_list (List.replicate P.toNat (0 : Int)) Z.D.int (fun _ => none) (by simp [Wk.items]) (by simp; omega) ?_ ?_ ?_
    · exact fun _ => trivial
    · intro i hi acc K hK
      simp_arith [e9_2]
      exact hK
    · have en : (List.replicate P.toNat (0 : Int)).filterMap (fun _ => (none : Option Z.D)) = [] := by
        induction P.toNat with
        | zero => rfl
        | succ m ih => rw [List.replicate_succ, List.filterMap_cons, ih]
      rw [en]
      simp_arith [e9_2, e9_0, r0, z_cpr]
      refine cpr_range (m := P.toNat) (fun (_ : Nat) => (0 : Int)) (by simp [Wk.items]) (by omega) ?_ ?_ ?_
      · exact fun _ => trivial
      · intro i hi acc K hK
        simp_arith [e9_0]
        rw [List.append_assoc] at hK
        exact hK
      · have em : (List.range P.toNat).map (fun (_ : Nat) => (0 : Int)) = List.replicate P.toNat 0 := by
          rw [List.map_const', List.length_range]
        rw [em]
        have qq : ∀ G : Hh, eqD G ZT (.tup ((List.replicate P.toNat (0 : Int)).map Z.D.int)) = some true := fun G => by
          rw [hZT]
          show eqD G (tI _) (tI _) = _
          rw [eq_tI]; simp
        simp_arith [e9_0, qq, hz0]
        exact gcQ_bl
end ZL


open PySem PySem.W PyProof.Rows
set_option maxHeartbeats 0 in
theorem PySem.Challenge.cw_wardsmith_k04_what_are_cuts_holds : PySem.Challenge.rw_wardsmith_k04_what_are_cuts.Holds := by
  refine zfront ?_
  k_fill
  refine L2.walk_ofB (l := PySem.Challenge.rw_wardsmith_k04_what_are_cuts) (n := 63) (k := 14) (x := "_law_script") (CX := fun w => L2.CX PySem.Challenge.pw_wardsmith_k04_what_are_cuts w) (sp := fun w => Z.spTop _) rfl (by decide) rfl ⟨rfl, by decide, by decide⟩ (fun w h Y => PySem.W.kIn_of Y) ?F (fun _ _ a ns hl hb hO hS => ⟨a, ns, rfl, hO, hS, hl, hb, fun _ => rfl⟩) (fun _ _ _ _ _ h => Z.cx_no h)
  case F =>
    as_aux_lemma =>
      intro w mg fa h KX G hmg0
      have hmg : mg "law" = some (.ref fa) := hmg0
      clear hmg0
      refine' Z.end_mk (nm := ZL.nm) (pg := ZL.pg) (cl := fun _ => none) (f := 9) (n := 5) (x := "law") (y := "_law_script") (N := ["_law_script", "_law_rules_here", "_law_one", "_law_cell", "_law_thing_here", "_law_first", "_law_depth", "_law_k"]) (nd := ⟨1, 8, ZL.b9_14, none⟩) (st := ZL.tp 12) KX G hmg ZL.ds ?k ?ml ?z ?xk ?con rfl rfl rfl ⟨rfl, rfl, rfl, by decide +kernel, rfl, by decide +kernel, by decide +kernel⟩ ⟨rfl, rfl⟩ rfl (by decide +kernel) (fun _ _ _ _ _ _ us hl => match us, hl with | [_], _ => rfl) ZL.run_law
      case k =>
        show Z.DefKs _ ["is_whole", "is_cuts", "first_cuts", "_law_mixed", "_law_rules", "_law_cuts", "_law_thing", "_law_good", "_law_told", "law"] [none, none, none, none, none, none, none, none, none, none] [ZL.tp 1, ZL.tp 3, ZL.tp 4, ZL.tp 6, ZL.tp 7, ZL.tp 8, ZL.tp 9, ZL.tp 10, ZL.tp 11, ZL.tp 12]
        refine' .cons (.of ?a0 ?l0 ?c0 ?k0) (.cons (.of ?a1 ?l1 ?c1 ?k1) (.cons (.of ?a2 ?l2 ?c2 ?k2) (.cons (.of ?a3 ?l3 ?c3 ?k3) (.cons (.of ?a4 ?l4 ?c4 ?k4) (.cons (.of ?a5 ?l5 ?c5 ?k5) (.cons (.of ?a6 ?l6 ?c6 ?k6) (.cons (.of ?a7 ?l7 ?c7 ?k7) (.cons (.of ?a8 ?l8 ?c8 ?k8) (.cons (.of ?a9 ?l9 ?c9 ?k9) (.nil))))))))))
        (case a0 => k_is); (case l0 => k_is); (case c0 => k_is); (case k0 => k_is)
        (case a1 => k_is); (case l1 => k_is); (case c1 => k_is); (case k1 => k_is)
        (case a2 => k_is); (case l2 => k_is); (case c2 => k_is); (case k2 => k_is)
        (case a3 => k_is); (case l3 => k_is); (case c3 => k_is); (case k3 => k_is)
        (case a4 => k_is); (case l4 => k_is); (case c4 => k_is); (case k4 => k_is)
        (case a5 => k_is); (case l5 => k_is); (case c5 => k_is); (case k5 => k_is)
        (case a6 => k_is); (case l6 => k_is); (case c6 => k_is); (case k6 => k_is)
        (case a7 => k_is); (case l7 => k_is); (case c7 => k_is); (case k7 => k_is)
        (case a8 => k_is); (case l8 => k_is); (case c8 => k_is); (case k8 => k_is)
        (case a9 => k_is); (case l9 => k_is); (case c9 => k_is); (case k9 => k_is)
      case ml =>
        show Z.MthSs _ _ [] []
        refine' .nil
      case z =>
        refine' ⟨?z0, ?z1, ?z2, ?z3, ?z4, ?z5, ?z6, ?z7, ?z8, ?z9, ?z10, ?z11, ?z12, ?z13, ?z14, ?z15, ?z16, ?z17, ?z18⟩
        (case z0 => k_is); (case z1 => k_is); (case z2 => k_is); (case z3 => k_is); (case z4 => k_is); (case z5 => k_is); (case z6 => k_is); (case z7 => k_is); (case z8 => k_is); (case z9 => k_is); (case z10 => k_is); (case z11 => k_is); (case z12 => k_is); (case z13 => k_is); (case z14 => k_is); (case z15 => k_is); (case z16 => k_is); (case z17 => k_is); (case z18 => k_is)
      case xk =>
        exact Z.ExK.nil rfl rfl rfl rfl rfl rfl
      case con =>
        exact fun _ k d e => nomatch e


