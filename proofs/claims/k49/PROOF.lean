import PyProof.Rows.All
import Wide.All
import OpenK.AllK
import Wide.FinOn
import HandS.ForMost
import HandS.Flow
import HandS.IsInst
import HandS.TupAny
import HandS.TupLe
import HandS.Style
import HandS.WordsExc
import HandS.More
import HandS.TupMul
import HandS.TryOnly
import HandS.Codes
import HandS.Defaults
import KE.DataMinMax
import KE.DataCmp
import HandS.Deep
import PyProof.StrOps2
import HandS.WideBits
import HandS.SetFor
import HandS.Rev
import HandS.RevTup
import PyProof.NoPylong
import HandS.Zip
import KE.KDictZip
import HandS.ListItems
import HandS.TryMany
import HandS.ExcField
import HandS.ExcInit
import HandS.ClsMeth
import HandS.Sort
import PySem.Challenge.RW_shelvesmoved_k49_whole_no_cart_less
set_option Elab.async false
set_option linter.all false
set_option maxRecDepth 100000
set_option maxHeartbeats 4000000

/-! # Mi1: a small language of values, heaps, expressions, statements, and what they do (plain functions) -/
namespace Mi
open PySem (Str PyData)
abbrev Key := Sum Int Str
abbrev SL : Nat := 16777216

inductive Val where
  | non | bl (b : Bool) | int (i : Int) | str (x : Str) | ref (n : Nat) | ty (s : String) | glo (x : Nat) | scr
  deriving DecidableEq, Repr
inductive Ob where
  | lst (xs : List Val) | tup (xs : List Val) | dic (kvs : List (Key × Val)) | ins (c : Nat) (fs : List (Str × Val))
  deriving DecidableEq, Repr
abbrev Heap := List Ob
inductive Res (α : Type) where
  | ok (a : α) (h : Heap) | exc (c : Nat) (fs : List (Str × Val)) (h : Heap) | bad
  deriving Repr
def Res.bind {α β : Type} (r : Res α) (f : α → Heap → Res β) : Res β :=
  match r with
  | .ok a h => f a h
  | .exc c fs h => .exc c fs h
  | .bad => .bad
@[simp] theorem Res.bind_ok {α β : Type} (a : α) (h : Heap) (f : α → Heap → Res β) : (Res.ok a h).bind f = f a h := rfl
@[simp] theorem Res.bind_bad {α β : Type} (f : α → Heap → Res β) : (Res.bad : Res α).bind f = .bad := rfl
@[simp] theorem Res.bind_exc {α β : Type} (c : Nat) (fs : List (Str × Val)) (h : Heap) (f : α → Heap → Res β) : (Res.exc c fs h : Res α).bind f = .exc c fs h := rfl
abbrev Sl := List (Option Val)

/-! ## data as trees -/
def mapO {α β : Type} (f : α → Option β) : List α → Option (List β)
  | [] => some []
  | x :: xs => match f x, mapO f xs with
    | some y, some ys => some (y :: ys)
    | _, _ => none
def keyD : Key → PyData
  | .inl i => .int i
  | .inr x => .str x
/-- the data that a value is, as deep as n -/
def rd : Nat → Heap → Val → Option PyData
  | _, _, .non => some .none
  | _, _, .bl b => some (.bool b)
  | _, _, .int i => some (.int i)
  | _, _, .str x => some (.str x)
  | n + 1, h, .ref k => match h[k]? with
    | some (.lst xs) => (mapO (rd n h) xs).map .list
    | some (.tup xs) => (mapO (rd n h) xs).map .tuple
    | some (.dic kvs) => (mapO (fun p : Key × Val => (rd n h p.2).map fun d => (keyD p.1, d)) kvs).map .dict
    | _ => none
  | _, _, _ => none

/-! ## truth, operators -/
def tru (h : Heap) : Val → Option Bool
  | .non => some false
  | .bl b => some b
  | .int i => some (i != 0)
  | .str x => if x.length ≤ SL then some ((x.length : Int) != 0) else none
  | .ref n => match h[n]? with
    | some (.lst xs) => some (!xs.isEmpty)
    | some (.tup xs) => some (!xs.isEmpty)
    | some (.dic kvs) => some (!kvs.isEmpty)
    | _ => none
  | _ => none
inductive Op where
  | add | sub | mul | fdiv | mod | pow | eq | ne | lt | le | gt | ge | is | isnot | in_ | notin
  deriving DecidableEq, Repr
def new (o : Ob) (h : Heap) : Res Val := .ok (.ref h.length) (h ++ [o])
def addV (x y : Val) (h : Heap) : Res Val :=
  match x, y with
  | .int i, .int j => .ok (.int (i + j)) h
  | .str a, .str b => if a.length + b.length ≤ SL then .ok (.str (a ++ b)) h else .bad
  | .ref m, .ref n => match h[m]?, h[n]? with
    | some (.lst xs), some (.lst ys) => if xs.length + ys.length ≤ SL then new (.lst (xs ++ ys)) h else .bad
    | some (.tup xs), some (.tup ys) => if xs.length + ys.length ≤ SL then (if xs = [] then .ok y h else if ys = [] then .ok x h else new (.tup (xs ++ ys)) h) else .bad
    | _, _ => .bad
  | _, _ => .bad
def subV (x y : Val) (h : Heap) : Res Val :=
  match x, y with
  | .int i, .int j => .ok (.int (i - j)) h
  | _, _ => .bad
/-- a text k times over -/
def repS (x : Str) (k : Int) : Str := ⟨(List.replicate k.toNat x.cps.toList).flatten.toArray⟩
def mulV (x y : Val) (h : Heap) : Res Val :=
  match x, y with
  | .int i, .int j => if (-(2 ^ 64) < i ∧ i < 2 ^ 64) ∨ (-(2 ^ 64) < j ∧ j < 2 ^ 64) then .ok (.int (i * j)) h else .bad
  | .ref m, .int k => match h[m]? with
    | some (.lst xs) => if -(2 ^ 63) ≤ k ∧ k < 2 ^ 63 ∧ xs.length * k.toNat ≤ SL then new (.lst (List.replicate k.toNat xs).flatten) h else .bad
    | some (.tup xs) => if xs ≠ [] ∧ 2 ≤ k ∧ k ≤ 1000 ∧ xs.length ≤ 1000 then new (.tup (List.replicate k.toNat xs).flatten) h else .bad
    | _ => .bad
  | .str a, .int k => if -(2 ^ 63) ≤ k ∧ k < 2 ^ 63 ∧ a.length * k.toNat ≤ SL then .ok (.str (repS a k)) h else .bad
  | _, _ => .bad
def fdivV (x y : Val) (h : Heap) : Res Val :=
  match x, y with
  | .int i, .int j => if 0 < j ∧ j < 1073741824 then .ok (.int (i / j)) h else .bad
  | _, _ => .bad
def modV (x y : Val) (h : Heap) : Res Val :=
  match x, y with
  | .int i, .int j => if 0 < j then .ok (.int (i % j)) h else .bad
  | _, _ => .bad
def powV (x y : Val) (h : Heap) : Res Val :=
  match x, y with
  | .int i, .int j => if 0 ≤ j ∧ j ≤ 1000000 ∧ i.natAbs < 2 ^ 64 then .ok (.int (i ^ j.toNat)) h else .bad
  | _, _ => .bad
def eqO (h : Heap) (x y : Val) : Option Bool :=
  match x, y with
  | .int i, .int j => some (decide (i = j))
  | .str a, .str b => some (decide (a = b))
  | .bl a, .bl b => some (decide (a = b))
  | _, _ => match rd 60 h x, rd 60 h y with
    | some d, some e => if PySem.SeqAt.shaped d = true ∧ PySem.SeqAt.shaped e = true then some (PyData.eqv d e) else none
    | _, _ => none
def ofB (o : Option Bool) (h : Heap) : Res Val :=
  match o with
  | some b => .ok (.bl b) h
  | none => .bad
def ltA (x y : Val) : Option Bool :=
  match x, y with
  | .int i, .int j => some (decide (i < j))
  | .str a, .str b => some (decide (a.cps.toList < b.cps.toList))
  | _, _ => none
def isSqD : PyData → Bool
  | .list _ => true
  | .tuple _ => true
  | _ => false
def ltO (h : Heap) (x y : Val) : Option Bool :=
  match x, y with
  | .ref m, .ref n => (match rd 60 h (.ref m), rd 60 h (.ref n) with
    | some d, some e => if PySem.SeqAt.shaped d = true ∧ PySem.SeqAt.shaped e = true ∧ PySem.W.alike d e = true ∧ isSqD d = true ∧ d.depth ≤ 60 then some (PySem.W.dataLt d e) else none
    | _, _ => none)
  | x, y => ltA x y
def leO (x y : Val) : Option Bool :=
  match x, y with
  | .int i, .int j => some (decide (i ≤ j))
  | .str a, .str b => some (!decide (b.cps.toList < a.cps.toList))
  | _, _ => none
def isO (x y : Val) : Option Bool :=
  match y with
  | .non => some (decide (x = .non))
  | .bl b => (match x with
    | .bl a => some (decide (a = b))
    | .scr => none
    | .ref _ => some false
    | .int _ => some false
    | .str _ => some false
    | .non => some false
    | _ => none)
  | _ => none
def flat : Val → Bool
  | .non => true | .bl _ => true | .int _ => true | .str _ => true
  | _ => false
def eqF : Val → Val → Bool
  | .non, .non => true
  | .bl a, .bl b => a == b
  | .bl a, .int b => (if a then 1 else 0) == b
  | .int a, .bl b => a == (if b then 1 else 0)
  | .int a, .int b => a == b
  | .str a, .str b => a == b
  | _, _ => false
def keyV : Val → Option Key
  | .int i => some (.inl i)
  | .str x => some (.inr x)
  | _ => none
def getK (kvs : List (Key × Val)) (k : Key) : Option Val := (kvs.find? fun kv => decide (kv.1 = k)).map (·.2)
def inO (h : Heap) (x y : Val) : Option Bool :=
  match y with
  | .str z => (match x with
    | .str w => (match w.cps.toList with
      | [c] => some (decide (c ∈ z.cps.toList))
      | _ => none)
    | _ => none)
  | .ref n => match h[n]? with
    | some (.lst xs) => if flat x = true ∧ xs.all flat = true then some (xs.any fun y => eqF y x) else none
    | some (.tup xs) => if flat x = true ∧ xs.all flat = true then some (xs.any fun y => eqF y x) else none
    | some (.dic kvs) => (match keyV x with
      | some k => some (getK kvs k).isSome
      | none => none)
    | _ => none
  | _ => none
def inD (h : Heap) (x y : Val) : Option Bool :=
  match rd 60 h x, rd 60 h y with
  | some d, some (.list ds) => if PySem.SeqAt.shaped d = true ∧ PySem.SeqAt.shaped (.list ds) = true then some (ds.any fun z => PyData.eqv z d) else none
  | _, _ => none
def inX (h : Heap) (x y : Val) : Option Bool :=
  match inO h x y with
  | some b => some b
  | none => inD h x y
def bop (o : Op) (x y : Val) (h : Heap) : Res Val :=
  match o with
  | .add => addV x y h
  | .sub => subV x y h
  | .mul => mulV x y h
  | .fdiv => fdivV x y h
  | .mod => modV x y h
  | .pow => powV x y h
  | .eq => ofB (eqO h x y) h
  | .ne => ofB ((eqO h x y).map (!·)) h
  | .lt => ofB (ltO h x y) h
  | .le => ofB (leO x y) h
  | .gt => ofB (ltA y x) h
  | .ge => ofB (leO y x) h
  | .is => ofB (isO x y) h
  | .isnot => ofB ((isO x y).map (!·)) h
  | .in_ => ofB (inX h x y) h
  | .notin => ofB ((inX h x y).map (!·)) h

/-- in place: ints, texts -/
def aop (o : Op) (x y : Val) (h : Heap) : Res Val :=
  match o, x, y with
  | .add, .int i, .int j => .ok (.int (i + j)) h
  | .sub, .int i, .int j => .ok (.int (i - j)) h
  | .add, .str a, .str b => if a.length + b.length ≤ SL then .ok (.str (a ++ b)) h else .bad
  | _, _, _ => .bad

/-! ## the surroundings: what a call gives, the module's constants, the script -/
structure G where
  call : Nat → List Val → Heap → Res Val
  glob : Nat → Option Val
  scr : List Int
  /-- the fields of the exception that is handled -/
  ex : Option (List (Str × Val))

/-! ## items, slices -/
def idxV (g : G) (x y : Val) (h : Heap) : Res Val :=
  match x, y with
  | .scr, .int i => (match L2.atI g.scr i with
    | some n => .ok (.int n) h
    | none => .bad)
  | .str z, .int i => if z.length ≤ SL then (match L2.atI z.cps.toList i with
    | some c => .ok (.str ⟨#[c]⟩) h
    | none => .bad) else .bad
  | .ref n, y => match h[n]? with
    | some (.lst xs) => (match y with
      | .int i => (match L2.atI xs i with
        | some v => .ok v h
        | none => .bad)
      | _ => .bad)
    | some (.tup xs) => (match y with
      | .int i => (match L2.atI xs i with
        | some v => .ok v h
        | none => .bad)
      | _ => .bad)
    | some (.dic kvs) => (match keyV y with
      | some k => (match getK kvs k with
        | some v => .ok v h
        | none => .bad)
      | none => .bad)
    | _ => .bad
  | _, _ => .bad
def slcV (x : Val) (lo hi : Option Int) (h : Heap) : Res Val :=
  match x with
  | .str z => if z.length ≤ SL then .ok (.str (L2.cutS z lo hi)) h else .bad
  | .ref n => match h[n]? with
    | some (.lst xs) => new (.lst ((xs.drop (HT.sIx xs.length 0 lo)).take (HT.sIx xs.length xs.length hi - HT.sIx xs.length 0 lo))) h
    | some (.tup xs) => if HT.sIx xs.length 0 lo = 0 ∧ HT.sIx xs.length xs.length hi = xs.length then .ok x h
      else new (.tup ((xs.drop (HT.sIx xs.length 0 lo)).take (HT.sIx xs.length xs.length hi - HT.sIx xs.length 0 lo))) h
    | _ => .bad
  | _ => .bad

/-! ## built-in functions -/
def intsO : List Val → Option (List Int)
  | [] => some []
  | .int i :: r => (intsO r).map (i :: ·)
  | _ => none
def blsO : List Val → Option (List Bool)
  | [] => some []
  | .bl i :: r => (blsO r).map (i :: ·)
  | _ => none
def strsO : List Val → Option (List Str)
  | [] => some []
  | .str i :: r => (strsO r).map (i :: ·)
  | _ => none
def maxL (ns : List Int) : Int := ns.foldl max (ns.headD 0)
def minL (ns : List Int) : Int := ns.foldl min (ns.headD 0)
/-- the items of a list or a tuple -/
def seqO (h : Heap) : Val → Option (List Val)
  | .ref n => match h[n]? with
    | some (.lst xs) => some xs
    | some (.tup xs) => some xs
    | _ => none
  | _ => none
def lstO (h : Heap) : Val → Option (List Val)
  | .ref n => match h[n]? with
    | some (.lst xs) => some xs
    | _ => none
  | _ => none
/-- isinstance against a built-in type -/
def tyO (h : Heap) : Val → Option String
  | .non => some "NoneType"
  | .bl _ => some "bool"
  | .int _ => some "int"
  | .str _ => some "str"
  | .ref n => match h[n]? with
    | some (.lst _) => some "list"
    | some (.tup _) => some "tuple"
    | some (.dic _) => some "dict"
    | _ => none
  | _ => none
def isTy (a b : String) : Bool := a == b || (a == "bool" && b == "int")
def okTy (b : String) : Bool := b == "int" || b == "bool" || b == "str" || b == "list" || b == "tuple" || b == "dict"
def tysO : List Val → Option (List String)
  | [] => some []
  | .ty i :: r => if okTy i then (tysO r).map (i :: ·) else none
  | _ => none
inductive Pr where
  | len | max | min | sum | all | any | int | str | bool | list | tuple | isinst | repr | divmod
  deriving DecidableEq, Repr
def lenV (g : G) (h : Heap) : Val → Option Nat
  | .scr => some g.scr.length
  | .str z => if z.length ≤ SL then some z.length else none
  | .ref n => match h[n]? with
    | some (.lst xs) => some xs.length
    | some (.tup xs) => some xs.length
    | some (.dic kvs) => some kvs.length
    | _ => none
  | _ => none
def maxV (f : Int → Int → Int) (fl : List Int → Int) (h : Heap) (vs : List Val) : Res Val :=
  match vs with
  | [.int i, .int j] => .ok (.int (f i j)) h
  | [x] => (match (seqO h x).bind intsO with
    | some ns => if 0 < ns.length then .ok (.int (fl ns)) h else .bad
    | none => .bad)
  | _ => .bad
def pri (g : G) (p : Pr) (vs : List Val) (h : Heap) : Res Val :=
  match p with
  | .len => (match vs with
    | [x] => (match lenV g h x with
      | some n => .ok (.int n) h
      | none => .bad)
    | _ => .bad)
  | .max => maxV (fun i j => if j > i then j else i) maxL h vs
  | .min => maxV (fun i j => if j < i then j else i) minL h vs
  | .sum => (match vs with
    | [x] => (match (seqO h x).bind intsO with
      | some ns => .ok (.int ns.sum) h
      | none => .bad)
    | _ => .bad)
  | .all => (match vs with
    | [x] => (match (lstO h x).bind blsO with
      | some ns => .ok (.bl (ns.all id)) h
      | none => .bad)
    | _ => .bad)
  | .any => (match vs with
    | [x] => (match (lstO h x).bind blsO with
      | some ns => .ok (.bl (ns.any id)) h
      | none => .bad)
    | _ => .bad)
  | .int => (match vs with
    | [.int i] => .ok (.int i) h
    | [.bl b] => .ok (.int (if b then 1 else 0)) h
    | [.str x] => (match PySem.intText? x with
      | some n => if x.length ≤ 640 then .ok (.int n) h else .bad
      | none => .bad)
    | _ => .bad)
  | .str => (match vs with
    | [.int i] => if i.natAbs.log2 < 1920 then .ok (.str (Str.ofString (toString i))) h else .bad
    | [.str x] => .ok (.str x) h
    | _ => .bad)
  | .bool => (match vs with
    | [.int i] => .ok (.bl (i != 0)) h
    | [.bl b] => .ok (.bl b) h
    | _ => .bad)
  | .list => (match vs with
    | [x] => (match seqO h x with
      | some xs => new (.lst xs) h
      | none => .bad)
    | _ => .bad)
  | .tuple => (match vs with
    | [x] => (match x with
      | .ref n => (match h[n]? with
        | some (.lst xs) => new (.tup xs) h
        | some (.tup _) => .ok x h
        | _ => .bad)
      | _ => .bad)
    | _ => .bad)
  | .isinst => (match vs with
    | [x, .ty t] => (match tyO h x with
      | some s => if okTy t then .ok (.bl (isTy s t)) h else .bad
      | none => .bad)
    | [x, .ref n] => (match tyO h x, h[n]? with
      | some s, some (.tup ts) => (match tysO ts with
        | some us => .ok (.bl (us.any (isTy s))) h
        | none => .bad)
      | _, _ => .bad)
    | _ => .bad)
  | .repr => (match vs with
    | [x] => (match rd 60 h x with
      | some d => if d.showable = true ∧ d.depth ≤ 60 ∧ d.shown.length ≤ SL then .ok (.str d.shown) h else .bad
      | none => .bad)
    | _ => .bad)
  | .divmod => (match vs with
    | [.int i, .int j] => if 0 < j ∧ j < 1073741824 then new (.tup [.int (i / j), .int (i % j)]) h else .bad
    | _ => .bad)

/-- xs[::-1] -/
def revV (x : Val) (h : Heap) : Res Val :=
  match lstO h x with
  | some xs => new (.lst xs.reverse) h
  | none => .bad
/-- the two things of a pair -/
def twoV (v : Val) (h : Heap) : Res (Val × Val) :=
  match v with
  | .ref n => (match h[n]? with
    | some (.tup [x, y]) => .ok (x, y) h
    | _ => .bad)
  | _ => .bad

/-! ## methods of built-in types -/
def putK (kvs : List (Key × Val)) (k : Key) (v : Val) : List (Key × Val) :=
  if (kvs.any fun kv => decide (kv.1 = k)) = true then kvs.map (fun kv => if kv.1 = k then (kv.1, v) else kv) else kvs ++ [(k, v)]
inductive Me where
  | append | join | split | insert | pop | clear | extend | sindex | count
  deriving DecidableEq, Repr
def met (m : Me) (x : Val) (vs : List Val) (h : Heap) : Res Val :=
  match m with
  | .append => (match x, vs with
    | .ref n, [y] => (match h[n]? with
      | some (.lst xs) => if xs.length < SL then .ok .non (h.set n (.lst (xs ++ [y]))) else .bad
      | _ => .bad)
    | _, _ => .bad)
  | .join => (match x, vs with
    | .str a, [y] => (match (seqO h y).bind strsO with
      | some ys => if (ys.map (·.length)).sum + ys.length * a.length ≤ SL then .ok (.str (PySem.Txt.join a ys)) h else .bad
      | none => .bad)
    | _, _ => .bad)
  | .split => (match x, vs with
    | .str a, [.str b] => if (b.length == 0) = false ∧ a.length + 2 ≤ SL then new (.lst ((PySem.Txt.split a b).map .str)) h else .bad
    | _, _ => .bad)
  | .insert => (match x, vs with
    | .ref n, [.int i, y] => (match h[n]? with
      | some (.lst xs) => if xs.length < SL ∧ 0 ≤ i ∧ i < 2 ^ 63 then .ok .non (h.set n (.lst (xs.take i.toNat ++ [y] ++ xs.drop i.toNat))) else .bad
      | _ => .bad)
    | _, _ => .bad)
  | .pop => (match x, vs with
    | .ref n, [] => (match h[n]? with
      | some (.lst xs) => (match xs[xs.length - 1]? with
        | some y => .ok y (h.set n (.lst xs.dropLast))
        | none => .bad)
      | _ => .bad)
    | .ref n, [.int i] => (match h[n]? with
      | some (.lst xs) => (match L2.ixN xs.length i with
        | some k => (match xs[k]? with
          | some y => .ok y (h.set n (.lst (xs.eraseIdx k)))
          | none => .bad)
        | none => .bad)
      | _ => .bad)
    | _, _ => .bad)
  | .clear => (match x, vs with
    | .ref n, [] => (match h[n]? with
      | some (.lst _) => .ok .non (h.set n (.lst []))
      | _ => .bad)
    | _, _ => .bad)
  | .extend => (match x, vs with
    | .ref n, [.ref m] => (match h[n]?, h[m]? with
      | some (.lst xs), some (.lst ys) => if xs.length + ys.length ≤ SL then .ok .non (h.set n (.lst (xs ++ ys))) else .bad
      | _, _ => .bad)
    | _, _ => .bad)
  | .sindex => (match x, vs with
    | .str a, [.str b] => (match PySem.Builtin.Str.occurrences a b 0 a.length 1 with
      | i :: _ => .ok (.int (i : Nat)) h
      | [] => .bad)
    | _, _ => .bad)
  | .count => (match x, vs with
    | .ref n, [.int k] => (match h[n]? with
      | some (.lst xs) => (match intsO xs with
        | some ns => .ok (.int (ns.count k : Nat)) h
        | none => .bad)
      | _ => .bad)
    | _, _ => .bad)
/-- what a receiver must be -/
def rcv (m : Me) (x : Val) (h : Heap) : Bool :=
  match m with
  | .append => (lstO h x).isSome
  | .insert => (lstO h x).isSome
  | .pop => (lstO h x).isSome
  | .clear => (lstO h x).isSome
  | .extend => (lstO h x).isSome
  | .count => (lstO h x).isSome
  | .join => match x with | .str _ => true | _ => false
  | .split => match x with | .str _ => true | _ => false
  | .sindex => match x with | .str _ => true | _ => false
/-- o[i] = v -/
def setV (o i v : Val) (h : Heap) : Res Unit :=
  match o with
  | .ref n => match h[n]? with
    | some (.lst xs) => (match i with
      | .int k => (match L2.ixN xs.length k with
        | some j => .ok () (h.set n (.lst (xs.set j v)))
        | none => .bad)
      | _ => .bad)
    | some (.dic kvs) => (match keyV i with
      | some k => if kvs.length < SL then .ok () (h.set n (.dic (putK kvs k v))) else .bad
      | none => .bad)
    | _ => .bad
  | _ => .bad

/-! ## expressions -/
/-- where a value goes: a slot, a tuple of slots -/
inductive Tg where
  | nm (i : Nat) | tp (is : List Nat)
  deriving DecidableEq, Repr
def setAll : List Nat → List Val → Sl → Option Sl
  | [], [], σ => some σ
  | i :: is, v :: vs, σ => setAll is vs (σ.set i (some v))
  | _, _, _ => none
def tgV (t : Tg) (v : Val) (σ : Sl) (h : Heap) : Option Sl :=
  match t with
  | .nm i => some (σ.set i (some v))
  | .tp is => match v with
    | .ref n => (match h[n]? with
      | some (.tup vs) => setAll is vs σ
      | some (.lst vs) => setAll is vs σ
      | _ => none)
    | _ => none
/-- what a loop walks: at each turn an item, perhaps a pair that is made there; the things walked must stand -/
inductive It where
  | v (x : Val) | pr (x y : Val) | tr (x y z : Val)
  deriving DecidableEq, Repr
structure Walk where
  items : List It
  stands : List (Nat × Ob)
def Walk.ok (w : Walk) (h : Heap) : Bool := w.stands.all fun p => decide (h[p.1]? = some p.2)
def yieldI (i : It) (h : Heap) : Val × Heap :=
  match i with
  | .v x => (x, h)
  | .pr x y => (.ref h.length, h ++ [.tup [x, y]])
  | .tr x y z => (.ref h.length, h ++ [.tup [x, y, z]])
def walkV (x : Val) (h : Heap) : Option Walk :=
  match x with
  | .str z => some ⟨z.cps.toList.map fun c => .v (.str ⟨#[c]⟩), []⟩
  | .ref n => match h[n]? with
    | some (.lst xs) => some ⟨xs.map .v, [(n, .lst xs)]⟩
    | some (.tup xs) => some ⟨xs.map .v, [(n, .tup xs)]⟩
    | _ => none
  | _ => none
def intItems (lo : Int) : Nat → List It
  | 0 => []
  | n + 1 => .v (.int lo) :: intItems (lo + 1) n
def pairI : List Val → List Val → List It
  | x :: xs, y :: ys => .pr x y :: pairI xs ys
  | _, _ => []
def tripI : List Val → List Val → List Val → List It
  | x :: xs, y :: ys, z :: zs => .tr x y z :: tripI xs ys zs
  | _, _, _ => []
def enumI : Nat → List Val → List It
  | n, x :: xs => .pr (.int n) x :: enumI (n + 1) xs
  | _, [] => []
/-- a list or a tuple with its items -/
def obO (h : Heap) (n : Nat) : Option (Ob × List Val) :=
  match h[n]? with
  | some (.lst xs) => some (.lst xs, xs)
  | some (.tup xs) => some (.tup xs, xs)
  | _ => none
inductive Src where
  | val | rng1 | rng2 | enum | zip | zip3 | rev
  deriving DecidableEq, Repr
def srcV (s : Src) (vs : List Val) (h : Heap) : Option Walk :=
  match s with
  | .val => (match vs with
    | [x] => walkV x h
    | _ => none)
  | .rng1 => (match vs with
    | [.int j] => if -(2 ^ 62) ≤ j ∧ j < 2 ^ 62 then some ⟨intItems 0 j.toNat, []⟩ else none
    | _ => none)
  | .rng2 => (match vs with
    | [.int i, .int j] => if -(2 ^ 62) ≤ i ∧ i < 2 ^ 62 ∧ -(2 ^ 62) ≤ j ∧ j < 2 ^ 62 then some ⟨intItems i (j - i).toNat, []⟩ else none
    | _ => none)
  | .enum => (match vs with
    | [.ref n] => (match h[n]? with
      | some (.lst xs) => some ⟨enumI 0 xs, [(n, .lst xs)]⟩
      | _ => none)
    | _ => none)
  | .zip => (match vs with
    | [.ref n, .ref m] => (match obO h n, obO h m with
      | some (o, xs), some (o', ys) => some ⟨pairI xs ys, [(n, o), (m, o')]⟩
      | _, _ => none)
    | _ => none)
  | .zip3 => (match vs with
    | [.ref n, .ref m, .ref l] => (match obO h n, obO h m, obO h l with
      | some (o, xs), some (o', ys), some (o'', zs) => some ⟨tripI xs ys zs, [(n, o), (m, o'), (l, o'')]⟩
      | _, _, _ => none)
    | _ => none)
  | .rev => (match vs with
    | [.ref n] => (match h[n]? with
      | some (.lst xs) => some ⟨xs.reverse.map .v, [(n, .lst xs)]⟩
      | _ => none)
    | _ => none)
def srcR (s : Src) (vs : List Val) (h : Heap) : Res Walk :=
  match srcV s vs h with
  | some w => .ok w h
  | none => .bad
def wipe (σ : Sl) : List Nat → Sl
  | [] => σ
  | v :: vs => (wipe σ vs).set v none
/-- a comprehension's loop: what is gathered -/
def lcF (w : Walk) (t : Tg) (c : Sl → Heap → Res Bool) (e : Sl → Heap → Res Val) (σ : Sl) : List It → List Val → Heap → Res (List Val)
  | [], acc, h => if w.ok h then .ok acc h else .bad
  | i :: is, acc, h => if w.ok h then
      match tgV t (yieldI i h).1 σ (yieldI i h).2 with
      | none => .bad
      | some σ' => match c σ' (yieldI i h).2 with
        | .ok true h1 => (match e σ' h1 with
          | .ok v h2 => if acc.length < SL then lcF w t c e σ is (acc ++ [v]) h2 else .bad
          | _ => .bad)
        | .ok false h1 => lcF w t c e σ is acc h1
        | _ => .bad
    else .bad
mutual
inductive Ex where
  | var (i : Nat)
  | cst (v : Val)
  | glb (x : Nat)
  | bin (o : Op) (a b : Ex)
  | neg (a : Ex)
  | not (a : Ex)
  | and (a b : Ex)
  | or (a b : Ex)
  | chn (o p : Op) (a b c : Ex)
  | ch3 (o p q : Op) (a b c d : Ex)
  | ite (c a b : Ex)
  | lst (es : Exs)
  | tup (es : Exs)
  | dnew
  | dic (es : Exs)
  | idx (a i : Ex)
  | slc (a : Ex) (lo hi : Exo)
  | rev (a : Ex)
  | efl (i : Nat) (f : Str)
  | inr (neg : Bool) (a : Ex) (es : Exs)
  | cal (f : Nat) (es : Exs)
  | pri (p : Pr) (es : Exs)
  | met (m : Me) (o : Ex) (es : Exs)
  | lz (es : Exs)
  | lc (e : Ex) (t : Tg) (s : Src) (es : Exs) (own : List Nat) (c : Exo)
inductive Exs where
  | nil | cons (e : Ex) (es : Exs)
inductive Exo where
  | none | some (e : Ex)
end
/-- x in range(..) -/
def inrV (neg : Bool) (x : Val) (vs : List Val) (h : Heap) : Res Val :=
  match x with
  | .int i => (match vs with
    | [.int j] => .ok (.bl (xor neg (decide (0 ≤ i ∧ i < j)))) h
    | [.int l, .int j] => .ok (.bl (xor neg (decide (l ≤ i ∧ i < j)))) h
    | _ => .bad)
  | _ => .bad
/-- keys and values, one by one -/
def kvsO : List Val → Option (List (Key × Val))
  | [] => some []
  | k :: v :: r => match keyV k, kvsO r with
    | some k, some r => some ((k, v) :: r)
    | _, _ => none
  | _ => none
/-- on, where it holds -/
def chK (k : Val) (h : Heap) (f : Heap → Res Val) : Res Val :=
  match k with
  | .bl true => f h
  | .bl false => .ok (.bl false) h
  | _ => .bad
/-- list(zip(x, y)): the pairs, then the list -/
def lzV (xs ys : List Val) (h : Heap) : Res Val :=
  .ok (.ref (h.length + (xs.zip ys).length)) (h ++ ((xs.zip ys).map (fun p => Ob.tup [p.1, p.2]) ++ [.lst ((List.range (xs.zip ys).length).map fun k => .ref (h.length + k))]))
def lzO (vs : List Val) (h : Heap) : Res Val :=
  match vs with
  | [x, y] => (match seqO h x, seqO h y with
    | some xs, some ys => lzV xs ys h
    | _, _ => .bad)
  | _ => .bad
def truB (v : Val) (h : Heap) : Res Bool :=
  match tru h v with
  | some b => .ok b h
  | none => .bad
def intO : Val → Heap → Res (Option Int)
  | .int i, h => .ok (some i) h
  | _, _ => .bad
mutual
def den (g : G) : Ex → Sl → Heap → Res Val
  | .var i, σ, h => match σ[i]? with
    | some (some v) => .ok v h
    | _ => .bad
  | .cst v, _, h => .ok v h
  | .glb x, _, h => match g.glob x with
    | some v => .ok v h
    | none => .bad
  | .bin o a b, σ, h => (den g a σ h).bind fun x h => (den g b σ h).bind fun y h => bop o x y h
  | .neg a, σ, h => (den g a σ h).bind fun x h => match x with
    | .int i => .ok (.int (-i)) h
    | _ => .bad
  | .not a, σ, h => (den g a σ h).bind fun x h => (truB x h).bind fun b h => .ok (.bl (!b)) h
  | .and a b, σ, h => (den g a σ h).bind fun x h => (truB x h).bind fun t h => if t then den g b σ h else .ok x h
  | .or a b, σ, h => (den g a σ h).bind fun x h => (truB x h).bind fun t h => if t then .ok x h else den g b σ h
  | .chn o p a b c, σ, h => (den g a σ h).bind fun x h => (den g b σ h).bind fun y h => (bop o x y h).bind fun k h =>
    match k with
    | .bl true => (den g c σ h).bind fun z h => bop p y z h
    | .bl false => .ok (.bl false) h
    | _ => .bad
  | .ch3 o p q a b c d, σ, h => (den g a σ h).bind fun x h => (den g b σ h).bind fun y h => (bop o x y h).bind fun k h => chK k h fun h =>
    (den g c σ h).bind fun z h => (bop p y z h).bind fun k h => chK k h fun h => (den g d σ h).bind fun w h => bop q z w h
  | .ite c a b, σ, h => (den g c σ h).bind fun x h => (truB x h).bind fun t h => if t then den g a σ h else den g b σ h
  | .lst es, σ, h => (dens g es σ h).bind fun vs h => if vs.length ≤ SL then new (.lst vs) h else .bad
  | .tup es, σ, h => (dens g es σ h).bind fun vs h => if vs.length ≤ SL then new (.tup vs) h else .bad
  | .dnew, _, h => new (.dic []) h
  | .dic es, σ, h => (dens g es σ h).bind fun vs h => match kvsO vs with
    | some kvs => if kvs.length ≤ 15 then new (.dic (kvs.foldl (fun acc kv => putK acc kv.1 kv.2) [])) h else .bad
    | none => .bad
  | .idx a i, σ, h => (den g a σ h).bind fun x h => (den g i σ h).bind fun y h => idxV g x y h
  | .slc a lo hi, σ, h => (den g a σ h).bind fun x h => (deno g lo σ h).bind fun l h => (deno g hi σ h).bind fun u h => slcV x l u h
  | .rev a, σ, h => (den g a σ h).bind fun x h => revV x h
  | .efl i f, σ, h => match σ[i]? with
    | some none => (match g.ex with
      | some fs => (match fs.lookup f with
        | some v => .ok v h
        | none => .bad)
      | none => .bad)
    | _ => .bad
  | .inr neg a es, σ, h => (den g a σ h).bind fun x h => (dens g es σ h).bind fun vs h => inrV neg x vs h
  | .cal f es, σ, h => (dens g es σ h).bind fun vs h => g.call f vs h
  | .pri p es, σ, h => (dens g es σ h).bind fun vs h => Mi.pri g p vs h
  | .met m o es, σ, h => (den g o σ h).bind fun x h => if rcv m x h then (dens g es σ h).bind fun vs h => Mi.met m x vs h else .bad
  | .lz es, σ, h => (dens g es σ h).bind fun vs h => lzO vs h
  | .lc e t s es own c, σ, h => ((dens g es σ h).bind fun vs h => srcR s vs h).bind fun w h => (lcF w t (denc g c) (den g e) (wipe σ own) w.items [] h).bind fun vs h => new (.lst vs) h
def dens (g : G) : Exs → Sl → Heap → Res (List Val)
  | .nil, _, h => .ok [] h
  | .cons e es, σ, h => (den g e σ h).bind fun v h => (dens g es σ h).bind fun vs h => .ok (v :: vs) h
def deno (g : G) : Exo → Sl → Heap → Res (Option Int)
  | .none, _, h => .ok none h
  | .some e, σ, h => (den g e σ h).bind intO
def denc (g : G) : Exo → Sl → Heap → Res Bool
  | .none, _, h => .ok true h
  | .some e, σ, h => (den g e σ h).bind truB
end
/-- as a test -/
def denT (g : G) (e : Ex) (σ : Sl) (h : Heap) : Res Bool := (den g e σ h).bind truB

/-! ## statements -/
/-- how a statement ends: on, with a value, with an exception (its class, its fields, the slots then) -/
inductive Fl where
  | nx (σ : Sl) | rt (v : Val) | ex (c : Nat) (fs : List (Str × Val)) (σ : Sl)
/-- an expression's end within a statement -/
def Res.sb {α : Type} (σ : Sl) (r : Res α) (f : α → Heap → Res Fl) : Res Fl :=
  match r with
  | .ok a h => f a h
  | .exc c fs h => .ok (.ex c fs σ) h
  | .bad => .bad
@[simp] theorem Res.sb_ok {α : Type} (σ : Sl) (a : α) (h : Heap) (f : α → Heap → Res Fl) : (Res.ok a h).sb σ f = f a h := rfl
@[simp] theorem Res.sb_bad {α : Type} (σ : Sl) (f : α → Heap → Res Fl) : (Res.bad : Res α).sb σ f = .bad := rfl
@[simp] theorem Res.sb_exc {α : Type} (σ : Sl) (c : Nat) (fs : List (Str × Val)) (h : Heap) (f : α → Heap → Res Fl) : (Res.exc c fs h : Res α).sb σ f = .ok (.ex c fs σ) h := rfl
/-- go on where it goes on -/
def Fl.go (f : Fl) (h : Heap) (k : Sl → Heap → Res Fl) : Res Fl :=
  match f with
  | .nx σ => k σ h
  | .rt v => .ok (.rt v) h
  | .ex c fs σ => .ok (.ex c fs σ) h
@[simp] theorem Fl.go_nx (σ : Sl) (h : Heap) (k : Sl → Heap → Res Fl) : (Fl.nx σ).go h k = k σ h := rfl
@[simp] theorem Fl.go_rt (v : Val) (h : Heap) (k : Sl → Heap → Res Fl) : (Fl.rt v).go h k = .ok (.rt v) h := rfl
@[simp] theorem Fl.go_ex (c : Nat) (fs : List (Str × Val)) (σ : Sl) (h : Heap) (k : Sl → Heap → Res Fl) : (Fl.ex c fs σ).go h k = .ok (.ex c fs σ) h := rfl
mutual
inductive St where
  | pass
  | exp (e : Ex)
  | ret (e : Ex)
  | asg (t : Tg) (e : Ex)
  | par (is : List Nat) (es : Exs)
  | sti (o i e : Ex)
  | sw2 (o i p j e : Ex)
  | aug (o : Op) (i : Nat) (e : Ex)
  | ite (c : Ex) (a b : Sts)
  | whl (c : Ex) (b : Sts)
  | frr (t : Tg) (s : Src) (es : Exs) (b : Sts)
  | nvr
  | rse (c : Nat) (fs : List Str) (es : Exs)
  | tri (b : Sts) (hs : Hds)
inductive Sts where
  | nil | cons (s : St) (ss : Sts)
/-- except clauses: the classes that they take, the slot of the name, the suite -/
inductive Hds where
  | nil | cons (ids : List Nat) (sl : Option Nat) (b : Sts) (r : Hds)
end
/-- the name of a clause goes -/
def goneS : Option Nat → Sl → Sl
  | none, σ => σ
  | some i, σ => σ.set i none
/-- a suite's end -/
def unx (sl : Option Nat) (f : Fl) (h : Heap) : Res Fl :=
  match f with
  | .nx σ => .ok (.nx (goneS sl σ)) h
  | .rt v => .ok (.rt v) h
  | .ex _ _ _ => .bad
def loopF (w : Walk) (t : Tg) (b : Sl → Heap → Res Fl) : List It → Sl → Heap → Res Fl
  | [], σ, h => if w.ok h then .ok (.nx σ) h else .bad
  | i :: is, σ, h => if w.ok h then
      match tgV t (yieldI i h).1 σ (yieldI i h).2 with
      | none => .bad
      | some σ' => (b σ' (yieldI i h).2).bind fun f h => f.go h (loopF w t b is)
    else .bad
def loopW (c : Sl → Heap → Res Bool) (b : Sl → Heap → Res Fl) : Nat → Sl → Heap → Res Fl
  | 0, _, _ => .bad
  | n + 1, σ, h => (c σ h).sb σ fun t h => if t then (b σ h).bind fun f h => f.go h (loopW c b n) else .ok (.nx σ) h
def turns : Nat := 1000000
def setT (t : Tg) (v : Val) (σ : Sl) (h : Heap) : Res Fl :=
  match tgV t v σ h with
  | some σ' => .ok (.nx σ') h
  | none => .bad
def setP (is : List Nat) (vs : List Val) (σ : Sl) (h : Heap) : Res Fl :=
  match setAll is vs σ with
  | some σ' => .ok (.nx σ') h
  | none => .bad
mutual
def exe (g : G) : St → Sl → Heap → Res Fl
  | .pass, σ, h => .ok (.nx σ) h
  | .exp e, σ, h => (den g e σ h).sb σ fun _ h => .ok (.nx σ) h
  | .ret e, σ, h => (den g e σ h).sb σ fun v h => .ok (.rt v) h
  | .asg t e, σ, h => (den g e σ h).sb σ fun v h => setT t v σ h
  | .par is es, σ, h => (dens g es σ h).sb σ fun vs h => setP is vs σ h
  | .sti o i e, σ, h => (den g e σ h).sb σ fun v h => (den g o σ h).sb σ fun x h => (den g i σ h).sb σ fun y h => (setV x y v h).sb σ fun _ h => .ok (.nx σ) h
  | .sw2 o i p j e, σ, h => (den g e σ h).sb σ fun v h => (twoV v h).sb σ fun xy h => (den g o σ h).sb σ fun x h => (den g i σ h).sb σ fun y h => (setV x y xy.1 h).sb σ fun _ h =>
    (den g p σ h).sb σ fun x h => (den g j σ h).sb σ fun y h => (setV x y xy.2 h).sb σ fun _ h => .ok (.nx σ) h
  | .aug o i e, σ, h => (den g (.var i) σ h).sb σ fun x h => (den g e σ h).sb σ fun y h => (aop o x y h).sb σ fun v h => .ok (.nx (σ.set i (some v))) h
  | .ite c a b, σ, h => (denT g c σ h).sb σ fun t h => if t then exes g a σ h else exes g b σ h
  | .whl c b, σ, h => loopW (denT g c) (exes g b) turns σ h
  | .frr t s es b, σ, h => ((dens g es σ h).bind fun vs h => srcR s vs h).sb σ fun w h => loopF w t (exes g b) w.items σ h
  | .nvr, _, _ => .bad
  | .rse c fs es, σ, h => (dens g es σ h).sb σ fun vs h => if vs.length = fs.length then .ok (.ex c (fs.zip vs).reverse σ) h else .bad
  | .tri b hs, σ, h => (exes g b σ h).bind fun f h => match f with
    | .ex c fs σ' => hands g hs c fs σ' h
    | .nx σ' => .ok (.nx σ') h
    | .rt v => .ok (.rt v) h
def exes (g : G) : Sts → Sl → Heap → Res Fl
  | .nil, σ, h => .ok (.nx σ) h
  | .cons s ss, σ, h => (exe g s σ h).bind fun f h => f.go h (exes g ss)
/-- the clauses, one by one -/
def hands (g : G) : Hds → Nat → List (Str × Val) → Sl → Heap → Res Fl
  | .nil, c, fs, σ, h => .ok (.ex c fs σ) h
  | .cons ids sl b r, c, fs, σ, h => if c ∈ ids then (exes { g with ex := some fs } b (goneS sl σ) h).bind fun f h => unx sl f h else hands g r c fs σ h
end

/-! ## defs and calls -/
structure Def where
  params : Nat
  slots : Nat
  dflt : List Val
  body : Sts
def startV (d : Def) (vs : List Val) : Sl := vs.map some ++ List.replicate (d.slots - vs.length) none
def Fl.out (f : Fl) (h : Heap) : Res Val :=
  match f with
  | .nx _ => .ok .non h
  | .rt v => .ok v h
  | .ex c fs _ => .exc c fs h
def Res.fin (r : Res Fl) : Res Val :=
  match r with
  | .ok f h => f.out h
  | .exc _ _ _ => .bad
  | .bad => .bad
@[simp] theorem Res.fin_ok (f : Fl) (h : Heap) : (Res.ok f h).fin = f.out h := rfl
@[simp] theorem Res.fin_bad : (Res.bad : Res Fl).fin = .bad := rfl
@[simp] theorem Fl.out_rt (v : Val) (h : Heap) : (Fl.rt v).out h = .ok v h := rfl
@[simp] theorem Fl.out_nx (σ : Sl) (h : Heap) : (Fl.nx σ).out h = .ok .non h := rfl
@[simp] theorem Fl.out_ex (c : Nat) (fs : List (Str × Val)) (σ : Sl) (h : Heap) : (Fl.ex c fs σ).out h = .exc c fs h := rfl
def runDef (g : G) (d : Def) (vs : List Val) (h : Heap) : Res Val :=
  if vs.length = d.params then (exes g d.body (startV d vs) h).fin else .bad
/-- calls at most n deep -/
def calls (D : Nat → Option Def) (gl : Nat → Option Val) (scr : List Int) : Nat → Nat → List Val → Heap → Res Val
  | 0, _, _, _ => .bad
  | n + 1, f, vs, h => match D f with
    | some d => runDef ⟨calls D gl scr n, gl, scr, none⟩ d (vs ++ d.dflt.drop (d.dflt.length + vs.length - d.params)) h
    | none => .bad
end Mi


/-! # Mi2: what the small language says, and the abstract heap of the hand layer -/
namespace Mi
open PySem PySem.Spec PyProof.Rows L2

/-- what stands fast: the written part, where the classes and defs stand, the script -/
structure Th where
  K : PySem.W.Frag
  ga : Nat → Option Addr
  sa : Addr
  S : List Int
  /-- the exception that is handled: the slot of its name, where it stands, its dict, its fields -/
  ex : Option (Nat × Addr × Addr × List (Str × Val)) := none

theorem pr_get {α β : Type} {F : α → β → Prop} : ∀ {xs : List α} {ys : List β} {i : Nat} {x : α}, Paired F xs ys → xs[i]? = some x → ∃ y, ys[i]? = some y ∧ F x y
  | _, _, _, _, .nil, e => by simp at e
  | _, _, 0, _, .cons r _, e => by simp at e; subst e; exact ⟨_, rfl, r⟩
  | _, _, i + 1, x, .cons _ t, e => by
    obtain ⟨u, h1, h2⟩ := pr_get (i := i) (x := x) t (by simpa using e)
    exact ⟨u, by simpa using h1, h2⟩
theorem pr_set {α β : Type} {F : α → β → Prop} {x : α} {u : β} (r : F x u) : ∀ {xs : List α} {us : List β} (i : Nat), Paired F xs us → Paired F (xs.set i x) (us.set i u)
  | _, _, _, .nil => .nil
  | _, _, 0, .cons _ t => .cons r t
  | _, _, i + 1, .cons q t => .cons q (pr_set r i t)
theorem pr_append {α β : Type} {F : α → β → Prop} : ∀ {xs ys : List α} {us ws : List β}, Paired F xs us → Paired F ys ws → Paired F (xs ++ ys) (us ++ ws)
  | _, _, _, _, .nil, s => s
  | _, _, _, _, .cons r t, s => .cons r (pr_append t s)
theorem pr_take {α β : Type} {F : α → β → Prop} : ∀ {xs : List α} {us : List β} (n : Nat), Paired F xs us → Paired F (xs.take n) (us.take n)
  | _, _, 0, _ => .nil
  | _, _, _ + 1, .nil => .nil
  | _, _, n + 1, .cons r t => .cons r (pr_take n t)
theorem pr_drop {α β : Type} {F : α → β → Prop} : ∀ {xs : List α} {us : List β} (n : Nat), Paired F xs us → Paired F (xs.drop n) (us.drop n)
  | _, _, 0, r => r
  | _, _, _ + 1, .nil => .nil
  | _, _, n + 1, .cons _ t => pr_drop n t
theorem pr_mono {α β : Type} {F F' : α → β → Prop} (h : ∀ a b, F a b → F' a b) : ∀ {xs : List α} {us : List β}, Paired F xs us → Paired F' xs us
  | _, _, .nil => .nil
  | _, _, .cons r t => .cons (h _ _ r) (pr_mono h t)
theorem pr_rep {α β : Type} {F : α → β → Prop} {xs : List α} {us : List β} (r : Paired F xs us) : ∀ n : Nat, Paired F (List.replicate n xs).flatten (List.replicate n us).flatten
  | 0 => .nil
  | n + 1 => by
    rw [List.replicate_succ, List.replicate_succ, List.flatten_cons, List.flatten_cons]
    exact pr_append r (pr_rep r n)
theorem pr_erase {α β : Type} {F : α → β → Prop} : ∀ {xs : List α} {us : List β} (n : Nat), Paired F xs us → Paired F (xs.eraseIdx n) (us.eraseIdx n)
  | _, _, _, .nil => .nil
  | _, _, 0, .cons _ t => t
  | _, _, n + 1, .cons r t => .cons r (pr_erase n t)
theorem pr_dropLast {α β : Type} {F : α → β → Prop} {xs : List α} {us : List β} (r : Paired F xs us) : Paired F xs.dropLast us.dropLast := by
  rw [List.dropLast_eq_take, List.dropLast_eq_take, r.length]
  exact pr_take _ r
theorem pr_map {α β α' β' : Type} {F : α → β → Prop} {F' : α' → β' → Prop} {f : α → α'} {g : β → β'} (h : ∀ a b, F a b → F' (f a) (g b)) : ∀ {xs : List α} {us : List β}, Paired F xs us → Paired F' (xs.map f) (us.map g)
  | _, _, .nil => .nil
  | _, _, .cons r t => .cons (h _ _ r) (pr_map h t)

section
variable (t : Th)
def VR (ρ : List Addr) : Val → V → Prop
  | .non, y => y = .non
  | .bl b, y => y = .bl b
  | .int i, y => y = .int i
  | .str x, y => y = .str x
  | .ref n, y => ∃ a, ρ[n]? = some a ∧ y = .ref a
  | .ty s, y => y = .ty s
  | .glo x, y => ∃ a, t.ga x = some a ∧ y = .ref a
  | .scr, y => y = .ref t.sa
abbrev VRs (ρ : List Addr) : List Val → List V → Prop := Paired (VR t ρ)
abbrev KRs (ρ : List Addr) : List (Key × Val) → List (Key × V) → Prop := Paired fun p q => p.1 = q.1 ∧ VR t ρ p.2 q.2
abbrev FRs (ρ : List Addr) : List (Str × Val) → List (Str × V) → Prop := Paired fun p q => p.1 = q.1 ∧ VR t ρ p.2 q.2
def SO (ρ : List Addr) : Option Val → Option V → Prop
  | some v, some y => VR t ρ v y
  | none, _ => True
  | _, _ => False
structure SR (ρ : List Addr) (s : Sl) (σ : L2.St) : Prop where
  pr : Paired (SO t ρ) s σ
  px : ∀ i a d fs, t.ex = some (i, a, d, fs) → s[i]? = some none → σ[i]? = some (some (.ref a))
def OR (ρ : List Addr) (H : Hp) (a : Addr) : Ob → Prop
  | .lst xs => ∃ ys, H a = some (.lst ys) ∧ VRs t ρ xs ys
  | .tup xs => ∃ ys, H a = some (.tup ys) ∧ VRs t ρ xs ys
  | .dic xs => ∃ ys, H a = some (.dK ys) ∧ KRs t ρ xs ys
  | .ins c fs => ∃ C dx ys, t.ga c = some C ∧ H a = some (.ins C dx ys) ∧ FRs t ρ fs ys
def ScrOk (H : Hp) : Prop := (∃ o, H t.sa = some (.frz o (.lst (t.S.map V.int)))) ∨
  ∃ (o : Obj) (its : Array Value) (n : Nat), t.K.lookup t.sa = some o ∧ o.cls = .type "list" ∧ o.dict = none ∧ o.data = .seq its n ∧ its.size ≤ sizeLine ∧ Vals (t.S.map V.int) its.toList
/-- what is known of the exception that is handled -/
def XOk (ρ : List Addr) (H : Hp) : Prop := ∀ i a d fs, t.ex = some (i, a, d, fs) → ∃ ys, H d = some (.xd ys) ∧ FRs t ρ fs ys
structure HR (ρ : List Addr) (h : Heap) (H : Hp) : Prop where
  len : ρ.length = h.length
  nd : ρ.Nodup
  ob : ∀ (n : Nat) (o : Ob) (a : Addr), h[n]? = some o → ρ[n]? = some a → OR t ρ H a o
  sc : ScrOk t H
  xs : XOk t ρ H
end
structure Ext (ρ : List Addr) (H : Hp) (ρ' : List Addr) (H' : Hp) : Prop where
  pre : ∃ τ, ρ' = ρ ++ τ
  keep : ∀ a o, a ∉ ρ → H a = some o → H' a = some o
  nu : ∀ a, a ∈ ρ' → a ∉ ρ → H a = none

section
variable {t : Th} {ρ ρ' ρ1 ρ2 τ : List Addr} {h h' : Heap} {H H' H1 H2 : Hp} {v : Val} {y : V} {a : Addr} {n : Nat}
theorem ScrOk.sq (x : ScrOk t H) : SqL t.K H t.sa (t.S.map V.int) := by
  rcases x with ⟨o, h⟩ | h
  · exact .inl (.inr ⟨o, h⟩)
  · exact .inr h
theorem Ext.refl (ρ : List Addr) (H : Hp) : Ext ρ H ρ H := ⟨⟨[], by simp⟩, fun _ _ _ h => h, fun a h1 h2 => absurd h1 h2⟩
theorem Ext.sub (e : Ext ρ H ρ' H') (ha : a ∈ ρ) : a ∈ ρ' := by
  obtain ⟨τ, rfl⟩ := e.pre
  exact List.mem_append_left _ ha
theorem Ext.trans (e : Ext ρ H ρ1 H1) (f : Ext ρ1 H1 ρ2 H2) : Ext ρ H ρ2 H2 := by
  refine ⟨?_, fun a o ha ho => ?_, fun a h1 h2 => ?_⟩
  · obtain ⟨τ, rfl⟩ := e.pre
    obtain ⟨τ', rfl⟩ := f.pre
    exact ⟨τ ++ τ', by rw [List.append_assoc]⟩
  · refine f.keep a o (fun hm => ?_) (e.keep a o ha ho)
    have := e.nu a hm ha
    rw [ho] at this; cases this
  · by_cases hm : a ∈ ρ1
    · exact e.nu a hm h2
    · have z := f.nu a h1 hm
      cases q : H a with
      | none => rfl
      | some o =>
        have := e.keep a o h2 q
        rw [z] at this; cases this
theorem VR.app : VR t ρ v y → VR t (ρ ++ τ) v y := by
  cases v <;> intro r <;> try exact r
  obtain ⟨b, e, r⟩ := r
  exact ⟨b, by rw [List.getElem?_append_left (List.getElem?_eq_some_iff.mp e).1]; exact e, r⟩
theorem VR.ext (e : Ext ρ H ρ' H') (r : VR t ρ v y) : VR t ρ' v y := by
  obtain ⟨τ, rfl⟩ := e.pre
  exact r.app
theorem VRs.ext (e : Ext ρ H ρ' H') {xs : List Val} {ys : List V} (r : VRs t ρ xs ys) : VRs t ρ' xs ys := pr_mono (fun _ _ q => VR.ext e q) r
theorem SO.app : ∀ {o : Option Val} {p : Option V}, SO t ρ o p → SO t (ρ ++ τ) o p
  | some _, some _, r => VR.app (show VR t ρ _ _ from r)
  | none, _, _ => trivial
  | some _, none, r => r.elim
theorem SR.ext (e : Ext ρ H ρ' H') {s : Sl} {σ : L2.St} (r : SR t ρ s σ) : SR t ρ' s σ := by
  obtain ⟨τ, rfl⟩ := e.pre
  exact ⟨pr_mono (fun _ _ q => SO.app q) r.pr, r.px⟩
/-- a slot is stored -/
theorem SR.put {s : Sl} {σ : L2.St} (i : Nat) (r : VR t ρ v y) (x : SR t ρ s σ) : SR t ρ (s.set i (some v)) (σ.set i (some y)) := by
  refine ⟨pr_set (x := some v) (u := some y) (show SO t ρ (some v) (some y) from r) i x.pr, fun j a d fs e1 e2 => ?_⟩
  by_cases h : i = j
  · subst h
    by_cases hl : i < s.length
    · rw [List.getElem?_set_self hl] at e2; cases e2
    · rw [List.getElem?_eq_none (by rw [List.length_set]; omega)] at e2; cases e2
  · rw [List.getElem?_set_ne h] at e2 ⊢
    exact x.px j a d fs e1 e2
theorem OR.app {o : Ob} (r : OR t ρ H a o) : OR t (ρ ++ τ) H a o := by
  cases o with
  | lst xs => obtain ⟨ys, e, q⟩ := r; exact ⟨ys, e, pr_mono (fun _ _ z => z.app) q⟩
  | tup xs => obtain ⟨ys, e, q⟩ := r; exact ⟨ys, e, pr_mono (fun _ _ z => z.app) q⟩
  | dic xs => obtain ⟨ys, e, q⟩ := r; exact ⟨ys, e, pr_mono (fun _ _ z => ⟨z.1, z.2.app⟩) q⟩
  | ins c fs => obtain ⟨C, dx, ys, e1, e, q⟩ := r; exact ⟨C, dx, ys, e1, e, pr_mono (fun _ _ z => ⟨z.1, z.2.app⟩) q⟩
theorem OR.at {o : Ob} (e : H' a = H a) (r : OR t ρ H a o) : OR t ρ H' a o := by
  cases o with
  | lst xs => obtain ⟨ys, q⟩ := r; exact ⟨ys, by rw [e]; exact q⟩
  | tup xs => obtain ⟨ys, q⟩ := r; exact ⟨ys, by rw [e]; exact q⟩
  | dic xs => obtain ⟨ys, q⟩ := r; exact ⟨ys, by rw [e]; exact q⟩
  | ins c fs => obtain ⟨C, dx, ys, q⟩ := r; exact ⟨C, dx, ys, by rw [e]; exact q⟩
theorem OR.tr {o : Ob} (r : OR t ρ H a o) : ∃ u, H a = some u ∧ (∀ ob w, u ≠ .frz ob w) ∧ ∀ ys, u ≠ .xd ys := by
  cases o with
  | lst xs => obtain ⟨ys, q, _⟩ := r; exact ⟨_, q, fun _ _ => nofun, fun _ => nofun⟩
  | tup xs => obtain ⟨ys, q, _⟩ := r; exact ⟨_, q, fun _ _ => nofun, fun _ => nofun⟩
  | dic xs => obtain ⟨ys, q, _⟩ := r; exact ⟨_, q, fun _ _ => nofun, fun _ => nofun⟩
  | ins c fs => obtain ⟨C, dx, ys, _, q, _⟩ := r; exact ⟨_, q, fun _ _ => nofun, fun _ => nofun⟩
theorem HR.at (x : HR t ρ h H) {o : Ob} (e : h[n]? = some o) : ∃ a, ρ[n]? = some a ∧ OR t ρ H a o := by
  have hn : n < ρ.length := by rw [x.len]; exact (List.getElem?_eq_some_iff.mp e).1
  exact ⟨ρ[n], List.getElem?_eq_getElem hn, x.ob n o _ e (List.getElem?_eq_getElem hn)⟩
theorem HR.tr (x : HR t ρ h H) (ha : a ∈ ρ) : ∃ u, H a = some u ∧ (∀ ob w, u ≠ .frz ob w) ∧ ∀ ys, u ≠ .xd ys := by
  obtain ⟨n, hn, e⟩ := List.getElem_of_mem ha
  have hn' : n < h.length := by rw [← x.len]; exact hn
  exact (x.ob n _ a (List.getElem?_eq_getElem hn') (by rw [List.getElem?_eq_getElem hn, e])).tr
theorem HR.free (x : HR t ρ h H) (hp : H a = none) : a ∉ ρ := fun ha => by
  obtain ⟨u, e, _⟩ := x.tr ha
  rw [hp] at e; cases e
theorem HR.ref (x : HR t ρ h H) {o : Ob} (e : h[n]? = some o) (r : VR t ρ (.ref n) y) : ∃ a, y = .ref a ∧ ρ[n]? = some a ∧ OR t ρ H a o := by
  obtain ⟨a, e1, rfl⟩ := r
  exact ⟨a, rfl, e1, x.ob n o a e e1⟩
/-- a new object -/
theorem HR.new (x : HR t ρ h H) (hp : H a = none) {u : HO} {o : Ob} (k : OR t (ρ ++ [a]) (upd H a u) a o) : HR t (ρ ++ [a]) (h ++ [o]) (upd H a u) := by
  have hf := x.free hp
  refine ⟨by simp [x.len], ?_, fun n ob b e1 e2 => ?_, ?_, fun _ _ d fs ed => ?_⟩
  · rw [List.nodup_append]
    refine ⟨x.nd, by simp, fun b hb c hc e => ?_⟩
    have : c = a := by simpa using hc
    subst this; subst e
    exact hf hb
  · by_cases hn : n < h.length
    · rw [List.getElem?_append_left hn] at e1
      rw [List.getElem?_append_left (by rw [x.len]; exact hn)] at e2
      have q := x.ob n ob b e1 e2
      have hb : b ≠ a := fun z => hf (z ▸ List.mem_of_getElem? e2)
      exact (q.at (upd_ne hb)).app
    · have hn2 : n = h.length := by
        have := (List.getElem?_eq_some_iff.mp e1).1
        simp at this; omega
      subst hn2
      simp at e1
      rw [← x.len] at e2
      simp at e2
      subst e1; subst e2
      exact k
  · rcases x.sc with ⟨o, e⟩ | e
    · exact .inl ⟨o, by rw [upd_ne (ne_of_none e hp)]; exact e⟩
    · exact .inr e
  · obtain ⟨ys, e, q⟩ := x.xs _ _ d fs ed
    exact ⟨ys, by rw [upd_ne (ne_of_none e hp)]; exact e, pr_mono (fun _ _ z => ⟨z.1, z.2.app⟩) q⟩
theorem Ext.new (x : HR t ρ h H) (hp : H a = none) {u : HO} : Ext ρ H (ρ ++ [a]) (upd H a u) := by
  refine ⟨⟨_, rfl⟩, fun b o hb e => by rw [upd_ne (ne_of_none e hp)]; exact e, fun b h1 h2 => ?_⟩
  rcases List.mem_append.mp h1 with z | z
  · exact absurd z h2
  · have : b = a := by simpa using z
    rw [this]; exact hp
theorem VR.new (x : HR t ρ h H) : VR t (ρ ++ [a]) (.ref h.length) (.ref a) := ⟨a, by rw [← x.len]; simp, rfl⟩
/-- an object is written -/
theorem HR.write (x : HR t ρ h H) (e : ρ[n]? = some a) {u : HO} {o : Ob} (k : OR t ρ (upd H a u) a o) : HR t ρ (h.set n o) (upd H a u) := by
  refine ⟨by simp [x.len], x.nd, fun m ob b e1 e2 => ?_, ?_, fun _ _ d fs ed => ?_⟩
  · by_cases hm : m = n
    · subst hm
      rw [e] at e2; cases e2
      have hn : m < h.length := by rw [← x.len]; exact (List.getElem?_eq_some_iff.mp e).1
      rw [List.getElem?_set_self hn] at e1
      cases e1
      exact k
    · rw [List.getElem?_set_ne (fun z => hm z.symm)] at e1
      refine (x.ob m ob b e1 e2).at (upd_ne fun z => hm ?_)
      subst z
      obtain ⟨hm1, e1'⟩ := List.getElem?_eq_some_iff.mp e2
      obtain ⟨hm2, e2'⟩ := List.getElem?_eq_some_iff.mp e
      exact (List.getElem_inj x.nd).mp (e1'.trans e2'.symm)
  · rcases x.sc with ⟨o, es⟩ | es
    · refine .inl ⟨o, ?_⟩
      obtain ⟨w, ew, nf, _⟩ := x.tr (List.mem_of_getElem? e)
      rw [upd_ne]
      · exact es
      · intro z
        rw [← z, es] at ew; cases ew
        exact nf _ _ rfl
    · exact .inr es
  · obtain ⟨ys, e', q⟩ := x.xs _ _ d fs ed
    obtain ⟨w, ew, _, nx⟩ := x.tr (List.mem_of_getElem? e)
    exact ⟨ys, by rw [upd_ne fun z => by rw [← z, e'] at ew; cases ew; exact nx _ rfl]; exact e', q⟩
theorem Ext.write (e : ρ[n]? = some a) {u : HO} : Ext ρ H ρ (upd H a u) :=
  ⟨⟨[], by simp⟩, fun b o hb q => by rw [upd_ne fun z => hb (by rw [z]; exact List.mem_of_getElem? e)]; exact q, fun b h1 h2 => absurd h1 h2⟩
end

/-! ## what is wanted behind a result -/
section
variable {α β : Type} (t : Th)
/-- behind an expression: k of the value, the heaps; E of an exception -/
def Post (ρ : List Addr) (H : Hp) (r : Res α) (k : α → Heap → List Addr → Hp → Prop) (E : Value → Option Addr → Hp → Prop) : Prop :=
  match r with
  | .ok a h' => ∀ ρ' H', Ext ρ H ρ' H' → HR t ρ' h' H' → k a h' ρ' H'
  | .exc c fs h' => ∀ ρ' H' C d ys, Ext ρ H ρ' H' → HR t ρ' h' H' → t.ga c = some C → H' d = some (.xd ys) → FRs t ρ' fs ys → E (.ref C) (some d) H'
  | .bad => False
end
section
variable {α β : Type} {t : Th} {ρ ρ' : List Addr} {h : Heap} {H H' : Hp} {E : Value → Option Addr → Hp → Prop}
theorem Post.ext {r : Res α} {k : α → Heap → List Addr → Hp → Prop} (e : Ext ρ H ρ' H') (p : Post t ρ H r k E) : Post t ρ' H' r k E := by
  cases r with
  | ok a h => exact fun ρ2 H2 e2 => p ρ2 H2 (e.trans e2)
  | exc c fs h => exact fun ρ2 H2 C d ys e2 => p ρ2 H2 C d ys (e.trans e2)
  | bad => exact p
theorem Post.imp {r : Res α} {k k' : α → Heap → List Addr → Hp → Prop} (p : Post t ρ H r k E) (h : ∀ a h' ρ' H', Ext ρ H ρ' H' → HR t ρ' h' H' → k a h' ρ' H' → k' a h' ρ' H') : Post t ρ H r k' E := by
  cases r with
  | ok a h1 => exact fun ρ2 H2 e2 x => h _ _ _ _ e2 x (p ρ2 H2 e2 x)
  | exc c fs h => exact p
  | bad => exact p
theorem Post.impe {r : Res α} {k k' : α → Heap → List Addr → Hp → Prop} (p : Post t ρ H r k E) (h : ∀ a h' ρ' H', r = .ok a h' → Ext ρ H ρ' H' → HR t ρ' h' H' → k a h' ρ' H' → k' a h' ρ' H') : Post t ρ H r k' E := by
  cases r with
  | ok a h1 => exact fun ρ2 H2 e2 x => h _ _ _ _ rfl e2 x (p ρ2 H2 e2 x)
  | exc c fs h => exact p
  | bad => exact p
theorem Post.bind {r : Res α} {f : α → Heap → Res β} {k : β → Heap → List Addr → Hp → Prop} (p : Post t ρ H (r.bind f) k E) : Post t ρ H r (fun a h1 ρ1 H1 => Post t ρ1 H1 (f a h1) k E) E := by
  cases r with
  | ok a h1 => exact fun ρ2 H2 e2 x => Post.ext e2 p
  | exc c fs h => exact p
  | bad => exact p
theorem Post.ok {a : α} {k : α → Heap → List Addr → Hp → Prop} (x : HR t ρ h H) (p : Post t ρ H (.ok a h) k E) : k a h ρ H := p ρ H (Ext.refl ρ H) x
/-- where nothing is raised -/
def NoX (r : Res α) : Prop := ∀ c fs h, r ≠ .exc c fs h
theorem Post.nox {r : Res α} {k : α → Heap → List Addr → Hp → Prop} {E' : Value → Option Addr → Hp → Prop} (n : NoX r) (p : Post t ρ H r k E) : Post t ρ H r k E' := by
  cases r with
  | ok a h1 => exact p
  | exc c fs h => exact absurd rfl (n c fs h)
  | bad => exact p
end
end Mi


/-! # Mi3: the operators -/
namespace Mi
open PySem PySem.Spec PyProof.Rows L2

section
variable {t : Th} {ρ ρ' : List Addr} {h h' : Heap} {H H' : Hp} {E : Value → Option Addr → Hp → Prop}
abbrev E0' : Value → Option Addr → Hp → Prop := fun _ _ _ => False
theorem Post.new {o : Ob} {a : Addr} {u : HO} {k : Val → Heap → List Addr → Hp → Prop} (x : HR t ρ h H) (p : Post t ρ H (Mi.new o h) k E) (hp : H a = none) (r : OR t (ρ ++ [a]) (upd H a u) a o) :
    k (.ref h.length) (h ++ [o]) (ρ ++ [a]) (upd H a u) := p _ _ (Ext.new x hp) (x.new hp r)
theorem or_lst {a : Addr} {xs : List Val} {ys : List V} (r : VRs t ρ xs ys) : OR t (ρ ++ [a]) (upd H a (.lst ys)) a (.lst xs) := ⟨ys, upd_same, pr_mono (fun _ _ z => z.app) r⟩
theorem or_tup {a : Addr} {xs : List Val} {ys : List V} (r : VRs t ρ xs ys) : OR t (ρ ++ [a]) (upd H a (.tup ys)) a (.tup xs) := ⟨ys, upd_same, pr_mono (fun _ _ z => z.app) r⟩

/-- what is wanted of a value's relatives -/
abbrev KV1 (t : Th) (Q : VK) : Val → Heap → List Addr → Hp → Prop := fun v _ ρ' H' => ∀ z, VR t ρ' v z → Q z H'
def rOp (t : Th) (f : Val → Val → Heap → Res Val) : R2 := fun x y H Q => ∃ ρ h a b, HR t ρ h H ∧ VR t ρ a x ∧ VR t ρ b y ∧ Post t ρ H (f a b h) (KV1 t Q) E0'

/-- the data that a value is, over the abstract heap -/
theorem mapO_cons {α β : Type} {f : α → Option β} {x : α} {xs : List α} {ys : List β} (e : mapO f (x :: xs) = some ys) : ∃ z zs, f x = some z ∧ mapO f xs = some zs ∧ ys = z :: zs := by
  unfold mapO at e
  cases h1 : f x with
  | none => rw [h1] at e; cases e
  | some z =>
    cases h2 : mapO f xs with
    | none => rw [h1, h2] at e; cases e
    | some zs => rw [h1, h2] at e; cases e; exact ⟨z, zs, rfl, rfl, rfl⟩
theorem dp_all {f : Val → Option PyData} : ∀ {xs : List Val} {ys : List V} {ds : List PyData}, (∀ v y d, f v = some d → d.canLay0 = true → VR t ρ v y → Dp t.K H y d) → mapO f xs = some ds → PyData.canLayAll0 ds = true → VRs t ρ xs ys → DpAll t.K H ys ds
  | [], _, _, _, e, _, .nil => by cases e; exact .nil
  | x :: xs, _, _, hf, e, c, .cons r rs => by
    obtain ⟨z, zs, e1, e2, rfl⟩ := mapO_cons e
    have c' : z.canLay0 = true ∧ PyData.canLayAll0 zs = true := by simpa [PyData.canLayAll0] using c
    exact .cons (hf _ _ _ e1 c'.1 r) (dp_all hf e2 c'.2 rs)
theorem rd_dp (x : HR t ρ h H) : ∀ (n : Nat) (v : Val) (y : V) (d : PyData), rd n h v = some d → d.canLay0 = true → VR t ρ v y → Dp t.K H y d
  | n, .non, y, d, e, _, r => by cases n <;> (cases e; cases r; exact .non)
  | n, .bl b, y, d, e, _, r => by cases n <;> (cases e; cases r; exact .bl _)
  | n, .int i, y, d, e, _, r => by cases n <;> (cases e; cases r; exact .int _)
  | n, .str z, y, d, e, _, r => by cases n <;> (cases e; cases r; exact .str _)
  | 0, .ref k, y, d, e, _, r => by cases e
  | n + 1, .ref k, y, d, e, c, r => by
    unfold rd at e
    split at e
    · rename_i xs hk
      obtain ⟨ds, e1, rfl⟩ := Option.map_eq_some_iff.mp e
      obtain ⟨a, rfl, _, ys, hy, rr⟩ := x.ref hk r
      exact .lst (.of hy) (dp_all (fun v y d => rd_dp x n v y d) e1 (by simpa [PyData.canLay0] using c) rr)
    · rename_i xs hk
      obtain ⟨ds, e1, rfl⟩ := Option.map_eq_some_iff.mp e
      obtain ⟨a, rfl, _, ys, hy, rr⟩ := x.ref hk r
      exact .tup (.of hy) (dp_all (fun v y d => rd_dp x n v y d) e1 (by simpa [PyData.canLay0] using c) rr)
    · rename_i xs hk
      obtain ⟨ds, e1, rfl⟩ := Option.map_eq_some_iff.mp e
      simp [PyData.canLay0] at c
    · cases e
  | n, .ty s, y, d, e, _, r => by cases n <;> cases e
  | n, .glo s, y, d, e, _, r => by cases n <;> cases e
  | n, .scr, y, d, e, _, r => by cases n <;> cases e
theorem vr_flat {v : Val} {y : V} (r : VR t ρ v y) (f : flat v = true) : flatV y = true := by
  cases v <;> simp [flat] at f <;> (cases r; rfl)
theorem vr_eqF {v w : Val} {y z : V} (r : VR t ρ v y) (q : VR t ρ w z) (f : flat v = true) (g : flat w = true) : eqV y z = eqF v w := by
  cases v <;> simp [flat] at f <;> cases w <;> simp [flat] at g <;> (cases r; cases q; rfl)
theorem vrs_flat : ∀ {xs : List Val} {ys : List V}, VRs t ρ xs ys → xs.all flat = true → ys.all flatV = true
  | _, _, .nil, _ => rfl
  | _, _, .cons r rs, f => by
    simp only [List.all_cons, Bool.and_eq_true] at f ⊢
    exact ⟨vr_flat r f.1, vrs_flat rs f.2⟩
theorem vrs_in {v : Val} {y : V} (r : VR t ρ v y) (f : flat v = true) : ∀ {xs : List Val} {ys : List V}, VRs t ρ xs ys → xs.all flat = true → inV y ys = xs.any fun z => eqF z v
  | _, _, .nil, _ => rfl
  | _, _, .cons q qs, g => by
    simp only [List.all_cons, Bool.and_eq_true] at g
    have ih := vrs_in r f qs g.2
    unfold inV at ih ⊢
    simp only [List.any_cons]
    rw [ih, vr_eqF q r g.1 f]
theorem kr_get {k : Key} : ∀ {xs : List (Key × Val)} {ys : List (Key × V)}, KRs t ρ xs ys → (∀ v, getK xs k = some v → ∃ y, valV ys k = some y ∧ VR t ρ v y) ∧ (getK xs k = none → valV ys k = none)
  | _, _, .nil => ⟨fun v e => by simp [getK] at e, fun _ => rfl⟩
  | (a, v) :: xs, (b, y) :: ys, .cons ⟨e, r⟩ qs => by
    have e : a = b := e
    subst e
    have r : VR t ρ v y := r
    have ih := kr_get (k := k) qs
    by_cases hk : a = k
    · subst hk
      refine ⟨fun w e => ?_, fun e => ?_⟩
      · simp [getK] at e
        subst e
        exact ⟨y, valV_pos rfl, r⟩
      · simp [getK] at e
    · have e1 : getK ((a, v) :: xs) k = getK xs k := by simp [getK, List.find?_cons, hk]
      have e2 : valV ((a, y) :: ys) k = valV ys k := valV_neg hk
      rw [e1, e2]
      exact ih
theorem key_vr {v : Val} {y : V} {k : Key} (e : keyV v = some k) (r : VR t ρ v y) : y = kV k := by
  cases v <;> simp [keyV] at e <;> (subst e; cases r; rfl)
end

/-! ## one rule an operator -/
section
variable {t : Th} {X : Cx}
theorem op1 (hK : t.K = X.K) : OpR X (binaryOp .Add) (rOp t (bop .add)) := by
  intro pins s σ H x y u v Q I rx ry ⟨ρ, h, a, b, hr, va, vb, p⟩
  unfold bop addV at p
  dsimp only at p
  split at p
  · cases va; cases vb
    exact op_add pins s σ H _ _ u v Q I rx ry ⟨_, _, rfl, rfl, p.ok hr _ rfl⟩
  · split at p
    · cases va; cases vb
      exact op_add_str pins s σ H _ _ u v Q I rx ry ⟨_, _, rfl, rfl, by assumption, p.ok hr _ rfl⟩
    · exact p.elim
  · split at p
    · rename_i m n _ _ xs ys e1 e2
      split at p
      · rename_i hz
        obtain ⟨l, rfl, l1, zs, hl, r1⟩ := hr.ref e1 va
        obtain ⟨k, rfl, k1, ws, hk, r2⟩ := hr.ref e2 vb
        refine op_cat pins s σ H _ _ u v Q I rx ry ⟨l, k, zs, ws, rfl, rfl, hl, hk, by rw [← Paired.length r1, ← Paired.length r2]; exact hz, fun q hq => ?_⟩
        exact Post.new hr p hq (or_lst (pr_append r1 r2)) _ (VR.new hr)
      · exact p.elim
    · rename_i m n _ _ xs ys e1 e2
      split at p
      · rename_i hz
        obtain ⟨l, rfl, l1, zs, hl, r1⟩ := hr.ref e1 va
        obtain ⟨k, rfl, k1, ws, hk, r2⟩ := hr.ref e2 vb
        have n1 := Paired.length r1
        have n2 := Paired.length r2
        refine op_catA pins s σ H _ _ u v Q I rx ry ⟨l, k, zs, ws, rfl, rfl, hK ▸ .of hl, hK ▸ .of hk, by rw [← n1, ← n2]; exact hz, fun z => ?_, fun z z2 => ?_, fun z z2 q hq => ?_⟩
        · have : xs = [] := by subst z; exact List.length_eq_zero_iff.mp n1
          rw [if_pos this] at p
          exact p.ok hr _ vb
        · have h1 : xs ≠ [] := fun w => z (by subst w; exact List.length_eq_zero_iff.mp n1.symm)
          have h2 : ys = [] := by subst z2; exact List.length_eq_zero_iff.mp n2
          rw [if_neg h1, if_pos h2] at p
          exact p.ok hr _ va
        · have h1 : xs ≠ [] := fun w => z (by subst w; exact List.length_eq_zero_iff.mp n1.symm)
          have h2 : ys ≠ [] := fun w => z2 (by subst w; exact List.length_eq_zero_iff.mp n2.symm)
          rw [if_neg h1, if_neg h2] at p
          exact Post.new hr p hq (or_tup (pr_append r1 r2)) _ (VR.new hr)
      · exact p.elim
    · exact p.elim
  · exact p.elim
theorem op2 : OpR X (binaryOp .Sub) (rOp t (bop .sub)) := by
  intro pins s σ H x y u v Q I rx ry ⟨ρ, h, a, b, hr, va, vb, p⟩
  unfold bop subV at p
  dsimp only at p
  split at p
  · cases va; cases vb
    exact op_sub pins s σ H _ _ u v Q I rx ry ⟨_, _, rfl, rfl, p.ok hr _ rfl⟩
  · exact p.elim
theorem rep_flat : ∀ (n : Nat) (a : List Nat) (acc : Array Nat), ((List.replicate n a.toArray).foldl (· ++ ·) acc) = acc ++ (List.replicate n a).flatten.toArray
  | 0, a, acc => by simp
  | n + 1, a, acc => by
    rw [List.replicate_succ, List.foldl_cons, rep_flat n a, List.replicate_succ, List.flatten_cons]
    simp [Array.append_assoc]
theorem repS_made {x : Str} {k : Int} {t' : Tok} {Q : Value → Shared → Prop} {s : Shared} (hl : x.length * k.toNat ≤ SL) (q : ∀ t' tk, Q (.str (repS x k) t') { s with toks := tk }) :
    (if k < 1 then Made.str Str.empty else if (k == 1 || x.length == 0) = true then Made.val (.str x t') else Made.str ⟨(List.replicate k.toNat x.cps).foldl (· ++ ·) #[]⟩).post Q s := by
  by_cases h1 : k < 1
  · rw [if_pos h1]
    have e : repS x k = Str.empty := by
      unfold repS
      rw [show k.toNat = 0 by omega]
      rfl
    refine ⟨by decide, ?_⟩
    have := q s.toks (s.toks + 1)
    rw [e] at this
    exact this
  · rw [if_neg h1]
    by_cases h2 : (k == 1 || x.length == 0) = true
    · rw [if_pos h2]
      have e : repS x k = x := by
        unfold repS
        rw [Bool.or_eq_true] at h2
        rcases h2 with h2 | h2
        · rw [eq_of_beq h2]
          show (⟨(List.replicate 1 x.cps.toList).flatten.toArray⟩ : Str) = x
          simp
        · have h3 : x.cps.toList = [] := by
            have := eq_of_beq h2
            exact List.eq_nil_of_length_eq_zero (by simpa [Str.length] using this)
          rw [h3]
          have : x = ⟨#[]⟩ := by
            cases x with
            | mk c => simp at h3; rw [h3]
          rw [this]
          simp
      have := q t' s.toks
      rw [e] at this
      exact this
    · rw [if_neg h2]
      have e : (List.replicate k.toNat x.cps).foldl (· ++ ·) #[] = (List.replicate k.toNat x.cps.toList).flatten.toArray := by
        have := rep_flat k.toNat x.cps.toList #[]
        simpa using this
      rw [e]
      refine ⟨?_, q _ _⟩
      show (⟨(List.replicate k.toNat x.cps.toList).flatten.toArray⟩ : Str).length ≤ _
      have : (⟨(List.replicate k.toNat x.cps.toList).flatten.toArray⟩ : Str).length = k.toNat * x.length := by
        simp [Str.length]
      rw [this, Nat.mul_comm]
      exact hl
theorem op3s {a : Str} {k : Int} {pins : List (Addr × Obj)} {s : Shared} {σ : L2.St} {H : Hp} {u v : Value} {Q : VK} (I : Inv X pins σ H s) (rx : RelV (.str a) u) (ry : RelV (.int k) v) (h1 : -(2 ^ 63) ≤ k) (h2 : k < 2 ^ 63) (hl : a.length * k.toNat ≤ SL) (q : Q (.str (repS a k)) H) :
    wpAny (model X.prog X.w) X.A (binaryOp .Mult u v) (fun w s' => ∃ y H', Inv X pins σ H' s' ∧ RelV y w ∧ Q y H') X.xe s := by
  obtain ⟨t1, rfl⟩ := rx
  obtain ⟨t2, rfl⟩ := ry
  refine PySem.P.mul_str (by simp; omega) (fun c _ => ?_) (fun _ _ => ?_) (repS_made hl fun t' tk => ⟨V.str (repS a k), H, I.tok _, ⟨_, rfl⟩, q⟩)
  · have c' : 0 < k := by omega
    have : (a.length : Int) * k ≤ 2 ^ 63 - 1 := by
      have e : ((a.length * k.toNat : Nat) : Int) = (a.length : Int) * k := by rw [Int.natCast_mul, Int.toNat_of_nonneg (by omega)]
      rw [← e]
      have : a.length * k.toNat ≤ 16777216 := hl
      omega
    have := (Int.le_ediv_iff_mul_le c').mpr this
    omega
  · unfold PySem.Builtin.Str.tooLong
    exact decide_eq_false (by have : a.length * k.toNat ≤ 16777216 := hl; show ¬ (a.length * k.toNat > 16777216); omega)
theorem op3 : OpR X (binaryOp .Mult) (rOp t (bop .mul)) := by
  intro pins s σ H x y u v Q I rx ry ⟨ρ, h, a, b, hr, va, vb, p⟩
  unfold bop mulV at p
  dsimp only at p
  split at p
  · split at p
    · cases va; cases vb
      exact op_mul pins s σ H _ _ u v Q I rx ry ⟨_, _, rfl, rfl, by assumption, p.ok hr _ rfl⟩
    · exact p.elim
  · split at p
    · rename_i m k _ xs e1
      split at p
      · rename_i hz
        cases vb
        obtain ⟨l, rfl, l1, zs, hl, r1⟩ := hr.ref e1 va
        refine op_rep pins s σ H _ _ u v Q I rx ry ⟨l, k, zs, rfl, rfl, hl, hz.1, hz.2.1, by rw [← Paired.length r1]; exact hz.2.2, fun q hq => ?_⟩
        exact Post.new hr p hq (or_lst (pr_rep r1 _)) _ (VR.new hr)
      · exact p.elim
    · rename_i m k _ xs e1
      split at p
      · rename_i hz
        cases vb
        obtain ⟨l, rfl, l1, zs, hl, r1⟩ := hr.ref e1 va
        refine op_repT pins s σ H _ _ u v Q I rx ry ⟨l, k, zs, rfl, rfl, SqT.of hl, fun z => hz.1 (by rw [z] at r1; cases r1; rfl), hz.2.1, hz.2.2.1, by rw [← Paired.length r1]; exact hz.2.2.2, fun q hq => ?_⟩
        exact Post.new hr p hq (or_tup (pr_rep r1 _)) _ (VR.new hr)
      · exact p.elim
    · exact p.elim
  · split at p
    · rename_i hz
      cases va; cases vb
      exact op3s I rx ry hz.1 hz.2.1 hz.2.2 (p.ok hr _ rfl)
    · exact p.elim
  · exact p.elim
theorem op4 : OpR X (binaryOp .FloorDiv) (rOp t (bop .fdiv)) := by
  intro pins s σ H x y u v Q I rx ry ⟨ρ, h, a, b, hr, va, vb, p⟩
  unfold bop fdivV at p
  dsimp only at p
  split at p
  · split at p
    · cases va; cases vb
      exact op_fdiv pins s σ H _ _ u v Q I rx ry ⟨_, _, rfl, rfl, by assumption, p.ok hr _ rfl⟩
    · exact p.elim
  · exact p.elim
theorem op5 : OpR X (binaryOp .Mod) (rOp t (bop .mod)) := by
  intro pins s σ H x y u v Q I rx ry ⟨ρ, h, a, b, hr, va, vb, p⟩
  unfold bop modV at p
  dsimp only at p
  split at p
  · split at p
    · cases va; cases vb
      exact op_mod pins s σ H _ _ u v Q I rx ry ⟨_, _, rfl, rfl, by assumption, p.ok hr _ rfl⟩
    · exact p.elim
  · exact p.elim
theorem op6 : OpR X (binaryOp .Pow) (rOp t (bop .pow)) := by
  intro pins s σ H x y u v Q I rx ry ⟨ρ, h, a, b, hr, va, vb, p⟩
  unfold bop powV at p
  dsimp only at p
  split at p
  · split at p
    · cases va; cases vb
      exact op_pow pins s σ H _ _ u v Q I rx ry ⟨_, _, rfl, rfl, by assumption, p.ok hr _ rfl⟩
    · exact p.elim
  · exact p.elim
/-- what is wanted of a truth -/
theorem ofB_ok {ρ : List Addr} {h : Heap} {H : Hp} {o : Option Bool} {Q : VK} (hr : HR t ρ h H) (p : Post t ρ H (ofB o h) (KV1 t Q) E0') : ∃ b, o = some b ∧ Q (.bl b) H := by
  cases o with
  | none => exact p.elim
  | some b => exact ⟨b, rfl, Post.ok hr p _ rfl⟩
theorem eq_core {ρ : List Addr} {h : Heap} {H : Hp} {a b : Val} {x y : V} {k : Bool} (hr : HR t ρ h H) (va : VR t ρ a x) (vb : VR t ρ b y) (e : eqO h a b = some k) :
    (scal x y = true ∧ k = decide (x = y)) ∨ ∃ d d', Dp t.K H x d ∧ Dp t.K H y d' ∧ SeqAt.shaped d = true ∧ SeqAt.shaped d' = true ∧ k = PyData.eqv d d' := by
  unfold eqO at e
  split at e
  · cases va; cases vb; cases e
    exact .inl ⟨rfl, by simp⟩
  · cases va; cases vb; cases e
    exact .inl ⟨rfl, by simp⟩
  · cases va; cases vb; cases e
    exact .inl ⟨rfl, by simp⟩
  · split at e
    · rename_i d d' e1 e2
      split at e
      · rename_i hs
        cases e
        exact .inr ⟨d, d', rd_dp hr _ _ _ _ e1 (SeqAt.canLay_of_shaped hs.1) va, rd_dp hr _ _ _ _ e2 (SeqAt.canLay_of_shaped hs.2) vb, hs.1, hs.2, rfl⟩
      · cases e
    · cases e
theorem op7 (hK : t.K = X.K) (hu : X.A.units + 100 < cLine) : OpR X (compareOp .Eq) (rOp t (bop .eq)) := by
  intro pins s σ H x y u v Q I rx ry ⟨ρ, h, a, b, hr, va, vb, p⟩
  obtain ⟨k, e, q⟩ := ofB_ok hr (show Post t ρ H (ofB (eqO h a b) h) (KV1 t Q) E0' from p)
  rcases eq_core hr va vb e with ⟨hs, rfl⟩ | ⟨d, d', h1, h2, h3, h4, rfl⟩
  · exact op_eq pins s σ H _ _ u v Q I rx ry ⟨hs, q⟩
  · exact op_eqD (by omega) pins s σ H _ _ u v Q I rx ry ⟨d, d', hK ▸ h1, hK ▸ h2, h3, h4, q⟩
theorem op8 (hK : t.K = X.K) (hu : X.A.units + 100 < cLine) : OpR X (compareOp .NotEq) (rOp t (bop .ne)) := by
  intro pins s σ H x y u v Q I rx ry ⟨ρ, h, a, b, hr, va, vb, p⟩
  obtain ⟨k, e, q⟩ := ofB_ok hr (show Post t ρ H (ofB ((eqO h a b).map (!·)) h) (KV1 t Q) E0' from p)
  obtain ⟨k', e', rfl⟩ := Option.map_eq_some_iff.mp e
  rcases eq_core hr va vb e' with ⟨hs, rfl⟩ | ⟨d, d', h1, h2, h3, h4, rfl⟩
  · exact op_ne pins s σ H _ _ u v Q I rx ry ⟨hs, q⟩
  · exact op_neD (by omega) pins s σ H _ _ u v Q I rx ry ⟨d, d', hK ▸ h1, hK ▸ h2, h3, h4, q⟩
theorem op_ltD (hu : X.A.units + 60 < cLine) : OpR X (compareOp .Lt) (fun x y H Q => ∃ d e, Dp X.K H x d ∧ Dp X.K H y e ∧ PySem.W.alike d e = true ∧ d ≠ .none ∧ d.depth ≤ 60 ∧ Q (.bl (PySem.W.dataLt d e)) H) := by
  intro pins s σ H x y v u Q I rx ry h
  obtain ⟨d, e, hd, he, ha, hn, hdp, q⟩ := h
  obtain ⟨as, r1⟩ := Dp.reads I d x v hd rx
  obtain ⟨bs, r2⟩ := Dp.reads I e y u he ry
  exact PySem.W.lt_data r1 r2 ha hn (by omega) ⟨.bl _, H, I, rfl, q⟩
theorem lt_core {a b : Val} {k : Bool} (e : ltA a b = some k) : (∃ i j, a = .int i ∧ b = .int j ∧ k = decide (i < j)) ∨ ∃ i j, a = .str i ∧ b = .str j ∧ k = decide (i.cps.toList < j.cps.toList) := by
  unfold ltA at e
  split at e
  · cases e; exact .inl ⟨_, _, rfl, rfl, rfl⟩
  · cases e; exact .inr ⟨_, _, rfl, rfl, rfl⟩
  · cases e
theorem le_core {a b : Val} {k : Bool} (e : leO a b = some k) : (∃ i j, a = .int i ∧ b = .int j ∧ k = decide (i ≤ j)) ∨ ∃ i j, a = .str i ∧ b = .str j ∧ k = !decide (j.cps.toList < i.cps.toList) := by
  unfold leO at e
  split at e
  · cases e; exact .inl ⟨_, _, rfl, rfl, rfl⟩
  · cases e; exact .inr ⟨_, _, rfl, rfl, rfl⟩
  · cases e
theorem op9 (hK : t.K = X.K) (hu : X.A.units + 100 < cLine) : OpR X (compareOp .Lt) (rOp t (bop .lt)) := by
  intro pins s σ H x y u v Q I rx ry ⟨ρ, h, a, b, hr, va, vb, p⟩
  obtain ⟨k, e, q⟩ := ofB_ok hr (show Post t ρ H (ofB (ltO h a b) h) (KV1 t Q) E0' from p)
  unfold ltO at e
  split at e
  · split at e
    · rename_i m n d d' e1 e2
      split at e
      · rename_i hs
        obtain ⟨h1, h2, h3, h4, h5⟩ := hs
        cases e
        exact op_ltD (by omega) pins s σ H _ _ u v Q I rx ry ⟨d, d', hK ▸ rd_dp hr _ _ _ _ e1 (SeqAt.canLay_of_shaped h1) va, hK ▸ rd_dp hr _ _ _ _ e2 (SeqAt.canLay_of_shaped h2) vb, h3, fun z => (by rw [z] at h4; cases h4), h5, q⟩
      · cases e
    · cases e
  · rcases lt_core e with ⟨i, j, rfl, rfl, rfl⟩ | ⟨i, j, rfl, rfl, rfl⟩ <;> cases va <;> cases vb
    · exact op_lt pins s σ H _ _ u v Q I rx ry ⟨_, _, rfl, rfl, q⟩
    · exact op_lt_str pins s σ H _ _ u v Q I rx ry ⟨_, _, rfl, rfl, q⟩
theorem op10 : OpR X (compareOp .LtE) (rOp t (bop .le)) := by
  intro pins s σ H x y u v Q I rx ry ⟨ρ, h, a, b, hr, va, vb, p⟩
  obtain ⟨k, e, q⟩ := ofB_ok hr (show Post t ρ H (ofB (leO a b) h) (KV1 t Q) E0' from p)
  rcases le_core e with ⟨i, j, rfl, rfl, rfl⟩ | ⟨i, j, rfl, rfl, rfl⟩ <;> cases va <;> cases vb
  · exact op_le pins s σ H _ _ u v Q I rx ry ⟨_, _, rfl, rfl, q⟩
  · exact op_le_str pins s σ H _ _ u v Q I rx ry ⟨_, _, rfl, rfl, q⟩
theorem op11 : OpR X (compareOp .Gt) (rOp t (bop .gt)) := by
  intro pins s σ H x y u v Q I rx ry ⟨ρ, h, a, b, hr, va, vb, p⟩
  obtain ⟨k, e, q⟩ := ofB_ok hr (show Post t ρ H (ofB (ltA b a) h) (KV1 t Q) E0' from p)
  rcases lt_core e with ⟨i, j, rfl, rfl, rfl⟩ | ⟨i, j, rfl, rfl, rfl⟩ <;> cases va <;> cases vb
  · exact op_gt pins s σ H _ _ u v Q I rx ry ⟨_, _, rfl, rfl, q⟩
  · exact op_gt_str pins s σ H _ _ u v Q I rx ry ⟨_, _, rfl, rfl, q⟩
theorem op12 : OpR X (compareOp .GtE) (rOp t (bop .ge)) := by
  intro pins s σ H x y u v Q I rx ry ⟨ρ, h, a, b, hr, va, vb, p⟩
  obtain ⟨k, e, q⟩ := ofB_ok hr (show Post t ρ H (ofB (leO b a) h) (KV1 t Q) E0' from p)
  rcases le_core e with ⟨i, j, rfl, rfl, rfl⟩ | ⟨i, j, rfl, rfl, rfl⟩ <;> cases va <;> cases vb
  · exact op_ge pins s σ H _ _ u v Q I rx ry ⟨_, _, rfl, rfl, q⟩
  · exact op_ge_str pins s σ H _ _ u v Q I rx ry ⟨_, _, rfl, rfl, q⟩
theorem vr_non {ρ : List Addr} {v : Val} {y : V} (r : VR t ρ v y) : decide (y = .non) = decide (v = .non) := by
  cases v with
  | ref n => obtain ⟨_, _, rfl⟩ := r; rfl
  | glo n => obtain ⟨_, _, rfl⟩ := r; rfl
  | _ => cases r; simp
theorem is_other {ρ : List Addr} {a : Val} {c k : Bool} {x : V} {u : Value} (va : VR t ρ a x) (rx : RelV x u) (e : isO a (.bl c) = some k) : PySem.plainIs u (.bool c) = true ∧ (k = (u == .bool c)) := by
  unfold isO at e
  cases a with
  | bl b => cases va; cases rx; cases e; exact ⟨rfl, by rw [Bool.eq_iff_iff]; simp⟩
  | non => cases va; cases rx; cases e; exact ⟨rfl, rfl⟩
  | int i => cases va; obtain ⟨tk, rfl⟩ := rx; cases e; exact ⟨rfl, rfl⟩
  | str i => cases va; obtain ⟨tk, rfl⟩ := rx; cases e; exact ⟨rfl, rfl⟩
  | ref i => obtain ⟨_, _, rfl⟩ := va; cases rx; cases e; exact ⟨rfl, rfl⟩
  | ty s => cases e
  | glo s => cases e
  | scr => cases e
theorem op13 : OpR X (compareOp .Is) (rOp t (bop .is)) := by
  intro pins s σ H x y u v Q I rx ry ⟨ρ, h, a, b, hr, va, vb, p⟩
  obtain ⟨k, e, q⟩ := ofB_ok hr (show Post t ρ H (ofB (isO a b) h) (KV1 t Q) E0' from p)
  cases b with
  | non =>
    cases vb; cases e
    exact op_isN pins s σ H _ _ u v Q I rx ry ⟨rfl, by rw [vr_non va]; exact q⟩
  | bl c =>
    cases vb; cases ry
    obtain ⟨h1, rfl⟩ := is_other va rx e
    exact PySem.wpAny_is_plain h1 ⟨.bl _, H, I, rfl, q⟩
  | int _ => cases e
  | str _ => cases e
  | ref _ => cases e
  | ty _ => cases e
  | glo _ => cases e
  | scr => cases e
theorem op14 : OpR X (compareOp .IsNot) (rOp t (bop .isnot)) := by
  intro pins s σ H x y u v Q I rx ry ⟨ρ, h, a, b, hr, va, vb, p⟩
  obtain ⟨k, e, q⟩ := ofB_ok hr (show Post t ρ H (ofB ((isO a b).map (!·)) h) (KV1 t Q) E0' from p)
  obtain ⟨k', e', rfl⟩ := Option.map_eq_some_iff.mp e
  cases b with
  | non =>
    cases vb; cases e'
    exact op_notN pins s σ H _ _ u v Q I rx ry ⟨rfl, by rw [vr_non va]; exact q⟩
  | bl c =>
    cases vb; cases ry
    obtain ⟨h1, rfl⟩ := is_other va rx e'
    exact PySem.wpAny_isNot_plain h1 ⟨.bl _, H, I, rfl, q⟩
  | int _ => cases e'
  | str _ => cases e'
  | ref _ => cases e'
  | ty _ => cases e'
  | glo _ => cases e'
  | scr => cases e'
theorem in_core {ρ : List Addr} {h : Heap} {H : Hp} {a b : Val} {x y : V} {k : Bool} (hr : HR t ρ h H) (va : VR t ρ a x) (vb : VR t ρ b y) (e : inO h a b = some k) :
    (∃ (c : Nat) (z : Str), x = .str ⟨#[c]⟩ ∧ y = .str z ∧ k = decide (c ∈ z.cps.toList)) ∨ (∃ p xs, y = .ref p ∧ (SqL t.K H p xs ∨ SqT t.K H p xs) ∧ flatV x = true ∧ xs.all flatV = true ∧ k = inV x xs) ∨
      ∃ p o, y = .ref p ∧ DGet H p x o ∧ k = o.isSome := by
  unfold inO at e
  split at e
  · split at e
    · rename_i z _ w
      split at e
      · rename_i c hc
        cases va; cases vb; cases e
        refine .inl ⟨c, z, ?_, rfl, rfl⟩
        obtain ⟨⟨l⟩⟩ := w
        have hc' : l = [c] := hc
        subst hc'; rfl
      · cases e
    · cases e
  · split at e
    · rename_i xs hk
      obtain ⟨l, rfl, l1, zs, hl, r1⟩ := hr.ref hk vb
      split at e
      · rename_i hf
        cases e
        exact .inr (.inl ⟨l, zs, rfl, .inl (.of hl), vr_flat va hf.1, vrs_flat r1 hf.2, (vrs_in va hf.1 r1 hf.2).symm⟩)
      · cases e
    · rename_i xs hk
      obtain ⟨l, rfl, l1, zs, hl, r1⟩ := hr.ref hk vb
      split at e
      · rename_i hf
        cases e
        exact .inr (.inl ⟨l, zs, rfl, .inr (.of hl), vr_flat va hf.1, vrs_flat r1 hf.2, (vrs_in va hf.1 r1 hf.2).symm⟩)
      · cases e
    · rename_i xs hk
      obtain ⟨l, rfl, l1, zs, hl, r1⟩ := hr.ref hk vb
      split at e
      · rename_i kk hkk
        cases e
        have := key_vr hkk va
        subst this
        refine .inr (.inr ⟨l, valV zs kk, rfl, DGet.k hl, ?_⟩)
        have g := kr_get (k := kk) r1
        cases q : getK xs kk with
        | none => rw [g.2 q]; rfl
        | some w => obtain ⟨z, e, _⟩ := g.1 w q; rw [e]; rfl
      · cases e
    · cases e
  · cases e
theorem inD_core {ρ : List Addr} {h : Heap} {H : Hp} {a b : Val} {x y : V} {k : Bool} (hr : HR t ρ h H) (va : VR t ρ a x) (vb : VR t ρ b y) (e : inD h a b = some k) :
    ∃ d ds, Dp t.K H x d ∧ Dp t.K H y (.list ds) ∧ SeqAt.shaped d = true ∧ SeqAt.shaped (.list ds) = true ∧ k = ds.any fun z => PyData.eqv z d := by
  unfold inD at e
  split at e
  · rename_i d ds e1 e2
    split at e
    · rename_i hs
      cases e
      exact ⟨d, ds, rd_dp hr _ _ _ _ e1 (SeqAt.canLay_of_shaped hs.1) va, rd_dp hr _ _ _ _ e2 (SeqAt.canLay_of_shaped hs.2) vb, hs.1, hs.2, rfl⟩
    · cases e
  · cases e
theorem op15 (hK : t.K = X.K) (hu : X.A.units + 100 < cLine) : OpR X (compareOp .In) (rOp t (bop .in_)) := by
  intro pins s σ H x y u v Q I rx ry ⟨ρ, h, a, b, hr, va, vb, p⟩
  obtain ⟨k, e, q⟩ := ofB_ok hr (show Post t ρ H (ofB (inX h a b) h) (KV1 t Q) E0' from p)
  unfold inX at e
  split at e
  · rename_i e0
    cases e
    rcases in_core hr va vb e0 with ⟨c, z, rfl, rfl, rfl⟩ | ⟨l, zs, rfl, h1, h2, h3, rfl⟩ | ⟨l, o, rfl, g, rfl⟩
    · exact op_in_sign pins s σ H _ _ u v Q I rx ry ⟨c, z, rfl, rfl, q⟩
    · exact op_in_seq pins s σ H _ _ u v Q I rx ry ⟨l, zs, rfl, hK ▸ h1, h2, h3, q⟩
    · obtain rfl : v = Value.ref l := ry
      exact d_in (by omega) I g rx fun s3 I3 => ⟨.bl o.isSome, H, I3, rfl, q⟩
  · obtain ⟨d, ds, h1, h2, h3, h4, rfl⟩ := inD_core hr va vb e
    exact op_inD (by omega) pins s σ H _ _ u v Q I rx ry ⟨d, ds, hK ▸ h1, hK ▸ h2, h3, h4, q⟩
theorem op16 (hK : t.K = X.K) (hu : X.A.units + 100 < cLine) : OpR X (compareOp .NotIn) (rOp t (bop .notin)) := by
  intro pins s σ H x y u v Q I rx ry ⟨ρ, h, a, b, hr, va, vb, p⟩
  obtain ⟨k, e, q⟩ := ofB_ok hr (show Post t ρ H (ofB ((inX h a b).map (!·)) h) (KV1 t Q) E0' from p)
  obtain ⟨k', e', rfl⟩ := Option.map_eq_some_iff.mp e
  unfold inX at e'
  split at e'
  · rename_i e0
    cases e'
    rcases in_core hr va vb e0 with ⟨c, z, rfl, rfl, rfl⟩ | ⟨l, zs, rfl, h1, h2, h3, rfl⟩ | ⟨l, o, rfl, g, rfl⟩
    · exact op_notIn_sign pins s σ H _ _ u v Q I rx ry ⟨c, z, rfl, rfl, q⟩
    · exact op_notIn_seq pins s σ H _ _ u v Q I rx ry ⟨l, zs, rfl, hK ▸ h1, h2, h3, q⟩
    · obtain rfl : v = Value.ref l := ry
      exact d_notIn (by omega) I g rx fun s3 I3 => ⟨.bl (!o.isSome), H, I3, rfl, q⟩
  · obtain ⟨d, ds, h1, h2, h3, h4, rfl⟩ := inD_core hr va vb e'
    exact op_notInD (by omega) pins s σ H _ _ u v Q I rx ry ⟨d, ds, hK ▸ h1, hK ▸ h2, h3, h4, q⟩
end
end Mi


/-! # Mi4: expressions -/
namespace Mi
open PySem PySem.Spec PyProof.Rows L2

/-- the surroundings of a piece of code -/
structure Ok (X : Cx) (t : Th) (W : L2.WX) : Prop where
  hK : t.K = X.K
  nd : X.N.Nodup
  hu : X.A.units + 150 < cLine
  hg : X.A.guards = some []
  sm : ∃ mm, X.base.Ns sysModules mm
  own : PassesOwn (model X.prog X.w) X.A X.env X.xe
  tk : Takes X W
/-- .. where nothing is handled -/
structure OkC (X : Cx) (t : Th) (W : L2.WX) : Prop extends Ok X t W where
  calm : X.calm = true
  px : t.ex = none
theorem Ok.ok {X : Cx} {t : Th} {W : L2.WX} (O : Ok X t W) : Ok X t W := O
theorem OkC.ok {X : Cx} {t : Th} {W : L2.WX} (O : OkC X t W) : Ok X t W := O.toOk
instance {X : Cx} {t : Th} {W : L2.WX} : Coe (OkC X t W) (Ok X t W) := ⟨OkC.toOk⟩

section
variable (t : Th) (W : L2.WX)
abbrev EW (σ : L2.St) : Value → Option Addr → Hp → Prop := fun c d H' => W c d σ H'
def tE (f : Sl → Heap → Res Val) : TE := fun σ H Q => ∃ ρ h s, HR t ρ h H ∧ SR t ρ s σ ∧ Post t ρ H (f s h) (KV1 t Q) (EW W σ)
def tT (f : Sl → Heap → Res Bool) : TT := fun σ H Q => ∃ ρ h s, HR t ρ h H ∧ SR t ρ s σ ∧ Post t ρ H (f s h) (fun b _ _ H' => Q b H') (EW W σ)
abbrev KVs (Q : List V → Hp → Prop) : List Val → Heap → List Addr → Hp → Prop := fun v _ ρ' H' => ∀ z, VRs t ρ' v z → Q z H'
def tA (f : Sl → Heap → Res (List Val)) : TA := fun σ H Q => ∃ ρ h s, HR t ρ h H ∧ SR t ρ s σ ∧ Post t ρ H (f s h) (KVs t Q) (EW W σ)
def tO (f : Sl → Heap → Res (Option Int)) : TO := fun σ H Q => ∃ ρ h s, HR t ρ h H ∧ SR t ρ s σ ∧ Post t ρ H (f s h) (fun b _ _ H' => Q b H') (EW W σ)
end
theorem PEi {X : Cx} {e : Expr} {t t' : TE} (p : PE X e t) (h : ∀ σ H Q, t' σ H Q → t σ H Q) : PE X e t' := ⟨fun pins s σ H Q I q => p.run pins s σ H Q I (h σ H Q q)⟩
theorem PTi {X : Cx} {e : Expr} {t t' : TT} (p : PT X e t) (h : ∀ σ H Q, t' σ H Q → t σ H Q) : PT X e t' := ⟨fun pins s σ H Q I q => p.run pins s σ H Q I (h σ H Q q)⟩
theorem PWi {X : Cx} {e : Expr} {t t' : TT} (p : PW X e t) (h : ∀ σ H Q, t' σ H Q → t σ H Q) : PW X e t' := ⟨fun wh pins s σ H Q I q => p.run wh pins s σ H Q I (h σ H Q q)⟩
theorem PAi {X : Cx} {e : List Expr} {t t' : TA} (p : PA X e t) (h : ∀ σ H Q, t' σ H Q → t σ H Q) : PA X e t' := ⟨fun pos pins s σ H Q I q => p.run pos pins s σ H Q I (h σ H Q q)⟩
theorem POi {X : Cx} {e : Option Expr} {t t' : TO} (p : PO X e t) (h : ∀ σ H Q, t' σ H Q → t σ H Q) : PO X e t' := ⟨fun pins s σ H Q I q => p.run pins s σ H Q I (h σ H Q q)⟩

theorem nox_ok {α : Type} {a : α} {h : Heap} : NoX (Res.ok a h) := fun _ _ _ => nofun
theorem nox_bad {α : Type} : NoX (Res.bad : Res α) := fun _ _ _ => nofun
theorem nox_new {o : Ob} {h : Heap} : NoX (new o h) := fun _ _ _ => nofun
theorem nox_ofB {o : Option Bool} {h : Heap} : NoX (ofB o h) := by
  cases o <;> exact fun _ _ _ => nofun
theorem nox_bop (o : Op) (x y : Val) (h : Heap) : NoX (bop o x y h) := by
  unfold bop addV subV mulV fdivV modV powV
  repeat' split
  all_goals first | exact nox_ofB | exact nox_new | exact nox_ok | exact nox_bad
theorem nox_idx (g : G) (x y : Val) (h : Heap) : NoX (idxV g x y h) := by
  unfold idxV
  repeat' split
  all_goals first | exact nox_new | exact nox_ok | exact nox_bad
theorem nox_slc (x : Val) (l u : Option Int) (h : Heap) : NoX (slcV x l u h) := by
  unfold slcV
  repeat' split
  all_goals first | exact nox_new | exact nox_ok | exact nox_bad
theorem nox_pri (g : G) (p : Pr) (vs : List Val) (h : Heap) : NoX (pri g p vs h) := by
  unfold pri maxV
  repeat' split
  all_goals first | exact nox_new | exact nox_ok | exact nox_bad
theorem nox_met (m : Me) (x : Val) (vs : List Val) (h : Heap) : NoX (met m x vs h) := by
  unfold met
  repeat' split
  all_goals first | exact nox_new | exact nox_ok | exact nox_bad

section
variable {t : Th} {ρ : List Addr} {h : Heap} {H : Hp}
theorem tru_V {v : Val} {y : V} {b : Bool} (x : HR t ρ h H) (r : VR t ρ v y) (e : tru h v = some b) : TruV t.K y H b := by
  unfold tru at e
  split at e
  · cases r; cases e; rfl
  · cases r; cases e; rfl
  · cases r; cases e; rfl
  · split at e
    · cases r; cases e; exact ⟨by assumption, rfl⟩
    · cases e
  · split at e
    · rename_i xs hk
      obtain ⟨l, rfl, l1, zs, hl, r1⟩ := x.ref hk r
      cases e
      refine .inl ⟨zs, .of hl, ?_⟩
      cases r1 <;> rfl
    · rename_i xs hk
      obtain ⟨l, rfl, l1, zs, hl, r1⟩ := x.ref hk r
      cases e
      refine .inr (.inl ⟨zs, .of hl, ?_⟩)
      cases r1 <;> rfl
    · rename_i xs hk
      obtain ⟨l, rfl, l1, zs, hl, r1⟩ := x.ref hk r
      cases e
      refine .inr (.inr ⟨zs, hl, ?_⟩)
      cases r1 <;> rfl
    · cases e
  · cases e
/-- a truth asked -/
theorem post_tru {v : Val} {y : V} {E : Value → Option Addr → Hp → Prop} {k : Bool → Heap → List Addr → Hp → Prop} (x : HR t ρ h H) (r : VR t ρ v y) (p : Post t ρ H (truB v h) k E) : ∃ b, tru h v = some b ∧ TruV t.K y H b ∧ k b h ρ H := by
  unfold truB at p
  split at p
  · rename_i b e
    exact ⟨b, e, tru_V x r e, p.ok x⟩
  · exact p.elim
end

section
variable {X : Cx} {t : Th} {W : L2.WX} {g : G} {a b c e : Expr} {es : List Expr} {ma mb mc m : Ex} {ms : Exs} {pos : Pos}
variable (O : Ok X t W)
include O

theorem e_var {i : Nat} {x : Str} {p : Pos} (hN : X.N[i]? = some x := by rfl) (hv : Vis X.env.scope x := by first | exact Or.inl rfl | exact Or.inr (Or.inl rfl) | exact Or.inr (Or.inr rfl)) (hd : (x == ("__debug__" : Str)) = false := by decide)
    (hcd : (x == ("__classdict__" : Str)) = false := by decide) : PE X (.Name x p) (tE t W (den g (.var i))) := by
  refine PEi (pe_var hN hv hd hcd) fun σ H Q ⟨ρ, h, s, hr, sr, p⟩ => ?_
  unfold den at p
  split at p
  · rename_i v e
    obtain ⟨o, e1, r⟩ := pr_get sr.pr e
    cases o with
    | none => exact r.elim
    | some y => exact ⟨y, e1, p.ok hr y r⟩
  · exact p.elim
theorem e_int {i : Int} {j : Nat} : PE X (.Constant (.int i) j pos) (tE t W (den g (.cst (.int i)))) :=
  PEi pe_int fun σ H Q ⟨ρ, h, s, hr, sr, p⟩ => Post.ok hr p _ rfl
theorem e_bl {i : Bool} {j : Nat} : PE X (.Constant (.bool i) j pos) (tE t W (den g (.cst (.bl i)))) :=
  PEi pe_bl fun σ H Q ⟨ρ, h, s, hr, sr, p⟩ => Post.ok hr p _ rfl
theorem e_str {i : Str} {j : Nat} : PE X (.Constant (.str i) j pos) (tE t W (den g (.cst (.str i)))) :=
  PEi pe_str fun σ H Q ⟨ρ, h, s, hr, sr, p⟩ => Post.ok hr p _ rfl
theorem e_non {j : Nat} : PE X (.Constant .none j pos) (tE t W (den g (.cst .non))) :=
  PEi pe_non fun σ H Q ⟨ρ, h, s, hr, sr, p⟩ => Post.ok hr p _ rfl
/-- a built-in type by its name -/
theorem e_ty {x : Str} {s : String} {p : Pos} (hg : Gl X x) (hm : X.mg x = none) (hv : bootBuiltins x = some (.type s)) (hn : x ≠ "__name__" := by decide) (hd : (x == ("__debug__" : Str)) = false := by decide) :
    PE X (.Name x p) (tE t W (den g (.cst (.ty s)))) :=
  PEi (pe_bltn (v := .ty s) hg hm hv rfl hn hd) fun σ H Q ⟨ρ, h, s, hr, sr, p⟩ => Post.ok hr p _ rfl
/-- a constant of the module: an int, a text -/
theorem e_glbI {x : Str} {j : Nat} {i : Int} {p : Pos} (hg : Gl X x) (hm : ∃ u, X.mg x = some (.int i u)) (he : g.glob j = some (.int i)) (hd : (x == ("__debug__" : Str)) = false := by decide) : PE X (.Name x p) (tE t W (den g (.glb j))) := by
  obtain ⟨u, hm⟩ := hm
  refine PEi (pe_glob (v := .int i) hg hm ⟨u, rfl⟩ hd) fun σ H Q ⟨ρ, h, s, hr, sr, p⟩ => ?_
  unfold den at p
  rw [he] at p
  exact Post.ok hr p _ rfl
theorem e_glbS {x i : Str} {j : Nat} {p : Pos} (hg : Gl X x) (hm : ∃ u, X.mg x = some (.str i u)) (he : g.glob j = some (.str i)) (hd : (x == ("__debug__" : Str)) = false := by decide) : PE X (.Name x p) (tE t W (den g (.glb j))) := by
  obtain ⟨u, hm⟩ := hm
  refine PEi (pe_glob (v := .str i) hg hm ⟨u, rfl⟩ hd) fun σ H Q ⟨ρ, h, s, hr, sr, p⟩ => ?_
  unfold den at p
  rw [he] at p
  exact Post.ok hr p _ rfl

/-- two values, one after the other -/
theorem two {f : Val → Val → Heap → Res Val} {σ : L2.St} {H : Hp} {Q : VK} {r : V → V → Hp → Prop}
    (q : tE t W (fun s h => (den g ma s h).bind fun x h => (den g mb s h).bind fun y h => f x y h) σ H Q)
    (k : ∀ ρ h H x y u v, HR t ρ h H → VR t ρ x u → VR t ρ y v → Post t ρ H (f x y h) (KV1 t Q) (EW W σ) → r u v H) :
    tE t W (den g ma) σ H fun u H1 => tE t W (den g mb) σ H1 fun v H2 => r u v H2 := by
  obtain ⟨ρ, h, s, hr, sr, p⟩ := q
  exact ⟨ρ, h, s, hr, sr, (Post.bind p).imp fun x h1 ρ1 H1 e1 x1 p1 u ru => ⟨ρ1, h1, s, x1, SR.ext e1 sr, (Post.bind p1).imp fun y h2 ρ2 H2 e2 x2 p2 v rv => k ρ2 h2 H2 x y u v x2 (ru.ext e2) rv p2⟩⟩
theorem e_bin {op : Operator} {o : Op} (ho : OpR X (binaryOp op) (rOp t (bop o))) (ha : PE X a (tE t W (den g ma))) (hb : PE X b (tE t W (den g mb))) : PE X (.BinOp a op b pos) (tE t W (den g (.bin o ma mb))) :=
  PEi (pe_op ho ha hb) fun σ H Q q => two O (f := bop o) (by unfold tE den at q; exact q) fun ρ h H x y u v hr ru rv p => ⟨ρ, h, x, y, hr, ru, rv, p.nox (nox_bop _ _ _ _)⟩
theorem e_cmp {op : CmpOp} {o : Op} (ho : OpR X (compareOp op) (rOp t (bop o))) (ha : PE X a (tE t W (den g ma))) (hb : PE X b (tE t W (den g mb))) (hm : behindInMarks op b = false) : PE X (.Compare a [op] [b] pos) (tE t W (den g (.bin o ma mb))) :=
  PEi (pe_cmpR ho ha hb hm) fun σ H Q q => two O (f := bop o) (by unfold tE den at q; exact q) fun ρ h H x y u v hr ru rv p => ⟨ρ, h, x, y, hr, ru, rv, p.nox (nox_bop _ _ _ _)⟩
theorem truB_ofB {z : Val} {h : Heap} (hz : ∃ k, z = .bl k) : ∃ k, z = .bl k ∧ truB z h = .ok k h := by
  obtain ⟨k, rfl⟩ := hz
  exact ⟨k, rfl, rfl⟩
/-- what a comparison gives is a truth -/
def isB (r : Res Val) : Prop := ∀ v h, r = .ok v h → ∃ k, v = .bl k
omit O in
theorem isB_ofB {o : Option Bool} {h : Heap} : isB (ofB o h) := by
  cases o with
  | none => exact fun _ _ => nofun
  | some b => exact fun v h' e => ⟨b, by injection e with e1 _; exact e1.symm⟩
theorem t_cmp {op : CmpOp} {o : Op} (ho : OpR X (compareOp op) (rOp t (bop o))) (hB : ∀ x y h, isB (bop o x y h)) (ha : PE X a (tE t W (den g ma))) (hb : PE X b (tE t W (den g mb))) (hm : behindInMarks op b = false) : PT X (.Compare a [op] [b] pos) (tT t W (denT g (.bin o ma mb))) := by
  refine PTi (pt_cmpR ho ha hb hm) fun σ H Q ⟨ρ, h, s, hr, sr, p⟩ => ?_
  refine two O (f := bop o) (ma := ma) (mb := mb) (Q := fun v H' => ∃ k, v = .bl k ∧ Q k H') ?_ fun ρ h H x y u v hr ru rv p => ⟨ρ, h, x, y, hr, ru, rv, p.nox (nox_bop _ _ _ _)⟩
  refine ⟨ρ, h, s, hr, sr, ?_⟩
  unfold denT at p
  refine Post.imp (k := fun v h' ρ' H' => (∃ k, v = .bl k) ∧ Post t ρ' H' (truB v h') (fun b _ _ H' => Q b H') (EW W σ)) ?_ fun v h' ρ' H' e x q z rz => ?_
  · have p1 := Post.bind p
    show Post t ρ H ((den g ma s h).bind fun x h => (den g mb s h).bind fun y h => bop o x y h) _ _
    unfold den at p1
    generalize he : ((den g ma s h).bind fun x h => (den g mb s h).bind fun y h => bop o x y h) = r at p1 ⊢
    cases r with
    | ok v h1 =>
      refine fun ρ2 H2 e2 x2 => ⟨?_, p1 ρ2 H2 e2 x2⟩
      cases hx : den g ma s h with
      | ok x1 h1' =>
        rw [hx] at he
        cases hy : den g mb s h1' with
        | ok y1 h2' => simp only [Res.bind_ok, hy] at he; exact hB _ _ _ _ _ he
        | exc _ _ _ => simp only [Res.bind_ok, hy] at he; cases he
        | bad => simp only [Res.bind_ok, hy] at he; cases he
      | exc _ _ _ => rw [hx] at he; cases he
      | bad => rw [hx] at he; cases he
    | exc _ _ _ => exact p1
    | bad => exact p1
  · obtain ⟨⟨k, rfl⟩, q⟩ := q
    cases rz
    exact ⟨k, rfl, q.ok x⟩
theorem e_neg (ha : PE X a (tE t W (den g ma))) : PE X (.UnaryOp .USub a pos) (tE t W (den g (.neg ma))) := by
  refine PEi (pe_un un_neg ha) fun σ H Q ⟨ρ, h, s, hr, sr, p⟩ => ?_
  unfold den at p
  refine ⟨ρ, h, s, hr, sr, (Post.bind p).imp fun x h1 ρ1 H1 e1 x1 p1 u ru => ?_⟩
  split at p1
  · cases ru
    exact ⟨_, rfl, p1.ok x1 _ rfl⟩
  · exact p1.elim
theorem e_not (ha : PE X a (tE t W (den g ma))) : PE X (.UnaryOp .Not a pos) (tE t W (den g (.not ma))) := by
  refine PEi (pe_notT ha) fun σ H Q ⟨ρ, h, s, hr, sr, p⟩ => ?_
  unfold den at p
  refine ⟨ρ, h, s, hr, sr, (Post.bind p).imp fun x h1 ρ1 H1 e1 x1 p1 u ru => ?_⟩
  obtain ⟨b, _, tv, q⟩ := post_tru x1 ru (Post.bind p1)
  exact ⟨b, O.hK ▸ tv, q.ok x1 _ rfl⟩
theorem e_one {op : PySem.BoolOp} (ha : PE X a (tE t W (den g ma))) : PE X (.BoolOp op [a] pos) (tE t W (den g ma)) := pe_one ha
theorem e_and (ha : PE X a (tE t W (den g ma))) (hb : PE X (.BoolOp .And (b :: es) pos) (tE t W (den g mb))) : PE X (.BoolOp .And (a :: b :: es) pos) (tE t W (den g (.and ma mb))) := by
  refine PEi (pe_andT ha hb) fun σ H Q ⟨ρ, h, s, hr, sr, p⟩ => ?_
  unfold den at p
  refine ⟨ρ, h, s, hr, sr, (Post.bind p).imp fun x h1 ρ1 H1 e1 x1 p1 u ru => ?_⟩
  obtain ⟨k, _, tv, q⟩ := post_tru x1 ru (Post.bind p1)
  refine ⟨k, O.hK ▸ tv, ?_⟩
  cases k with
  | true => rw [if_pos rfl] at q ⊢; exact ⟨ρ1, h1, s, x1, SR.ext e1 sr, q⟩
  | false => rw [if_neg Bool.false_ne_true] at q ⊢; exact q.ok x1 _ ru
theorem e_or (ha : PE X a (tE t W (den g ma))) (hb : PE X (.BoolOp .Or (b :: es) pos) (tE t W (den g mb))) : PE X (.BoolOp .Or (a :: b :: es) pos) (tE t W (den g (.or ma mb))) := by
  refine PEi (pe_orT ha hb) fun σ H Q ⟨ρ, h, s, hr, sr, p⟩ => ?_
  unfold den at p
  refine ⟨ρ, h, s, hr, sr, (Post.bind p).imp fun x h1 ρ1 H1 e1 x1 p1 u ru => ?_⟩
  obtain ⟨k, _, tv, q⟩ := post_tru x1 ru (Post.bind p1)
  refine ⟨k, O.hK ▸ tv, ?_⟩
  cases k with
  | true => rw [if_pos rfl] at q ⊢; exact q.ok x1 _ ru
  | false => rw [if_neg Bool.false_ne_true] at q ⊢; exact ⟨ρ1, h1, s, x1, SR.ext e1 sr, q⟩
/-- tests -/
theorem t_plain (ha : PE X a (tE t W (den g ma))) (he : ∀ whole, isTrue a X.env whole = (do let v ← whole; standAt a.pos; holding [v] (truthy v)) := by intro _; rfl) : PT X a (tT t W (denT g ma)) := by
  refine PTi (pt_truth ha he) fun σ H Q ⟨ρ, h, s, hr, sr, p⟩ => ?_
  unfold denT at p
  refine ⟨ρ, h, s, hr, sr, (Post.bind p).imp fun x h1 ρ1 H1 e1 x1 p1 u ru => ?_⟩
  obtain ⟨k, _, tv, q⟩ := post_tru x1 ru p1
  exact ⟨k, O.hK ▸ tv, q⟩
omit O in
theorem denT_not (s : Sl) (h : Heap) : denT g (.not ma) s h = (denT g ma s h).bind fun b h => .ok (!b) h := by
  unfold denT
  conv => lhs; unfold den
  cases den g ma s h with
  | ok v h1 =>
    simp only [Res.bind_ok]
    cases q : truB v h1 <;> rfl
  | exc _ _ _ => rfl
  | bad => rfl
omit O in
theorem truB_heap {v : Val} {h h' : Heap} {b : Bool} (e : truB v h = .ok b h') : h' = h ∧ tru h v = some b := by
  unfold truB at e
  split at e
  · injection e with e1 e2; subst e1; exact ⟨e2.symm, by assumption⟩
  · cases e
omit O in
theorem denT_and (s : Sl) (h : Heap) : denT g (.and ma mb) s h = (denT g ma s h).bind fun b h => if b then denT g mb s h else .ok false h := by
  unfold denT
  conv => lhs; unfold den
  cases den g ma s h with
  | ok v h1 =>
    simp only [Res.bind_ok]
    cases q : truB v h1 with
    | ok b h2 =>
      obtain ⟨rfl, e⟩ := truB_heap q
      cases b with
      | true => rfl
      | false => simp only [Res.bind_ok]; exact q
    | exc _ _ _ => rfl
    | bad => rfl
  | exc _ _ _ => rfl
  | bad => rfl
omit O in
theorem denT_or (s : Sl) (h : Heap) : denT g (.or ma mb) s h = (denT g ma s h).bind fun b h => if b then .ok true h else denT g mb s h := by
  unfold denT
  conv => lhs; unfold den
  cases den g ma s h with
  | ok v h1 =>
    simp only [Res.bind_ok]
    cases q : truB v h1 with
    | ok b h2 =>
      obtain ⟨rfl, e⟩ := truB_heap q
      cases b with
      | false => rfl
      | true => simp only [Res.bind_ok]; exact q
    | exc _ _ _ => rfl
    | bad => rfl
  | exc _ _ _ => rfl
  | bad => rfl
theorem t_not (ha : PT X a (tT t W (denT g ma))) : PT X (.UnaryOp .Not a pos) (tT t W (denT g (.not ma))) := by
  refine PTi (pt_not ha) fun σ H Q ⟨ρ, h, s, hr, sr, p⟩ => ?_
  rw [denT_not] at p
  exact ⟨ρ, h, s, hr, sr, (Post.bind p).imp fun x h1 ρ1 H1 e1 x1 p1 => p1.ok x1⟩
theorem w_and1 (ha : PT X a (tT t W (denT g ma))) : PW X (.BoolOp .And [a] pos) (tT t W (denT g ma)) := pw_and1 ha
theorem w_or1 (ha : PT X a (tT t W (denT g ma))) : PW X (.BoolOp .Or [a] pos) (tT t W (denT g ma)) := pw_or1 ha
theorem w_and (ha : PT X a (tT t W (denT g ma))) (hb : PW X (.BoolOp .And (b :: es) pos) (tT t W (denT g mb))) : PW X (.BoolOp .And (a :: b :: es) pos) (tT t W (denT g (.and ma mb))) := by
  refine PWi (pw_and ha hb) fun σ H Q ⟨ρ, h, s, hr, sr, p⟩ => ?_
  rw [denT_and] at p
  refine ⟨ρ, h, s, hr, sr, (Post.bind p).imp fun k h1 ρ1 H1 e1 x1 q => ?_⟩
  cases k with
  | true => exact ⟨ρ1, h1, s, x1, SR.ext e1 sr, q⟩
  | false => exact q.ok x1
theorem w_or (ha : PT X a (tT t W (denT g ma))) (hb : PW X (.BoolOp .Or (b :: es) pos) (tT t W (denT g mb))) : PW X (.BoolOp .Or (a :: b :: es) pos) (tT t W (denT g (.or ma mb))) := by
  refine PWi (pw_or ha hb) fun σ H Q ⟨ρ, h, s, hr, sr, p⟩ => ?_
  rw [denT_or] at p
  refine ⟨ρ, h, s, hr, sr, (Post.bind p).imp fun k h1 ρ1 H1 e1 x1 q => ?_⟩
  cases k with
  | false => exact ⟨ρ1, h1, s, x1, SR.ext e1 sr, q⟩
  | true => exact q.ok x1
theorem e_ite (hc : PT X c (tT t W (denT g mc))) (ha : PE X a (tE t W (den g ma))) (hb : PE X b (tE t W (den g mb))) : PE X (.IfExp c a b pos) (tE t W (den g (.ite mc ma mb))) := by
  refine PEi (pe_ifExp hc ha hb) fun σ H Q ⟨ρ, h, s, hr, sr, p⟩ => ?_
  have e : den g (.ite mc ma mb) s h = (denT g mc s h).bind fun k h => if k then den g ma s h else den g mb s h := by
    conv => lhs; unfold den
    unfold denT
    cases den g mc s h <;> rfl
  rw [e] at p
  refine ⟨ρ, h, s, hr, sr, (Post.bind p).imp fun k h1 ρ1 H1 e1 x1 q => ?_⟩
  cases k with
  | true => exact ⟨ρ1, h1, s, x1, SR.ext e1 sr, q⟩
  | false => exact ⟨ρ1, h1, s, x1, SR.ext e1 sr, q⟩
/-- a op b op c -/
theorem e_chn {op op' : CmpOp} {o o' : Op} (ho : OpR X (compareOp op) (rOp t (bop o))) (ho' : OpR X (compareOp op') (rOp t (bop o'))) (hB : ∀ x y h, isB (bop o x y h)) (ha : PE X a (tE t W (den g ma))) (hb : PE X b (tE t W (den g mb))) (hc : PE X c (tE t W (den g mc)))
    (hm : lastMarks [op, op'] [b, c] = false := by with_unfolding_all rfl) : PE X (.Compare a [op, op'] [b, c] pos) (tE t W (den g (.chn o o' ma mb mc))) := by
  refine PEi (pe_chain ho ho' ha hb hc hm) fun σ H Q ⟨ρ, h, s, hr, sr, p⟩ => ?_
  unfold den at p
  refine ⟨ρ, h, s, hr, sr, (Post.bind p).imp fun x h1 ρ1 H1 e1 x1 p1 u ru => ⟨ρ1, h1, s, x1, SR.ext e1 sr, (Post.bind p1).imp fun y h2 ρ2 H2 e2 x2 p2 v rv => ⟨ρ2, h2, x, y, x2, ru.ext e2, rv, ?_⟩⟩⟩
  have p3 := Post.bind p2
  generalize hz : bop o x y h2 = r at p3 ⊢
  cases r with
  | bad => exact p3
  | exc c fs h' => exact absurd hz (nox_bop o x y h2 c fs h')
  | ok z h3 =>
    obtain ⟨k, rfl⟩ := hB x y h2 z h3 hz
    refine fun ρ3 H3 e3 x3 w rw => ?_
    cases rw
    refine ⟨k, rfl, ?_⟩
    have q := p3 ρ3 H3 e3 x3
    cases k with
    | true =>
      rw [if_pos rfl]
      exact ⟨ρ3, h3, s, x3, SR.ext (e1.trans (e2.trans e3)) sr, (Post.bind q).imp fun z' h4 ρ4 H4 e4 x4 p4 w' rw' => ⟨ρ4, h4, y, z', x4, (rv.ext e3).ext e4, rw', p4.nox (nox_bop _ _ _ _)⟩⟩
    | false =>
      rw [if_neg Bool.false_ne_true]
      exact q.ok x3 _ rfl
theorem t_chn {op op' : CmpOp} {o o' : Op} (ho : OpR X (compareOp op) (rOp t (bop o))) (ho' : OpR X (compareOp op') (rOp t (bop o'))) (hB : ∀ x y h, isB (bop o x y h)) (hB' : ∀ x y h, isB (bop o' x y h)) (ha : PE X a (tE t W (den g ma))) (hb : PE X b (tE t W (den g mb))) (hc : PE X c (tE t W (den g mc)))
    (hm : lastMarks [op, op'] [b, c] = false := by with_unfolding_all rfl) : PT X (.Compare a [op, op'] [b, c] pos) (tT t W (denT g (.chn o o' ma mb mc))) := by
  refine PTi (pt_chain ho ho' ha hb hc hm) fun σ H Q ⟨ρ, h, s, hr, sr, p⟩ => ?_
  have e : denT g (.chn o o' ma mb mc) s h = (den g ma s h).bind fun x h => (den g mb s h).bind fun y h => (bop o x y h).bind fun k h => (match k with
      | .bl true => (den g mc s h).bind fun z h => bop o' y z h
      | .bl false => .ok (.bl false) h
      | _ => .bad : Res Val).bind truB := by
    unfold denT
    conv => lhs; unfold den
    cases den g ma s h with
    | ok x h1 =>
      simp only [Res.bind_ok]
      cases den g mb s h1 with
      | ok y h2 =>
        simp only [Res.bind_ok]
        cases bop o x y h2 <;> rfl
      | exc _ _ _ => rfl
      | bad => rfl
    | exc _ _ _ => rfl
    | bad => rfl
  rw [e] at p
  refine ⟨ρ, h, s, hr, sr, (Post.bind p).imp fun x h1 ρ1 H1 e1 x1 p1 u ru => ⟨ρ1, h1, s, x1, SR.ext e1 sr, (Post.bind p1).imp fun y h2 ρ2 H2 e2 x2 p2 v rv => ⟨ρ2, h2, x, y, x2, ru.ext e2, rv, ?_⟩⟩⟩
  have p3 := Post.bind p2
  generalize hz : bop o x y h2 = r at p3 ⊢
  cases r with
  | bad => exact p3
  | exc c fs h' => exact absurd hz (nox_bop o x y h2 c fs h')
  | ok z h3 =>
    obtain ⟨k, rfl⟩ := hB x y h2 z h3 hz
    refine fun ρ3 H3 e3 x3 w rw => ?_
    cases rw
    refine ⟨k, rfl, ?_⟩
    have q := p3 ρ3 H3 e3 x3
    cases k with
    | true =>
      rw [if_pos rfl]
      refine ⟨ρ3, h3, s, x3, SR.ext (e1.trans (e2.trans e3)) sr, ?_⟩
      have q : Post t ρ3 H3 (((den g mc s h3).bind fun z h => bop o' y z h).bind truB) (fun b _ _ H' => Q b H') (EW W σ) := q
      have e' : ((den g mc s h3).bind fun z h => bop o' y z h).bind truB = (den g mc s h3).bind fun z h => (bop o' y z h).bind truB := by
        cases den g mc s h3 <;> rfl
      rw [e'] at q
      refine (Post.bind q).imp fun z' h4 ρ4 H4 e4 x4 p4 w' rw' => ⟨ρ4, h4, y, z', x4, (rv.ext e3).ext e4, rw', ?_⟩
      have p5 := Post.bind p4
      generalize hz' : bop o' y z' h4 = r' at p5 ⊢
      cases r' with
      | bad => exact p5
      | exc c fs h' => exact absurd hz' (nox_bop o' y z' h4 c fs h')
      | ok z2 h5 =>
        obtain ⟨k2, rfl⟩ := hB' y z' h4 z2 h5 hz'
        refine fun ρ5 H5 e5 x5 w2 rw2 => ?_
        cases rw2
        exact ⟨k2, rfl, (p5 ρ5 H5 e5 x5).ok x5⟩
    | false =>
      rw [if_neg Bool.false_ne_true]
      exact ⟨false, rfl, Post.ok x3 q⟩
/-- argument lists -/
theorem a_nil : PA X [] (tA t W (dens g .nil)) := PAi pa_nil fun σ H Q ⟨ρ, h, s, hr, sr, p⟩ => Post.ok hr p _ .nil
theorem a_cons (ha : PE X a (tE t W (den g ma))) (hb : PA X es (tA t W (dens g ms))) (hs : starEach (a :: es) X.env = (false, eval a X.env) :: starEach es X.env := by rfl) : PA X (a :: es) (tA t W (dens g (.cons ma ms))) := by
  refine PAi (pa_cons ha hb hs) fun σ H Q ⟨ρ, h, s, hr, sr, p⟩ => ?_
  unfold dens at p
  exact ⟨ρ, h, s, hr, sr, (Post.bind p).imp fun x h1 ρ1 H1 e1 x1 p1 u ru => ⟨ρ1, h1, s, x1, SR.ext e1 sr, (Post.bind p1).imp fun y h2 ρ2 H2 e2 x2 p2 v rv => p2.ok x2 _ (.cons (ru.ext e2) rv)⟩⟩
theorem e_lst (ha : PA X es (tA t W (dens g ms))) : PE X (.List es pos) (tE t W (den g (.lst ms))) := by
  refine PEi (pe_lst ha) fun σ H Q ⟨ρ, h, s, hr, sr, p⟩ => ?_
  unfold den at p
  refine ⟨ρ, h, s, hr, sr, (Post.bind p).imp fun x h1 ρ1 H1 e1 x1 p1 u ru => ?_⟩
  split at p1
  · exact ⟨by rw [← Paired.length ru]; assumption, fun q hq => Post.new x1 p1 hq (or_lst ru) _ (VR.new x1)⟩
  · exact p1.elim
theorem e_tup {k : Nat} (ha : PA X es (tA t W (dens g ms))) : PE X (.Tuple es k pos) (tE t W (den g (.tup ms))) := by
  refine PEi (pe_tup ha) fun σ H Q ⟨ρ, h, s, hr, sr, p⟩ => ?_
  unfold den at p
  refine ⟨ρ, h, s, hr, sr, (Post.bind p).imp fun x h1 ρ1 H1 e1 x1 p1 u ru => ?_⟩
  split at p1
  · exact ⟨by rw [← Paired.length ru]; assumption, fun q hq => Post.new x1 p1 hq (or_tup ru) _ (VR.new x1)⟩
  · exact p1.elim
theorem e_dnew : PE X (.Dict [] [] pos) (tE t W (den g .dnew)) := by
  refine PEi pe_dnewK fun σ H Q ⟨ρ, h, s, hr, sr, p⟩ => ?_
  unfold den at p
  exact fun q hq => Post.new hr p hq ⟨[], upd_same, .nil⟩ _ (VR.new hr)
end
end Mi


/-! # Mi5: items, slices, built-in functions and methods -/
namespace Mi
open PySem PySem.Spec PyProof.Rows L2

section
variable {t : Th} {ρ : List Addr} {h : Heap} {H : Hp} {g : G}
theorem atI_pr {α β : Type} {F : α → β → Prop} {xs : List α} {ys : List β} {i : Int} {v : α} (r : Paired F xs ys) (e : atI xs i = some v) : ∃ y, atI ys i = some y ∧ F v y := by
  unfold atI at e ⊢
  rw [← r.length]
  cases q : ixN xs.length i with
  | none => rw [q] at e; cases e
  | some j =>
    rw [q] at e
    obtain ⟨y, e1, r1⟩ := pr_get r e
    exact ⟨y, e1, r1⟩
theorem atI_map {α β : Type} {f : α → β} {xs : List α} {i : Int} {v : α} (e : atI xs i = some v) : atI (xs.map f) i = some (f v) := by
  unfold atI at e ⊢
  rw [List.length_map]
  cases q : ixN xs.length i with
  | none => rw [q] at e; cases e
  | some j =>
    rw [q] at e
    have e : xs[j]? = some v := e
    show (xs.map f)[j]? = some (f v)
    rw [List.getElem?_map, e]; rfl
theorem ints_vr : ∀ {xs : List Val} {ys : List V} {ns : List Int}, VRs t ρ xs ys → intsO xs = some ns → ys = ns.map V.int
  | _, _, _, .nil, e => by cases e; rfl
  | x :: xs, y :: ys, ns, .cons r rs, e => by
    cases x <;> simp [intsO] at e
    obtain ⟨ms, e1, rfl⟩ := e
    cases r
    rw [ints_vr rs e1]; rfl
theorem bls_vr : ∀ {xs : List Val} {ys : List V} {ns : List Bool}, VRs t ρ xs ys → blsO xs = some ns → ys = ns.map V.bl
  | _, _, _, .nil, e => by cases e; rfl
  | x :: xs, y :: ys, ns, .cons r rs, e => by
    cases x <;> simp [blsO] at e
    obtain ⟨ms, e1, rfl⟩ := e
    cases r
    rw [bls_vr rs e1]; rfl
theorem strs_vr : ∀ {xs : List Val} {ys : List V} {ns : List Str}, VRs t ρ xs ys → strsO xs = some ns → ys = ns.map V.str
  | _, _, _, .nil, e => by cases e; rfl
  | x :: xs, y :: ys, ns, .cons r rs, e => by
    cases x <;> simp [strsO] at e
    obtain ⟨ms, e1, rfl⟩ := e
    cases r
    rw [strs_vr rs e1]; rfl
theorem lst_of {v : Val} {y : V} {xs : List Val} (x : HR t ρ h H) (r : VR t ρ v y) (e : lstO h v = some xs) : ∃ a ys, y = .ref a ∧ H a = some (.lst ys) ∧ VRs t ρ xs ys := by
  unfold lstO at e
  split at e
  · split at e
    · rename_i zs hk
      cases e
      obtain ⟨l, rfl, l1, ys, hl, r1⟩ := x.ref hk r
      exact ⟨l, ys, rfl, hl, r1⟩
    · cases e
  · cases e
theorem seq_of {v : Val} {y : V} {xs : List Val} (x : HR t ρ h H) (r : VR t ρ v y) (e : seqO h v = some xs) : ∃ a ys, y = .ref a ∧ (H a = some (.lst ys) ∨ H a = some (.tup ys)) ∧ VRs t ρ xs ys := by
  unfold seqO at e
  split at e
  · split at e
    · rename_i zs hk
      cases e
      obtain ⟨l, rfl, l1, ys, hl, r1⟩ := x.ref hk r
      exact ⟨l, ys, rfl, .inl hl, r1⟩
    · rename_i zs hk
      cases e
      obtain ⟨l, rfl, l1, ys, hl, r1⟩ := x.ref hk r
      exact ⟨l, ys, rfl, .inr hl, r1⟩
    · cases e
  · cases e
theorem foldl_max (ns : List Int) : ∀ a : Int, (∀ y ∈ ns, y ≤ ns.foldl max a) ∧ a ≤ ns.foldl max a ∧ (ns.foldl max a = a ∨ ns.foldl max a ∈ ns) := by
  induction ns with
  | nil => intro a; simp
  | cons n ns ih =>
    intro a
    obtain ⟨h1, h2, h3⟩ := ih (max a n)
    simp only [List.foldl_cons, List.mem_cons]
    refine ⟨fun y hy => ?_, by omega, ?_⟩
    · rcases hy with rfl | hy
      · omega
      · exact h1 y hy
    · rcases h3 with h3 | h3
      · rcases Int.le_total a n with q | q
        · right; left; rw [h3]; omega
        · left; rw [h3]; omega
      · right; right; exact h3
theorem foldl_min (ns : List Int) : ∀ a : Int, (∀ y ∈ ns, ns.foldl min a ≤ y) ∧ ns.foldl min a ≤ a ∧ (ns.foldl min a = a ∨ ns.foldl min a ∈ ns) := by
  induction ns with
  | nil => intro a; simp
  | cons n ns ih =>
    intro a
    obtain ⟨h1, h2, h3⟩ := ih (min a n)
    simp only [List.foldl_cons, List.mem_cons]
    refine ⟨fun y hy => ?_, by omega, ?_⟩
    · rcases hy with rfl | hy
      · omega
      · exact h1 y hy
    · rcases h3 with h3 | h3
      · rcases Int.le_total a n with q | q
        · left; rw [h3]; omega
        · right; left; rw [h3]; omega
      · right; right; exact h3
theorem maxL_ge {ns : List Int} {y : Int} (hy : y ∈ ns) : y ≤ maxL ns := (foldl_max ns _).1 y hy
theorem maxL_mem {ns : List Int} (h : 0 < ns.length) : maxL ns ∈ ns := by
  cases ns with
  | nil => simp at h
  | cons n ns =>
    rcases (foldl_max (n :: ns) n).2.2 with q | q
    · show List.foldl max n (n :: ns) ∈ n :: ns
      rw [q]; simp
    · exact q
theorem minL_le {ns : List Int} {y : Int} (hy : y ∈ ns) : minL ns ≤ y := (foldl_min ns _).1 y hy
theorem minL_mem {ns : List Int} (h : 0 < ns.length) : minL ns ∈ ns := by
  cases ns with
  | nil => simp at h
  | cons n ns =>
    rcases (foldl_min (n :: ns) n).2.2 with q | q
    · show List.foldl min n (n :: ns) ∈ n :: ns
      rw [q]; simp
    · exact q
theorem max_is {ns : List Int} {m : Int} (h1 : m ∈ ns) (h2 : ∀ y, y ∈ ns → y ≤ m) : m = maxL ns := by
  have := maxL_ge h1
  have := h2 _ (maxL_mem (List.length_pos_of_mem h1))
  omega
theorem min_is {ns : List Int} {m : Int} (h1 : m ∈ ns) (h2 : ∀ y, y ∈ ns → m ≤ y) : m = minL ns := by
  have := minL_le h1
  have := h2 _ (minL_mem (List.length_pos_of_mem h1))
  omega
end

/-! ## items -/
section
variable {X : Cx} {t : Th} {W : L2.WX} {g : G} {a b c e : Expr} {es : List Expr} {ma mb mc m : Ex} {ms : Exs} {pos : Pos}
theorem ix_V (hK : t.K = X.K) (hS : g.scr = t.S) (hu : X.A.units + 150 < cLine) : IxR X (rOp t (idxV g)) := by
  intro value slice pins s σ H x y v u Q I rx ry ⟨ρ, h, a, b, hr, va, vb, p⟩ hs
  unfold idxV at p
  split at p
  · split at p
    · rename_i n e
      cases va; cases vb
      rw [hS] at e
      exact ix_list value slice pins s σ H _ _ v u Q I rx ry ⟨_, _, _, _, rfl, rfl, hK ▸ hr.sc.sq, atI_map e, p.ok hr _ rfl⟩ hs
    · exact p.elim
  · split at p
    · split at p
      · rename_i hz _ n e
        cases va; cases vb
        exact ix_str value slice pins s σ H _ _ v u Q I rx ry ⟨_, _, _, rfl, rfl, hz, e, p.ok hr _ rfl⟩ hs
      · exact p.elim
    · exact p.elim
  · split at p
    · rename_i xs hk
      obtain ⟨l, rfl, l1, ys, hl, r1⟩ := hr.ref hk va
      split at p
      · split at p
        · rename_i w e
          cases vb
          obtain ⟨z, e1, r2⟩ := atI_pr r1 e
          exact ix_list value slice pins s σ H _ _ v u Q I rx ry ⟨_, _, _, _, rfl, rfl, SqL.of hl, e1, p.ok hr _ r2⟩ hs
        · exact p.elim
      · exact p.elim
    · rename_i xs hk
      obtain ⟨l, rfl, l1, ys, hl, r1⟩ := hr.ref hk va
      split at p
      · split at p
        · rename_i w e
          cases vb
          obtain ⟨z, e1, r2⟩ := atI_pr r1 e
          exact ix_tup value slice pins s σ H _ _ v u Q I rx ry ⟨_, _, _, _, rfl, rfl, SqT.of hl, e1, p.ok hr _ r2⟩ hs
        · exact p.elim
      · exact p.elim
    · rename_i xs hk
      obtain ⟨l, rfl, l1, ys, hl, r1⟩ := hr.ref hk va
      split at p
      · rename_i kk hkk
        split at p
        · rename_i w e
          have := key_vr hkk vb
          subst this
          obtain ⟨z, e1, r2⟩ := (kr_get (k := kk) r1).1 w e
          obtain rfl : v = Value.ref l := rx
          have gd : DGet H l (kV kk) (some z) := by rw [← e1]; exact DGet.k hl
          exact tail_any (dict_typeIs I gd) PySem.F.slot_dict_getitem.lookup (d_getItem (by omega) I gd ry fun w' s3 I3 rw' => ⟨z, H, I3, rw', p.ok hr _ r2⟩) hs
        · exact p.elim
      · exact p.elim
    · exact p.elim
  · exact p.elim
variable (O : Ok X t W)
include O
theorem e_idx (hS : g.scr = t.S) (ha : PE X a (tE t W (den g ma))) (hb : PE X b (tE t W (den g mb))) (hs : PlainIx b := by exact fun _ _ => rfl) : PE X (.Subscript a b pos) (tE t W (den g (.idx ma mb))) :=
  PEi (pe_ix (ix_V O.hK hS O.hu) ha hb hs) fun σ H Q q => two O (f := idxV g) (by unfold tE den at q; exact q) fun ρ h H x y u v hr ru rv p => ⟨ρ, h, x, y, hr, ru, rv, p.nox (nox_idx _ _ _ _)⟩
omit O in
theorem sl_V (hK : t.K = X.K) : SlR X (fun x l u H Q => ∃ ρ h a, HR t ρ h H ∧ VR t ρ a x ∧ Post t ρ H (slcV a l u h) (KV1 t Q) E0') := by
  intro pins s σ H x v vl vu lo hi sl Q I rx hs pl pu ⟨ρ, h, a, hr, va, p⟩
  unfold slcV at p
  split at p
  · split at p
    · cases va
      exact sl_str pins s σ H _ v vl vu lo hi sl Q I rx hs pl pu ⟨_, rfl, by assumption, p.ok hr _ rfl⟩
    · exact p.elim
  · split at p
    · rename_i xs hk
      obtain ⟨l, rfl, l1, ys, hl, r1⟩ := hr.ref hk va
      refine sl_list pins s σ H _ v vl vu lo hi sl Q I rx hs pl pu ⟨_, _, rfl, SqL.of hl, fun q hq => ?_⟩
      have rr := pr_take (HT.sIx xs.length xs.length hi - HT.sIx xs.length 0 lo) (pr_drop (HT.sIx xs.length 0 lo) r1)
      have := Post.new hr p hq (or_lst rr) _ (VR.new hr)
      unfold cutV
      rw [← r1.length]
      exact this
    · rename_i xs hk
      obtain ⟨l, rfl, l1, ys, hl, r1⟩ := hr.ref hk va
      refine sl_tupA pins s σ H _ v vl vu lo hi sl Q I rx hs pl pu ⟨_, _, rfl, SqT.of hl, fun hw => ?_, fun hw q hq => ?_⟩
      · rw [← r1.length] at hw
        rw [if_pos hw] at p
        exact p.ok hr _ va
      · rw [← r1.length] at hw
        rw [if_neg hw] at p
        have rr := pr_take (HT.sIx xs.length xs.length hi - HT.sIx xs.length 0 lo) (pr_drop (HT.sIx xs.length 0 lo) r1)
        have := Post.new hr p hq (or_tup rr) _ (VR.new hr)
        unfold cutV
        rw [← r1.length]
        exact this
    · exact p.elim
  · exact p.elim
theorem o_none : PO X none (tO t W (deno g .none)) := POi po_none fun σ H Q ⟨ρ, h, s, hr, sr, p⟩ => Post.ok hr p
theorem o_some (ha : PE X a (tE t W (den g ma))) : PO X (some a) (tO t W (deno g (.some ma))) := by
  refine POi (po_some ha) fun σ H Q ⟨ρ, h, s, hr, sr, p⟩ => ?_
  unfold deno at p
  refine ⟨ρ, h, s, hr, sr, (Post.bind p).imp fun x h1 ρ1 H1 e1 x1 p1 u ru => ?_⟩
  unfold intO at p1
  split at p1
  · cases ru
    exact ⟨_, rfl, p1.ok x1⟩
  · exact p1.elim
theorem e_slc {l u : Option Expr} {ml mu : Exo} {p2 : Pos} (ha : PE X a (tE t W (den g ma))) (hl : PO X l (tO t W (deno g ml))) (hu : PO X u (tO t W (deno g mu))) : PE X (.Subscript a (.Slice l u none p2) pos) (tE t W (den g (.slc ma ml mu))) := by
  refine PEi (pe_slice (sl_V O.hK) ha hl hu) fun σ H Q ⟨ρ, h, s, hr, sr, p⟩ => ?_
  unfold den at p
  exact ⟨ρ, h, s, hr, sr, (Post.bind p).imp fun x h1 ρ1 H1 e1 x1 p1 y ry => ⟨ρ1, h1, s, x1, SR.ext e1 sr, (Post.bind p1).imp fun i h2 ρ2 H2 e2 x2 p2 => ⟨ρ2, h2, s, x2, SR.ext (e1.trans e2) sr, (Post.bind p2).imp fun j h3 ρ3 H3 e3 x3 p3 =>
    ⟨ρ3, h3, x, x3, (ry.ext e2).ext e3, p3.nox (nox_slc _ _ _ _)⟩⟩⟩⟩

omit O in
theorem pr_rev {α β : Type} {F : α → β → Prop} : ∀ {xs : List α} {ys : List β}, Paired F xs ys → Paired F xs.reverse ys.reverse
  | _, _, .nil => .nil
  | _, _, .cons r t => by
    rw [List.reverse_cons, List.reverse_cons]
    exact pr_append (pr_rev t) (.cons r .nil)
theorem e_rev {k : Nat} {p1 p2 p3 : Pos} (ha : PE X a (tE t W (den g ma))) : PE X (.Subscript a (.Slice none none (some (.UnaryOp .USub (.Constant (.int 1) k p1) p2)) p3) pos) (tE t W (den g (.rev ma))) := by
  refine PEi (pe_revL ha) fun σ H Q ⟨ρ, h, s, hr, sr, p⟩ => ?_
  unfold den at p
  refine ⟨ρ, h, s, hr, sr, (Post.bind p).imp fun x h1 ρ1 H1 e1 x1 p1 y ry => ?_⟩
  unfold revV at p1
  split at p1
  · rename_i xs e
    obtain ⟨l, ys, rfl, hl, rr⟩ := lst_of x1 ry e
    exact ⟨l, ys, rfl, .of hl, fun q hq => p1 _ _ (Ext.new x1 hq) (x1.new hq (or_lst (pr_rev rr))) _ (VR.new x1)⟩
  · exact p1.elim

/-! ## built-in functions -/
omit O
def rCl (t : Th) (f : List Val → Heap → Res Val) : List V → Hp → VK → Prop := fun xs H Q => ∃ ρ h vs, HR t ρ h H ∧ VRs t ρ vs xs ∧ Post t ρ H (f vs h) (KV1 t Q) E0'
theorem vrs1 {ρ : List Addr} {v : Val} {ys : List V} (r : VRs t ρ [v] ys) : ∃ y, ys = [y] ∧ VR t ρ v y := by
  cases r with
  | cons r rs => cases rs; exact ⟨_, rfl, r⟩
theorem vrs2 {ρ : List Addr} {v w : Val} {ys : List V} (r : VRs t ρ [v, w] ys) : ∃ y z, ys = [y, z] ∧ VR t ρ v y ∧ VR t ρ w z := by
  cases r with
  | cons r rs =>
    obtain ⟨z, rfl, r2⟩ := vrs1 rs
    exact ⟨_, z, rfl, r, r2⟩
theorem cl_len (hK : t.K = X.K) (hS : g.scr = t.S) : CallR X (.builtin "len") (rCl t (pri g .len)) := by
  intro pins s σ H xs us Q I r ⟨ρ, h, vs, hr, rv, p⟩
  unfold pri at p
  dsimp only at p
  split at p
  · rename_i x
    obtain ⟨y, rfl, ry⟩ := vrs1 rv
    split at p
    · rename_i n e
      unfold lenV at e
      split at e
      · cases e; cases ry
        exact call_len_seq pins s σ H _ us Q I r ⟨_, _, rfl, .inl (hK ▸ hr.sc.sq), by rw [List.length_map, ← hS]; exact p.ok hr _ rfl⟩
      · split at e
        · cases e; cases ry
          exact call_len_str pins s σ H _ us Q I r ⟨_, rfl, by assumption, p.ok hr _ rfl⟩
        · cases e
      · split at e
        · rename_i zs hk
          cases e
          obtain ⟨l, rfl, l1, ys, hl, r1⟩ := hr.ref hk ry
          exact call_len_seq pins s σ H _ us Q I r ⟨_, _, rfl, .inl (SqL.of hl), by rw [← r1.length]; exact p.ok hr _ rfl⟩
        · rename_i zs hk
          cases e
          obtain ⟨l, rfl, l1, ys, hl, r1⟩ := hr.ref hk ry
          exact call_len_seq pins s σ H _ us Q I r ⟨_, _, rfl, .inr (SqT.of hl), by rw [← r1.length]; exact p.ok hr _ rfl⟩
        · rename_i zs hk
          cases e
          obtain ⟨l, rfl, l1, ys, hl, r1⟩ := hr.ref hk ry
          exact call_lenD pins s σ H _ us Q I r ⟨_, _, rfl, hl, by rw [← Paired.length r1]; exact p.ok hr _ rfl⟩
        · cases e
      · cases e
    · exact p.elim
  · exact p.elim
theorem reads_ints {h : PySem.Heap} : ∀ {ns : List Int} {vs : List Value}, Vals (ns.map V.int) vs → ReadsAll h vs (ns.map PyData.int) []
  | [], _, .nil => .nil
  | n :: ns, _, .cons ⟨k, e⟩ r => by subst e; exact .cons (.int n k) (reads_ints r)
theorem alike_ints (ns : List Int) : PySem.W.AlikeAll (ns.map PyData.int) := by
  refine ⟨fun x hx y hy => ?_, fun x hx => ?_⟩
  · obtain ⟨i, _, rfl⟩ := List.mem_map.mp hx
    obtain ⟨j, _, rfl⟩ := List.mem_map.mp hy
    rfl
  · obtain ⟨i, _, rfl⟩ := List.mem_map.mp hx
    exact nofun
theorem depth_ints : ∀ ns : List Int, PyData.depthAll (ns.map PyData.int) ≤ 1
  | [] => Nat.zero_le _
  | n :: ns => Nat.max_le.mpr ⟨by show (0:Nat) ≤ 1; decide, depth_ints ns⟩
theorem min_tup {pins : List (Addr × PySem.Obj)} {s : Shared} {σ : L2.St} {H : Hp} {a : Addr} {ns : List Int} {Q : VK} (hu : X.A.units + 150 < cLine) (hc : X.calm = true) (I : Inv X pins σ H s) (hs : SqT X.K H a (ns.map V.int)) (h0 : 0 < ns.length) (q : Q (.int (minL ns)) H) :
    wpAny (model X.prog X.w) X.A (PySem.call (.builtin "min") [.ref a]) (fun w s' => ∃ y H', Inv X pins σ H' s' ∧ RelV y w ∧ Q y H') X.xe s := by
  obtain ⟨its, rv, hl, _⟩ := I.tuple hs
  match ns, h0 with
  | n :: ns, _ =>
    have hd := depth_ints (n :: ns)
    refine PySem.W.min_tuple_data (I.ok.hd hc) hl (reads_ints (ns := n :: ns) (by simpa using rv)) (alike_ints (n :: ns)) (by show X.A.units + 1 + PyData.depthAll (List.map PyData.int (n :: ns)) < cLine; omega) fun i v h' tk bs _ r hk => ?_
    rw [PySem.W.minD_ints] at r
    cases r with
    | int _ k => exact ⟨.int _, H, I.kept hk, ⟨_, rfl⟩, by rw [show ns.foldl min n = minL (n :: ns) from by simp [minL]]; exact q⟩
theorem max_tup {pins : List (Addr × PySem.Obj)} {s : Shared} {σ : L2.St} {H : Hp} {a : Addr} {ns : List Int} {Q : VK} (hu : X.A.units + 150 < cLine) (hc : X.calm = true) (I : Inv X pins σ H s) (hs : SqT X.K H a (ns.map V.int)) (h0 : 0 < ns.length) (q : Q (.int (maxL ns)) H) :
    wpAny (model X.prog X.w) X.A (PySem.call (.builtin "max") [.ref a]) (fun w s' => ∃ y H', Inv X pins σ H' s' ∧ RelV y w ∧ Q y H') X.xe s := by
  obtain ⟨its, rv, hl, _⟩ := I.tuple hs
  match ns, h0 with
  | n :: ns, _ =>
    have hd := depth_ints (n :: ns)
    refine PySem.W.max_tuple_data (I.ok.hd hc) hl (reads_ints (ns := n :: ns) (by simpa using rv)) (alike_ints (n :: ns)) (by show X.A.units + 1 + PyData.depthAll (List.map PyData.int (n :: ns)) < cLine; omega) fun i v h' tk bs _ r hk => ?_
    rw [PySem.W.maxD_ints] at r
    cases r with
    | int _ k => exact ⟨.int _, H, I.kept hk, ⟨_, rfl⟩, by rw [show ns.foldl max n = maxL (n :: ns) from by simp [maxL]]; exact q⟩
theorem cl_max (hK : t.K = X.K) (hc : X.calm = true) (hu : X.A.units + 150 < cLine) : CallR X (.builtin "max") (rCl t (pri g .max)) := by
  intro pins s σ H xs us Q I r ⟨ρ, h, vs, hr, rv, p⟩
  unfold pri maxV at p
  dsimp only at p
  split at p
  · obtain ⟨y, z, rfl, ry, rz⟩ := vrs2 rv
    cases ry; cases rz
    exact call_max2 hc pins s σ H _ us Q I r ⟨_, _, rfl, p.ok hr _ rfl⟩
  · rename_i x
    obtain ⟨y, rfl, ry⟩ := vrs1 rv
    split at p
    · rename_i ns e
      obtain ⟨ws, e1, e2⟩ := Option.bind_eq_some_iff.mp e
      obtain ⟨l, ys, rfl, hl, r1⟩ := seq_of hr ry e1
      have := ints_vr r1 e2
      subst this
      split at p
      · rcases hl with hl | hl
        · exact cr_max hc pins s σ H _ us Q I r ⟨_, ns, rfl, SqL.of hl, by assumption, fun m h1 h2 => by rw [max_is h1 h2]; exact p.ok hr _ rfl⟩
        · rw [Vals.ref1 r]
          exact max_tup hu hc I (SqT.of hl) (by assumption) (p.ok hr _ rfl)
      · exact p.elim
    · exact p.elim
  · exact p.elim
theorem cl_min (hK : t.K = X.K) (hc : X.calm = true) (hu : X.A.units + 150 < cLine) : CallR X (.builtin "min") (rCl t (pri g .min)) := by
  intro pins s σ H xs us Q I r ⟨ρ, h, vs, hr, rv, p⟩
  unfold pri maxV at p
  dsimp only at p
  split at p
  · obtain ⟨y, z, rfl, ry, rz⟩ := vrs2 rv
    cases ry; cases rz
    exact call_min2 hc pins s σ H _ us Q I r ⟨_, _, rfl, p.ok hr _ rfl⟩
  · rename_i x
    obtain ⟨y, rfl, ry⟩ := vrs1 rv
    split at p
    · rename_i ns e
      obtain ⟨ws, e1, e2⟩ := Option.bind_eq_some_iff.mp e
      obtain ⟨l, ys, rfl, hl, r1⟩ := seq_of hr ry e1
      have := ints_vr r1 e2
      subst this
      split at p
      · rcases hl with hl | hl
        · exact cr_min hc pins s σ H _ us Q I r ⟨_, ns, rfl, SqL.of hl, by assumption, fun m h1 h2 => by rw [min_is h1 h2]; exact p.ok hr _ rfl⟩
        · rw [Vals.ref1 r]
          exact min_tup hu hc I (SqT.of hl) (by assumption) (p.ok hr _ rfl)
      · exact p.elim
    · exact p.elim
  · exact p.elim
theorem sum_tup {pins : List (Addr × Obj)} {s : Shared} {σ : L2.St} {H : Hp} {a : Addr} {ns : List Int} {Q : VK} (hc : X.calm = true) (I : Inv X pins σ H s) (hs : SqT X.K H a (ns.map V.int)) (q : Q (.int ns.sum) H) :
    wpAny (model X.prog X.w) X.A (PySem.call (.builtin "sum") [.ref a]) (fun w s' => ∃ y H', Inv X pins σ H' s' ∧ RelV y w ∧ Q y H') X.xe s := by
  obtain ⟨its, rv, hl, _⟩ := I.tuple hs
  have hi := rv.ints
  obtain ⟨xs, e⟩ := hi.allInts.items
  have hn : numsOf (PySem.intItems xs).toList = ns := by rw [← e]; exact hi.numsOf
  rw [nums_intItems] at hn
  rw [e] at hl
  have hh := I.ok.hd hc
  refine PySem.call_sum_walkG (PySem.W.iter_tupleW (A := X.A.in1) hh (show s.heap.IsTuple a (PySem.intItems xs) from hl) fun s₂ es W st hfp hnew hold => ?_)
  have hlt : a < s.heap.objs.size := by obtain ⟨_, e, _⟩ := hl; exact Heap.lt_size e
  subst es
  refine ⟨_, _, _, _, _, _, numAt xs, rfl, Walks.tuple (A := X.A.in1) hh _ a (Nat.ne_of_lt hlt) (PySem.intItems xs), st, hfp, (fun _ _ => intItems_at), fun h' tk t' hk => ?_⟩
  refine ⟨.int ns.sum, H, I.kept (t' := tk) fun b o eb => hk b o (hnew b o eb) (hold b o eb), ⟨t', ?_⟩, q⟩
  rw [preSum_eq, List.take_of_length_le (by simp [PySem.intItems]), hn]
theorem cl_sum (hK : t.K = X.K) (hc : X.calm = true) : CallR X (.builtin "sum") (rCl t (pri g .sum)) := by
  intro pins s σ H xs us Q I r ⟨ρ, h, vs, hr, rv, p⟩
  unfold pri at p
  dsimp only at p
  split at p
  · rename_i x
    obtain ⟨y, rfl, ry⟩ := vrs1 rv
    split at p
    · rename_i ns e
      obtain ⟨ws, e1, e2⟩ := Option.bind_eq_some_iff.mp e
      obtain ⟨l, ys, rfl, hl, r1⟩ := seq_of hr ry e1
      have := ints_vr r1 e2
      subst this
      rcases hl with hl | hl
      · exact cr_sum hc pins s σ H _ us Q I r ⟨_, ns, rfl, SqL.of hl, p.ok hr _ rfl⟩
      · rw [Vals.ref1 r]
        exact sum_tup hc I (SqT.of hl) (p.ok hr _ rfl)
    · exact p.elim
  · exact p.elim
theorem cl_all (hK : t.K = X.K) (hc : X.calm = true) : CallR X (.builtin "all") (rCl t (pri g .all)) := by
  intro pins s σ H xs us Q I r ⟨ρ, h, vs, hr, rv, p⟩
  unfold pri at p
  dsimp only at p
  split at p
  · rename_i x
    obtain ⟨y, rfl, ry⟩ := vrs1 rv
    split at p
    · rename_i ns e
      obtain ⟨ws, e1, e2⟩ := Option.bind_eq_some_iff.mp e
      obtain ⟨l, ys, rfl, hl, r1⟩ := lst_of hr ry e1
      have := bls_vr r1 e2
      subst this
      exact cr_all hc pins s σ H _ us Q I r ⟨_, ns, rfl, SqL.of hl, p.ok hr _ rfl⟩
    · exact p.elim
  · exact p.elim
theorem cl_any (hK : t.K = X.K) (hc : X.calm = true) : CallR X (.builtin "any") (rCl t (pri g .any)) := by
  intro pins s σ H xs us Q I r ⟨ρ, h, vs, hr, rv, p⟩
  unfold pri at p
  dsimp only at p
  split at p
  · rename_i x
    obtain ⟨y, rfl, ry⟩ := vrs1 rv
    split at p
    · rename_i ns e
      obtain ⟨ws, e1, e2⟩ := Option.bind_eq_some_iff.mp e
      obtain ⟨l, ys, rfl, hl, r1⟩ := lst_of hr ry e1
      have := bls_vr r1 e2
      subst this
      exact cr_any hc pins s σ H _ us Q I r ⟨_, ns, rfl, SqL.of hl, p.ok hr _ rfl⟩
    · exact p.elim
  · exact p.elim
theorem cl_int : CallR X (.type "int") (rCl t (pri g .int)) := by
  intro pins s σ H xs us Q I r ⟨ρ, h, vs, hr, rv, p⟩
  unfold pri at p
  dsimp only at p
  split at p
  · obtain ⟨y, rfl, ry⟩ := vrs1 rv
    cases ry
    exact call_int1 pins s σ H _ us Q I r (.inl ⟨_, rfl, p.ok hr _ rfl⟩)
  · obtain ⟨y, rfl, ry⟩ := vrs1 rv
    cases ry
    exact call_int1 pins s σ H _ us Q I r (.inr ⟨_, rfl, p.ok hr _ rfl⟩)
  · obtain ⟨y, rfl, ry⟩ := vrs1 rv
    cases ry
    split at p
    · rename_i n e
      split at p
      · exact call_int_str pins s σ H _ us Q I r ⟨_, _, rfl, e, by assumption, p.ok hr _ rfl⟩
      · exact p.elim
    · exact p.elim
  · exact p.elim
theorem call_strS : CallR X (.type "str") (fun xs H Q => ∃ a, xs = [.str a] ∧ Q (.str a) H) := by
  intro pins s σ H xs us Q I r ⟨a, ex, q⟩
  subst ex
  cases r with
  | cons r1 rs =>
    cases rs
    obtain ⟨t, rfl⟩ := r1
    exact PySem.P.str_of_str ⟨.str a, H, I, ⟨t, rfl⟩, q⟩
theorem cl_str : CallR X (.type "str") (rCl t (pri g .str)) := by
  intro pins s σ H xs us Q I r ⟨ρ, h, vs, hr, rv, p⟩
  unfold pri at p
  dsimp only at p
  split at p
  · obtain ⟨y, rfl, ry⟩ := vrs1 rv
    cases ry
    split at p
    · exact call_str_int pins s σ H _ us Q I r ⟨_, rfl, by assumption, p.ok hr _ rfl⟩
    · exact p.elim
  · obtain ⟨y, rfl, ry⟩ := vrs1 rv
    cases ry
    exact call_strS pins s σ H _ us Q I r ⟨_, rfl, p.ok hr _ rfl⟩
  · exact p.elim
theorem cl_bool : CallR X (.type "bool") (rCl t (pri g .bool)) := by
  intro pins s σ H xs us Q I r ⟨ρ, h, vs, hr, rv, p⟩
  unfold pri at p
  dsimp only at p
  split at p
  · obtain ⟨y, rfl, ry⟩ := vrs1 rv
    cases ry
    exact call_bool1 pins s σ H _ us Q I r (.inl ⟨_, rfl, p.ok hr _ rfl⟩)
  · obtain ⟨y, rfl, ry⟩ := vrs1 rv
    cases ry
    exact call_bool1 pins s σ H _ us Q I r (.inr ⟨_, rfl, p.ok hr _ rfl⟩)
  · exact p.elim
theorem cl_list (hK : t.K = X.K) : CallR X (.type "list") (rCl t (pri g .list)) := by
  intro pins s σ H xs us Q I r ⟨ρ, h, vs, hr, rv, p⟩
  unfold pri at p
  dsimp only at p
  split at p
  · rename_i x
    obtain ⟨y, rfl, ry⟩ := vrs1 rv
    split at p
    · rename_i ws e
      obtain ⟨l, ys, rfl, hl, r1⟩ := seq_of hr ry e
      exact call_list_of pins s σ H _ us Q I r ⟨l, ys, rfl, hl.imp SqL.of SqT.of, fun q hq => Post.new hr p hq (or_lst r1) _ (VR.new hr)⟩
    · exact p.elim
  · exact p.elim
theorem cl_tuple (hK : t.K = X.K) : CallR X (.type "tuple") (rCl t (pri g .tuple)) := by
  intro pins s σ H xs us Q I r ⟨ρ, h, vs, hr, rv, p⟩
  unfold pri at p
  dsimp only at p
  split at p
  · rename_i x
    obtain ⟨y, rfl, ry⟩ := vrs1 rv
    split at p
    · split at p
      · rename_i zs hk
        obtain ⟨l, rfl, l1, ys, hl, r1⟩ := hr.ref hk ry
        exact call_tuple_of pins s σ H _ us Q I r ⟨l, ys, rfl, .inl ⟨SqL.of hl, fun q hq => Post.new hr p hq (or_tup r1) _ (VR.new hr)⟩⟩
      · rename_i zs hk
        obtain ⟨l, rfl, l1, ys, hl, r1⟩ := hr.ref hk ry
        exact call_tuple_of pins s σ H _ us Q I r ⟨l, ys, rfl, .inr ⟨SqT.of hl, p.ok hr _ ry⟩⟩
      · exact p.elim
    · exact p.elim
  · exact p.elim
theorem kitB_is {a b : String} (ha : a = "NoneType" ∨ a = "bool" ∨ a = "int" ∨ a = "str" ∨ a = "list" ∨ a = "tuple" ∨ a = "dict") (hb : okTy b = true) : kitB a b = some (isTy a b) := by
  have hb : b = "int" ∨ b = "bool" ∨ b = "str" ∨ b = "list" ∨ b = "tuple" ∨ b = "dict" := by
    unfold okTy at hb
    simpa only [Bool.or_eq_true, beq_iff_eq, or_assoc] using hb
  rcases ha with rfl | rfl | rfl | rfl | rfl | rfl | rfl <;> rcases hb with rfl | rfl | rfl | rfl | rfl | rfl <;> decide +kernel
theorem ty_of {ρ : List Addr} {h : Heap} {H : Hp} {v : Val} {y : V} {s : String} (x : HR t ρ h H) (r : VR t ρ v y) (e : tyO h v = some s) : TyX t.K H y (.type s) ∧ (s = "NoneType" ∨ s = "bool" ∨ s = "int" ∨ s = "str" ∨ s = "list" ∨ s = "tuple" ∨ s = "dict") := by
  unfold tyO at e
  split at e
  · cases e; cases r; exact ⟨.base .non, by simp⟩
  · cases e; cases r; exact ⟨.base (.bl _), by simp⟩
  · cases e; cases r; exact ⟨.base (.int _), by simp⟩
  · cases e; cases r; exact ⟨.base (.str _), by simp⟩
  · split at e
    · rename_i zs hk
      obtain ⟨l, rfl, l1, ys, hl, r1⟩ := x.ref hk r
      cases e; exact ⟨.base (.lst hl), by simp⟩
    · rename_i zs hk
      obtain ⟨l, rfl, l1, ys, hl, r1⟩ := x.ref hk r
      cases e; exact ⟨.base (.tup hl), by simp⟩
    · rename_i zs hk
      obtain ⟨l, rfl, l1, ys, hl, r1⟩ := x.ref hk r
      cases e; exact ⟨.base (.dK hl), by simp⟩
    · cases e
  · cases e
theorem tys_of {K : PySem.W.Frag} {ρ : List Addr} {s : String} (hs : s = "NoneType" ∨ s = "bool" ∨ s = "int" ∨ s = "str" ∨ s = "list" ∨ s = "tuple" ∨ s = "dict") : ∀ {ts : List Val} {ys : List V} {us : List String}, VRs t ρ ts ys → tysO ts = some us →
    Paired ClsV ys (us.map Value.type) ∧ PySem.W.kitAny K (.type s) (us.map Value.type) = some (us.any (isTy s))
  | _, _, _, .nil, e => by cases e; exact ⟨.nil, rfl⟩
  | x :: xs, y :: ys, us, .cons r rs, e => by
    cases x with
    | ty i =>
      unfold tysO at e
      split at e
      · rename_i hi
        obtain ⟨vs, e1, rfl⟩ := Option.map_eq_some_iff.mp e
        obtain ⟨h1, h2⟩ := tys_of (K := K) hs rs e1
        cases r
        refine ⟨.cons (.ty i) h1, ?_⟩
        rw [List.map_cons]
        refine kitAny_cons (kit_ty (kitB_is hs hi)) (fun hb => ?_) fun hb => ?_
        · rw [List.any_cons, hb]; simpa using h2
        · rw [List.any_cons, hb]; rfl
      · cases e
    | _ => simp [tysO] at e
theorem cl_isinst (hK : t.K = X.K) : CallR X (.builtin "isinstance") (rCl t (pri g .isinst)) := by
  intro pins s σ H xs us Q I r ⟨ρ, h, vs, hr, rv, p⟩
  unfold pri at p
  dsimp only at p
  split at p
  · obtain ⟨y, z, rfl, ry, rz⟩ := vrs2 rv
    cases rz
    split at p
    · rename_i ss e
      split at p
      · rename_i ho
        obtain ⟨h1, h2⟩ := ty_of hr ry e
        exact call_isi pins s σ H _ us Q I r ⟨_, _, _, _, _, rfl, .ty _, hK ▸ h1, kit_ty (kitB_is h2 ho), p.ok hr _ rfl⟩
      · exact p.elim
    · exact p.elim
  · obtain ⟨y, z, rfl, ry, rz⟩ := vrs2 rv
    split at p
    · rename_i ss ts e hk
      split at p
      · rename_i ws ew
        obtain ⟨l, rfl, l1, ys, hl, r1⟩ := hr.ref hk rz
        obtain ⟨h1, h2⟩ := ty_of hr ry e
        obtain ⟨h3, h4⟩ := tys_of (K := X.K) h2 r1 ew
        exact call_isiT pins s σ H _ us Q I r ⟨_, _, _, _, _, _, rfl, hl, h3, hK ▸ h1, h4, p.ok hr _ rfl⟩
      · exact p.elim
    · exact p.elim
  · exact p.elim
theorem shown_str {x : Str} : PyData.shown (.str x) = reprText x := by simp [PyData.shown]
theorem key_reads {k : Key} {v : Value} {h : PySem.Heap} (hk : keyIs k v = true) : Reads h v (keyD k) [] := by
  rcases keyIs_shape hk with ⟨i, tk, rfl, rfl⟩ | ⟨x, tk, rfl, rfl⟩
  · exact .int i tk
  · exact .str x tk
/-- the data that a value is, read in the heap; dicts too -/
theorem rd_reads {pins : List (Addr × PySem.Obj)} {σ : L2.St} {H : Hp} {s : Shared} {ρ : List Addr} {h : Heap} (I : Inv X pins σ H s) (hr : HR t ρ h H) (hsm : H sysModules = none) :
    ∀ (n : Nat) (v : Val) (y : V) (d : PyData) (u : Value), rd n h v = some d → VR t ρ v y → RelV y u → ∃ as, Reads s.heap u d as ∧ sysModules ∉ as
  | n, .non, y, d, u, e, r, ru => by cases n <;> (cases e; cases r; cases ru; exact ⟨_, .none, by simp⟩)
  | n, .bl b, y, d, u, e, r, ru => by cases n <;> (cases e; cases r; cases ru; exact ⟨_, .bool _, by simp⟩)
  | n, .int i, y, d, u, e, r, ru => by cases n <;> (cases e; cases r; obtain ⟨tk, rfl⟩ := ru; exact ⟨_, .int _ _, by simp⟩)
  | n, .str z, y, d, u, e, r, ru => by cases n <;> (cases e; cases r; obtain ⟨tk, rfl⟩ := ru; exact ⟨_, .str _ _, by simp⟩)
  | 0, .ref k, y, d, u, e, _, _ => by cases e
  | n + 1, .ref k, y, d, u, e, r, ru => by
    have all : ∀ {xs : List Val} {ys : List V} {us : List Value} {ds : List PyData}, mapO (rd n h) xs = some ds → VRs t ρ xs ys → Vals ys us → ∃ as, ReadsAll s.heap us ds as ∧ sysModules ∉ as := by
      intro xs
      induction xs with
      | nil =>
        intro ys us ds e r ru
        cases e; cases r; cases ru
        exact ⟨_, .nil, by simp⟩
      | cons x xs ih =>
        intro ys us ds e r ru
        obtain ⟨z, zs, e1, e2, rfl⟩ := mapO_cons e
        cases r with
        | cons r rs =>
          cases ru with
          | cons q qs =>
            obtain ⟨as, h1, h2⟩ := rd_reads I hr hsm n _ _ _ _ e1 r q
            obtain ⟨bs, h3, h4⟩ := ih e2 rs qs
            exact ⟨_, .cons h1 h3, by simp [h2, h4]⟩
    have kvs : ∀ {xs : List (Key × Val)} {ys : List (Key × V)} {vs : List (Key × Value)} {es : List DictEntry} {ds : List (PyData × PyData)}, mapO (fun p : Key × Val => (rd n h p.2).map fun d => (keyD p.1, d)) xs = some ds → KRs t ρ xs ys → KV ys vs → Pairs (mixKind X.prog X.w) es vs →
        (∃ as, ReadsAll s.heap (es.map (·.key)) (ds.map (·.1)) as ∧ sysModules ∉ as) ∧ ∃ as, ReadsAll s.heap (es.map (·.val)) (ds.map (·.2)) as ∧ sysModules ∉ as := by
      intro xs
      induction xs with
      | nil =>
        intro ys vs es ds e r q ps
        cases e; cases r; cases q; cases ps
        exact ⟨⟨_, .nil, by simp⟩, _, .nil, by simp⟩
      | cons x xs ih =>
        intro ys vs es ds e r q ps
        obtain ⟨z, zs, e1, e2, rfl⟩ := mapO_cons e
        obtain ⟨d1, e3, rfl⟩ := Option.map_eq_some_iff.mp e1
        cases r with
        | cons r rs =>
          cases q with
          | cons q qs =>
            cases ps with
            | cons p1 p2 ps =>
              obtain ⟨⟨as, h1, h2⟩, bs, h3, h4⟩ := ih e2 rs qs ps
              obtain ⟨cs, h5, h6⟩ := rd_reads I hr hsm n _ _ _ _ e3 r.2 q.2
              have kk := key_reads (h := s.heap) (show keyIs _ _ = true from p1)
              rw [← q.1, ← r.1] at kk
              rw [← p2] at h5
              exact ⟨⟨_, .cons kk h1, by simpa using h2⟩, _, .cons h5 h3, by simp [h6, h4]⟩
    have ne : ∀ {a : Addr} {o : HO}, H a = some o → sysModules ≠ a := fun {a o} z q => by
      rw [← q, hsm] at z
      cases z
    unfold rd at e
    split at e
    · rename_i xs hk
      obtain ⟨ds, e1, rfl⟩ := Option.map_eq_some_iff.mp e
      obtain ⟨a, rfl, _, ys, hy, rr⟩ := hr.ref hk r
      cases ru
      obtain ⟨its, rv, ⟨o, m, ho, hc, _, hd⟩, _⟩ := I.list (.of hy)
      obtain ⟨as, h1, h2⟩ := all e1 rr rv
      exact ⟨_, .list ho hc hd h1, by simp [h2, ne hy]⟩
    · rename_i xs hk
      obtain ⟨ds, e1, rfl⟩ := Option.map_eq_some_iff.mp e
      obtain ⟨a, rfl, _, ys, hy, rr⟩ := hr.ref hk r
      cases ru
      obtain ⟨its, rv, ⟨o, ho, hc, m, hd⟩, _⟩ := I.tuple (.of hy)
      obtain ⟨as, h1, h2⟩ := all e1 rr rv
      exact ⟨_, .tuple ho hc hd h1, h2⟩
    · rename_i xs hk
      obtain ⟨ds, e1, rfl⟩ := Option.map_eq_some_iff.mp e
      obtain ⟨a, rfl, _, ys, hy, rr⟩ := hr.ref hk r
      cases ru
      obtain ⟨_, _, vs, kv, o, es, ep, ho, hx, hd, _, ps, _⟩ := dk_of I.hok hy
      obtain ⟨⟨as, h1, h2⟩, bs, h3, h4⟩ := kvs e1 rr kv ps
      exact ⟨_, .dict ho hx.1 hd h1 h3, by simp [h2, h4, ne hy]⟩
    · cases e
  | n, .ty s, y, d, _, e, r, _ => by cases n <;> cases e
  | n, .glo s, y, d, _, e, r, _ => by cases n <;> cases e
  | n, .scr, y, d, _, e, r, _ => by cases n <;> cases e
/-- repr of data -/
theorem cl_repr (hK : t.K = X.K) (hu : X.A.units + 150 < cLine) (hg : X.A.guards = some []) (sm : ∃ mm, X.base.Ns sysModules mm) : CallR X (.builtin "repr") (rCl t (pri g .repr)) := by
  intro pins s σ H xs us Q I r ⟨ρ, h, vs, hr, rv, p⟩
  obtain ⟨mm, om, _, _, hom, _⟩ := sm
  have hsm := (I.bs _ _ hom).2
  unfold pri at p
  dsimp only at p
  split at p
  · rename_i x
    obtain ⟨y, rfl, ry⟩ := vrs1 rv
    split at p
    · rename_i d e
      split at p
      · rename_i hc
        obtain ⟨h2, h3, h4⟩ := hc
        have q := p.ok hr _ (show VR t ρ (.str d.shown) (.str d.shown) from rfl)
        cases r with
        | @cons _ u0 _ _ r1 rs =>
          cases rs
          obtain ⟨as, rr, hno⟩ := rd_reads I hr hsm _ _ _ _ _ e ry r1
          cases x with
          | non =>
            cases e; cases ry; cases r1
            simp only [PyData.shown] at q
            exact PySem.P.repr_of_none ⟨.str _, H, I.tok _, ⟨_, rfl⟩, q⟩
          | bl b =>
            cases e; cases ry; cases r1
            simp only [PyData.shown] at q
            exact PySem.P.repr_of_bool ⟨.str _, H, I.tok _, ⟨_, rfl⟩, q⟩
          | int i =>
            cases e; cases ry
            obtain ⟨tk, rfl⟩ := r1
            simp only [PyData.shown] at q
            exact PySem.P.repr_of_int (by simpa [PyData.showable] using h2) ⟨.str _, H, I.tok _, ⟨_, rfl⟩, q⟩
          | str z =>
            cases e; cases ry
            obtain ⟨tk, rfl⟩ := r1
            simp only [PyData.shown] at q h4
            exact PySem.P.repr_of_str ⟨.str _, H, I.tok _, ⟨_, rfl⟩, q⟩ h4
          | ref k =>
            obtain ⟨a, _, rfl⟩ := ry
            cases r1
            exact PySem.repr_of_reads' rr h2 (fun _ => hno) hg (by omega) (fun _ _ z => z) (fun h' u tk hk => ⟨.str _, H, I.kept hk, ⟨_, rfl⟩, q⟩) h4
          | ty _ => cases e
          | glo _ => cases e
          | scr => cases e
      · exact p.elim
    · exact p.elim
  · exact p.elim
theorem e_pri {p : Pr} {x : Str} {id : String} {q : Pos} (O : Ok X t W) (hc : CallR X (.builtin id) (rCl t (pri g p))) (hv : bootBuiltins x = some (.builtin id)) (hm : X.mg x = none) (ha : PA X (e :: es) (tA t W (dens g ms))) (hg : Gl X x := by rfl)
    (hn : x ≠ "__name__" := by decide) (hdb : (x == ("__debug__" : Str)) = false := by decide) (he : starEach (e :: es) X.env = (false, eval e X.env) :: starEach es X.env := by rfl) (hpl : (backTo pos (starEach es X.env)).any (·.1) = false := by rfl) :
    PE X (.Call (.Name x q) (e :: es) [] pos) (tE t W (den g (.pri p ms))) := by
  refine PEi (pe_callB hc hg hm hv ha hn hdb he hpl) fun σ H Q ⟨ρ, h, s, hr, sr, p⟩ => ?_
  unfold den at p
  exact ⟨ρ, h, s, hr, sr, (Post.bind p).imp fun x h1 ρ1 H1 e1 x1 p1 u ru => ⟨ρ1, h1, x, x1, ru, p1.nox (nox_pri _ _ _ _)⟩⟩
theorem e_prt {p : Pr} {x : Str} {id : String} {q : Pos} (O : Ok X t W) (hc : CallR X (.type id) (rCl t (pri g p))) (hv : bootBuiltins x = some (.type id)) (hm : X.mg x = none) (ha : PA X (e :: es) (tA t W (dens g ms))) (hg : Gl X x := by rfl)
    (hn : x ≠ "__name__" := by decide) (hdb : (x == ("__debug__" : Str)) = false := by decide) (he : starEach (e :: es) X.env = (false, eval e X.env) :: starEach es X.env := by rfl) (hpl : (backTo pos (starEach es X.env)).any (·.1) = false := by rfl) :
    PE X (.Call (.Name x q) (e :: es) [] pos) (tE t W (den g (.pri p ms))) := by
  refine PEi (pe_callTy hc hg hm hv ha hn hdb he hpl) fun σ H Q ⟨ρ, h, s, hr, sr, p⟩ => ?_
  unfold den at p
  exact ⟨ρ, h, s, hr, sr, (Post.bind p).imp fun x h1 ρ1 H1 e1 x1 p1 u ru => ⟨ρ1, h1, x, x1, ru, p1.nox (nox_pri _ _ _ _)⟩⟩
end
end Mi


/-! # Mi5Z: zip of two things of any kind, at the library's level -/
namespace Mi
open PySem PySem.Spec PyProof.Rows L2
/-- a list's or a tuple's walker; the thing itself -/
def AIt (t : Bool) (h : PySem.Heap) (i l : Addr) (k : Nat) : Prop := if t then h.IsTupleIter i l k else h.IsListIter i l k
def ASq (t : Bool) (h : PySem.Heap) (l : Addr) (xs : Array Value) : Prop := if t then h.IsTuple l xs else h.IsList l xs
section
variable {t : Bool} {h h' : PySem.Heap} {i l : Addr} {k : Nat} {xs : Array Value}
theorem AIt.ext {c : Addr} (x : AIt t h i l k) (s : PySem.Heap.ExtBut c h h') (n : i ≠ c) : AIt t h' i l k := by
  cases t
  · exact PySem.Heap.IsListIter.extBut x s n
  · exact PySem.Heap.IsTupleIter.extBut x s n
theorem ASq.ext {c : Addr} (x : ASq t h l xs) (s : PySem.Heap.ExtBut c h h') (n : l ≠ c) : ASq t h' l xs := by
  cases t
  · exact PySem.Heap.IsList.extBut x s n
  · exact PySem.Heap.IsTuple.extBut x s n
theorem AIt.obj (x : AIt t h i l k) : ∃ o, h.get? i = some o := by
  cases t
  · obtain ⟨o, e, _⟩ := x; exact ⟨o, e⟩
  · obtain ⟨o, e, _⟩ := x; exact ⟨o, e⟩
theorem AIt.to (x : AIt t h i l k) (f : ∀ o, h.get? i = some o → h'.get? i = some o) : AIt t h' i l k := by
  cases t
  · exact PySem.Heap.IsListIter.at x f
  · exact PySem.Heap.IsTupleIter.at x f
end
section
variable {prog : Program} {w : World} {A : Around} {E : Value → Shared → Prop} {s : Shared}
theorem next_any {t : Bool} {it l : Addr} {i : Nat} {items : Array Value} {x : Value} {Q : Value → Shared → Prop} (hit : AIt t s.heap it l i) (hl : ASq t s.heap l items) (hx : items[i]? = some x)
    (hQ : ∀ h', AIt t h' it l (i + 1) → PySem.Heap.SameBut it s.heap h' → Q x { s with heap := h' }) : wpAny (model prog w) A (Builtin.SmallTypes.nextOf (.ref it)) Q E s := by
  cases t
  · exact wpAny_nextOf_list_item hit hl hx hQ
  · exact RZ.nextOf_tuple_item hit hl hx hQ
theorem next_none {t : Bool} {it l : Addr} {i : Nat} {items : Array Value} {Q : Value → Shared → Prop} (hh : A.handled = none) (hit : AIt t s.heap it l i) (hl : ASq t s.heap l items) (hx : items[i]? = none)
    (hE : ∀ h' e, PySem.Heap.ExtBut it s.heap h' → (∃ o, h'.get? e = some o ∧ o.cls = .type "StopIteration") → E (.ref e) { s with heap := h' }) : wpAny (model prog w) A (Builtin.SmallTypes.nextOf (.ref it)) Q E s := by
  cases t
  · exact wpAny_nextOf_list_end hh hit hl hx hE
  · exact RZ.nextOf_tuple_end hh hit hl hx hE
theorem zipA_item {t u : Bool} {z TI TO i1 i2 l1 l2 : Addr} {k1 k2 : Nat} {xs ys : Array Value} {x y a b : Value} {Q : Value → Shared → Prop} (D : ZipApart z TI TO i1 i2 l1 l2) (hz : IsZip s.heap z TI TO .none) (hTI : IsPair s.heap TI (.ref i1) (.ref i2)) (hTO : IsPair s.heap TO a b)
    (h1 : AIt t s.heap i1 l1 k1) (h2 : AIt u s.heap i2 l2 k2) (q1 : ASq t s.heap l1 xs) (q2 : ASq u s.heap l2 ys) (hx : xs[k1]? = some x) (hy : ys[k2]? = some y)
    (hQ : ∀ h', IsZip h' z TI TO (rawInt s.heap.objs.size) → IsPair h' TO x y → AIt t h' i1 l1 (k1 + 1) → AIt u h' i2 l2 (k2 + 1) → IsPair h' s.heap.objs.size x y → h'.objs.size = s.heap.objs.size + 1 →
      (∀ c o, c ≠ z → c ≠ TO → c ≠ i1 → c ≠ i2 → s.heap.get? c = some o → h'.get? c = some o) → Q (.ref s.heap.objs.size) { s with heap := h' }) :
    wpAny (model prog w) A (Builtin.«zip.__next__» ⟨[.ref z], []⟩) (fun fin s' => ∃ v, fin = .done (.ret v) ∧ Q v s') E s := by
  show wpAny (model prog w) A (field (.ref z) 2 >>= _) _ E s
  refine wpAny_bind (wpAny_field hz rfl (x := .bool false) rfl ?_)
  show wpAny (model prog w) A (field (.ref z) 3 >>= _) _ E s
  refine wpAny_bind (wpAny_field hz rfl (x := .ref TI) rfl (wpAny_bind (wpAny_seqItems hTI rfl ?_)))
  show wpAny (model prog w) A (Builtin.SmallTypes.ownedTupleIsFree (.ref z) >>= _) _ E s
  (refine wpAny_bind ?_; unfold Builtin.SmallTypes.ownedTupleIsFree; refine wpAny_bind (wpAny_field hz rfl (x := .none) rfl (wpAny_pure ?_)))
  simp only [if_true]
  refine wpAny_bind (wpAny_rule (wpAny_bind (wpAny_field hz rfl (x := .ref TO) rfl (wpAny_bind (wpAny_setField_rec hz (by simp) fun g1 hz1 s1 => ?_)))))
  have hz1 : IsZip g1 z TI TO .ellipsis := hz1
  have r1 := s1.extBut
  refine wpAny_bind ?_
  simp only [List.zipIdx_cons, List.zipIdx_nil, List.forIn_cons, List.forIn_nil]
  refine wpAny_bind (wpAny_bind (wpAny_onRaise ?_))
  show wpAny (model prog w) _ (Builtin.SmallTypes.nextOf (.ref i1) >>= _) _ _ _
  refine wpAny_bind (next_any (h1.ext r1 D.i1z) (q1.ext r1 D.l1z) hx fun g2 w2 s2 => wpAny_pure ?_)
  have r2 := s2.extBut
  have p2 : IsPair g2 TO a b := r2 _ _ D.TOi1 (r1 _ _ D.TOz hTO)
  refine wpAny_bind (wpAny_seqItems p2 rfl (wpAny_bind (wpAny_updateSeq_pair p2 fun g3 p3 s3 => ?_)))
  have p3 : IsPair g3 TO x b := p3
  have r3 := s3.extBut
  refine wpAny_bind (wpAny_letGo (wpAny_pure (wpAny_bind (wpAny_bind (wpAny_onRaise ?_)))))
  show wpAny (model prog w) _ (Builtin.SmallTypes.nextOf (.ref i2) >>= _) _ _ _
  refine wpAny_bind (next_any (((h2.ext r1 D.i2z).ext r2 D.i12.symm).ext r3 D.TOi2.symm) (((q2.ext r1 D.l2z).ext r2 D.l2i1).ext r3 D.l2TO) hy fun g4 w4 s4 => wpAny_pure ?_)
  have r4 := s4.extBut
  have p4 : IsPair g4 TO x b := r4 _ _ D.TOi2 p3
  refine wpAny_bind (wpAny_seqItems p4 rfl (wpAny_bind (wpAny_updateSeq_pair p4 fun g5 p5 s5 => ?_)))
  have p5 : IsPair g5 TO x y := p5
  have r5 := s5.extBut
  refine wpAny_bind (wpAny_letGo (wpAny_pure (wpAny_pure (wpAny_bind (wpAny_seqItems p5 rfl (wpAny_bind (wpAny_newTuple ?_)))))))
  have e5 : g5.objs.size = s.heap.objs.size := by rw [s5.1, s4.1, s3.1, s2.1, s1.1]
  have hz5 : IsZip g5 z TI TO .ellipsis := r5 _ _ D.TOz.symm (r4 _ _ D.i2z.symm (r3 _ _ D.TOz.symm (r2 _ _ D.i1z.symm hz1)))
  have k5 : ∀ c o, c ≠ z → c ≠ TO → c ≠ i1 → c ≠ i2 → s.heap.get? c = some o → g5.get? c = some o := fun c o c1 c2 c3 c4 e => r5 _ _ c2 (r4 _ _ c4 (r3 _ _ c2 (r2 _ _ c3 (r1 _ _ c1 e))))
  have v1 : AIt t g5 i1 l1 (k1 + 1) := ((w2.ext r3 D.TOi1.symm).ext r4 D.i12).ext r5 D.TOi1.symm
  have v2 : AIt u g5 i2 l2 (k2 + 1) := w4.ext r5 D.TOi2.symm
  have zlt : z < g5.objs.size := PySem.Heap.lt_size hz5
  show wpAny (model prog w) _ (Builtin.SmallTypes.ownedTupleHandOut (.ref z) (.ref g5.objs.size) >>= _) _ _ _
  (refine wpAny_bind ?_; unfold Builtin.SmallTypes.ownedTupleHandOut)
  have hz6 : IsZip (g5.push { cls := .type "tuple", data := .seq #[x, y] }) z TI TO .ellipsis := PySem.Heap.get?_push_of_some _ hz5
  refine wpAny_bind (wpAny_setField_rec hz6 (by simp) fun g7 hz7 s7 => ?_)
  have hz7 : IsZip g7 z TI TO (rawInt g5.objs.size) := hz7
  refine wpAny_setField_rec hz7 (by simp) fun g8 hz8 s8 => ?_
  have hz8 : IsZip g8 z TI TO (rawInt g5.objs.size) := hz8
  have up : ∀ c o, c ≠ z → g5.get? c = some o → g8.get? c = some o := fun c o c1 e => s8.extBut _ _ c1 (s7.extBut _ _ c1 (PySem.Heap.get?_push_of_some _ e))
  have nz : g5.objs.size ≠ z := Nat.ne_of_gt zlt
  have pT : IsPair g8 g5.objs.size x y := s8.extBut _ _ nz (s7.extBut _ _ nz (PySem.Heap.get?_push_size _ rfl))
  have e8 : g8.objs.size = g5.objs.size + 1 := by rw [s8.1, s7.1, PySem.Heap.size_push]
  rw [e5] at hz8 pT e8
  refine wpAny_pure ⟨_, rfl, ?_⟩
  show Q (.ref g5.objs.size) _
  rw [e5]
  exact hQ g8 hz8 (up _ _ D.TOz p5) (v1.to fun o e => up _ o D.i1z e) (v2.to fun o e => up _ o D.i2z e) pT e8 fun c o c1 c2 c3 c4 e => up c o c1 (k5 c o c1 c2 c3 c4 e)
theorem zipA_end {t u : Bool} {z TI TO i1 i2 l1 l2 : Addr} {k1 k2 : Nat} {xs ys : Array Value} {a b : Value} {Q : Fin → Shared → Prop} (hh : A.handled = none) (D : ZipApart z TI TO i1 i2 l1 l2) (hz : IsZip s.heap z TI TO .none) (hTI : IsPair s.heap TI (.ref i1) (.ref i2)) (hTO : IsPair s.heap TO a b)
    (h1 : AIt t s.heap i1 l1 k1) (h2 : AIt u s.heap i2 l2 k2) (q1 : ASq t s.heap l1 xs) (q2 : ASq u s.heap l2 ys) (hend : xs[k1]? = none ∨ ys[k2]? = none)
    (hE : ∀ h' e, (∀ c o, c ≠ z → c ≠ TO → c ≠ i1 → c ≠ i2 → s.heap.get? c = some o → h'.get? c = some o) → (∃ o, h'.get? e = some o ∧ o.cls = .type "StopIteration") → E (.ref e) { s with heap := h' }) :
    wpAny (model prog w) A (Builtin.«zip.__next__» ⟨[.ref z], []⟩) Q E s := by
  show wpAny (model prog w) A (field (.ref z) 2 >>= _) _ E s
  refine wpAny_bind (wpAny_field hz rfl (x := .bool false) rfl ?_)
  show wpAny (model prog w) A (field (.ref z) 3 >>= _) _ E s
  refine wpAny_bind (wpAny_field hz rfl (x := .ref TI) rfl (wpAny_bind (wpAny_seqItems hTI rfl ?_)))
  show wpAny (model prog w) A (Builtin.SmallTypes.ownedTupleIsFree (.ref z) >>= _) _ E s
  (refine wpAny_bind ?_; unfold Builtin.SmallTypes.ownedTupleIsFree; refine wpAny_bind (wpAny_field hz rfl (x := .none) rfl (wpAny_pure ?_)))
  simp only [if_true]
  refine wpAny_bind (wpAny_rule (wpAny_bind (wpAny_field hz rfl (x := .ref TO) rfl (wpAny_bind (wpAny_setField_rec hz (by simp) fun g1 hz1 s1 => ?_)))))
  have hz1 : IsZip g1 z TI TO .ellipsis := hz1
  have r1 := s1.extBut
  refine wpAny_bind ?_
  simp only [List.zipIdx_cons, List.zipIdx_nil, List.forIn_cons, List.forIn_nil]
  refine wpAny_bind (wpAny_bind (wpAny_onRaise ?_))
  show wpAny (model prog w) _ (Builtin.SmallTypes.nextOf (.ref i1) >>= _) _ _ _
  have stop : ∀ (g : PySem.Heap) (e : Addr), IsZip g z TI TO .ellipsis → (∃ o, g.get? e = some o ∧ o.cls = .type "StopIteration") → e ≠ z := fun g e m ⟨o, he, hc⟩ y => by
    subst y
    rw [show g.get? e = some _ from m] at he
    cases he
    simp at hc
  cases hx : xs[k1]? with
  | none =>
    refine wpAny_bind (next_none hh (h1.ext r1 D.i1z) (q1.ext r1 D.l1z) hx fun g2 e r2 he => ?_)
    have hz2 : IsZip g2 z TI TO .ellipsis := r2 _ _ D.i1z.symm hz1
    have ne := stop _ _ hz2 he
    obtain ⟨oe, f1, f2⟩ := he
    exact wpAny_setField_rec hz2 (by simp) fun g3 _ s3 => hE g3 e (fun c o c1 _ c3 _ y => s3.extBut _ _ c1 (r2 _ _ c3 (r1 _ _ c1 y))) ⟨oe, s3.extBut _ _ ne f1, f2⟩
  | some x =>
    have hy : ys[k2]? = none := hend.resolve_left (by rw [hx]; exact fun z => by cases z)
    refine wpAny_bind (next_any (h1.ext r1 D.i1z) (q1.ext r1 D.l1z) hx fun g2 w2 s2 => wpAny_pure ?_)
    have r2 := s2.extBut
    have p2 : IsPair g2 TO a b := r2 _ _ D.TOi1 (r1 _ _ D.TOz hTO)
    refine wpAny_bind (wpAny_seqItems p2 rfl (wpAny_bind (wpAny_updateSeq_pair p2 fun g3 p3 s3 => ?_)))
    have r3 := s3.extBut
    refine wpAny_bind (wpAny_letGo (wpAny_pure (wpAny_bind (wpAny_bind (wpAny_onRaise ?_)))))
    show wpAny (model prog w) _ (Builtin.SmallTypes.nextOf (.ref i2) >>= _) _ _ _
    refine wpAny_bind (next_none hh (((h2.ext r1 D.i2z).ext r2 D.i12.symm).ext r3 D.TOi2.symm) (((q2.ext r1 D.l2z).ext r2 D.l2i1).ext r3 D.l2TO) hy fun g4 e r4 he => ?_)
    have hz4 : IsZip g4 z TI TO .ellipsis := r4 _ _ D.i2z.symm (r3 _ _ D.TOz.symm (r2 _ _ D.i1z.symm hz1))
    have ne := stop _ _ hz4 he
    obtain ⟨oe, f1, f2⟩ := he
    exact wpAny_setField_rec hz4 (by simp) fun g5 _ s5 => hE g5 e (fun c o c1 c2 c3 c4 y => s5.extBut _ _ c1 (r4 _ _ c4 (r3 _ _ c2 (r2 _ _ c3 (r1 _ _ c1 y))))) ⟨oe, s5.extBut _ _ ne f1, f2⟩
theorem pyNext_zipA {t u : Bool} {z TI TO i1 i2 l1 l2 : Addr} {k1 k2 : Nat} {xs ys : Array Value} {x y a b : Value} {Q : Option Value → Shared → Prop} (D : ZipApart z TI TO i1 i2 l1 l2) (hz : IsZip s.heap z TI TO .none) (hTI : IsPair s.heap TI (.ref i1) (.ref i2)) (hTO : IsPair s.heap TO a b)
    (h1 : AIt t s.heap i1 l1 k1) (h2 : AIt u s.heap i2 l2 k2) (q1 : ASq t s.heap l1 xs) (q2 : ASq u s.heap l2 ys) (hx : xs[k1]? = some x) (hy : ys[k2]? = some y)
    (hQ : ∀ h', IsZip h' z TI TO (rawInt s.heap.objs.size) → IsPair h' TO x y → AIt t h' i1 l1 (k1 + 1) → AIt u h' i2 l2 (k2 + 1) → IsPair h' s.heap.objs.size x y → h'.objs.size = s.heap.objs.size + 1 →
      (∀ c o, c ≠ z → c ≠ TO → c ≠ i1 → c ≠ i2 → s.heap.get? c = some o → h'.get? c = some o) → Q (some (.ref s.heap.objs.size)) { s with heap := h' }) : wpAny (model prog w) A (pyNext (.ref z)) Q E s := by
  have hT : s.TypeIs (.ref z) "zip" := ⟨_, hz, rfl⟩
  unfold pyNext
  refine wpAny_bind (wpAny_attempt (wpAny_callSpecial?_slot (name := Str.ofString "__next__") hT F.slot_zip_next (wpAny_call_entry F.slot_zip_next hT F.entry_zip_next ?_ (F.args_zip_next_1 _))))
  exact zipA_item D hz hTI hTO h1 h2 q1 q2 hx hy fun h' a1 a2 a3 a4 a5 a6 a7 => wpAny_pure (hQ h' a1 a2 a3 a4 a5 a6 a7)
theorem pyNext_zipA_end {t u : Bool} {z TI TO i1 i2 l1 l2 : Addr} {k1 k2 : Nat} {xs ys : Array Value} {a b : Value} {Q : Option Value → Shared → Prop} (hh : A.handled = none) (D : ZipApart z TI TO i1 i2 l1 l2) (hz : IsZip s.heap z TI TO .none) (hTI : IsPair s.heap TI (.ref i1) (.ref i2)) (hTO : IsPair s.heap TO a b)
    (h1 : AIt t s.heap i1 l1 k1) (h2 : AIt u s.heap i2 l2 k2) (q1 : ASq t s.heap l1 xs) (q2 : ASq u s.heap l2 ys) (hend : xs[k1]? = none ∨ ys[k2]? = none)
    (hQ : ∀ h', (∀ c o, c ≠ z → c ≠ TO → c ≠ i1 → c ≠ i2 → s.heap.get? c = some o → h'.get? c = some o) → Q none { s with heap := h' }) : wpAny (model prog w) A (pyNext (.ref z)) Q E s := by
  have hT : s.TypeIs (.ref z) "zip" := ⟨_, hz, rfl⟩
  unfold pyNext
  refine wpAny_bind (wpAny_attempt (wpAny_callSpecial?_slot (name := Str.ofString "__next__") hT F.slot_zip_next (wpAny_call_entry F.slot_zip_next hT F.entry_zip_next ?_ (F.args_zip_next_1 _))))
  refine zipA_end hh D hz hTI hTO h1 h2 q1 q2 hend fun h' e hk he => ?_
  obtain ⟨o, ho, hc⟩ := he
  exact wpAny_bind (wpAny_isInstance (T := "StopIteration") (b := true) ⟨o, ho, hc⟩ isSubtype_stop (wpAny_pure (hQ _ hk)))
end
def itN (t : Bool) : String := if t then "tuple_iterator" else "list_iterator"
abbrev zA1 (t : Bool) (h : PySem.Heap) (l1 : Addr) : PySem.Heap := h.push { cls := .type (itN t), data := .fields #[.ref l1, .int 0 0] }
abbrev zA2 (t u : Bool) (h : PySem.Heap) (l1 l2 : Addr) : PySem.Heap := (zA1 t h l1).push { cls := .type (itN u), data := .fields #[.ref l2, .int 0 0] }
abbrev zA3 (t u : Bool) (h : PySem.Heap) (l1 l2 : Addr) : PySem.Heap := (zA2 t u h l1 l2).push { cls := .type "tuple", data := .seq #[.ref h.objs.size, .ref (zA1 t h l1).objs.size] }
abbrev zA4 (t u : Bool) (h : PySem.Heap) (l1 l2 : Addr) : PySem.Heap := (zA3 t u h l1 l2).push { cls := .type "tuple", data := .seq #[.none, .none] }
abbrev zA5 (t u : Bool) (h : PySem.Heap) (l1 l2 : Addr) : PySem.Heap := (zA4 t u h l1 l2).push { cls := .type "zip", data := .fields #[.none, .bool false, .bool false, .ref (zA2 t u h l1 l2).objs.size, .ref (zA3 t u h l1 l2).objs.size] }
theorem meets_tl (l1 l2 : Addr) (xs ys : Array Value) :
    Meets (Builtin.«zip.__new__» ⟨[.type "zip", .ref l1, .ref l2], []⟩) (fun _ R s => s.heap.IsTuple l1 xs ∧ s.heap.IsList l2 ys ∧ R (.ok (.ret (.ref (zA4 true false s.heap l1 l2).objs.size))) { s with heap := zA5 true false s.heap l1 l2 }) :=
  .of_wp fun prog w A R s h => by
    obtain ⟨hp, g, d, tk, os⟩ := s; obtain ⟨hl1, hl2, h⟩ := h
    have hsub := PySem.sub_zip
    have hL1 : PySem.Heap.IsTuple (Shared.heap ⟨hp, g, d, tk, os⟩) l1 xs := hl1
    have hL2 : PySem.Heap.IsList (Shared.heap ⟨hp.push { cls := .type "tuple_iterator", data := .fields #[.ref l1, .int 0 0] }, g, d, tk, os⟩) l2 ys := PySem.Heap.IsList.push hl2 _
    wp_walk using wpAny_pyIter_tuple hL1, wpAny_pyIter_list hL2
    exact ⟨_, rfl, h⟩
theorem meets_lt (l1 l2 : Addr) (xs ys : Array Value) :
    Meets (Builtin.«zip.__new__» ⟨[.type "zip", .ref l1, .ref l2], []⟩) (fun _ R s => s.heap.IsList l1 xs ∧ s.heap.IsTuple l2 ys ∧ R (.ok (.ret (.ref (zA4 false true s.heap l1 l2).objs.size))) { s with heap := zA5 false true s.heap l1 l2 }) :=
  .of_wp fun prog w A R s h => by
    obtain ⟨hp, g, d, tk, os⟩ := s; obtain ⟨hl1, hl2, h⟩ := h
    have hsub := PySem.sub_zip
    have hL1 : PySem.Heap.IsList (Shared.heap ⟨hp, g, d, tk, os⟩) l1 xs := hl1
    have hL2 : PySem.Heap.IsTuple (Shared.heap ⟨hp.push { cls := .type "list_iterator", data := .fields #[.ref l1, .int 0 0] }, g, d, tk, os⟩) l2 ys := PySem.Heap.IsTuple.push hl2 _
    wp_walk using wpAny_pyIter_list hL1, wpAny_pyIter_tuple hL2
    exact ⟨_, rfl, h⟩
section
variable {prog : Program} {w : World} {A : Around} {E : Value → Shared → Prop} {s : Shared}
/-- what stands when a zip is made -/
theorem zA_stands {t u : Bool} {h : PySem.Heap} {l1 l2 : Addr} {Q : Value → Shared → Prop} (hq : ∀ h', IsZip h' (h.objs.size + 4) (h.objs.size + 2) (h.objs.size + 3) .none → IsPair h' (h.objs.size + 2) (.ref h.objs.size) (.ref (h.objs.size + 1)) →
      IsPair h' (h.objs.size + 3) .none .none → AIt t h' h.objs.size l1 0 → AIt u h' (h.objs.size + 1) l2 0 → h'.objs.size = h.objs.size + 5 → (∀ c o, h.get? c = some o → h'.get? c = some o) → Q (.ref (h.objs.size + 4)) { s with heap := h' }) :
    Q (.ref (zA4 t u h l1 l2).objs.size) { s with heap := zA5 t u h l1 l2 } := by
  have z1 : (zA1 t h l1).objs.size = h.objs.size + 1 := PySem.Heap.size_push ..
  have z2 : (zA2 t u h l1 l2).objs.size = h.objs.size + 2 := by rw [PySem.Heap.size_push, z1]
  have z3 : (zA3 t u h l1 l2).objs.size = h.objs.size + 3 := by rw [PySem.Heap.size_push, z2]
  have z4 : (zA4 t u h l1 l2).objs.size = h.objs.size + 4 := by rw [PySem.Heap.size_push, z3]
  have z5 : (zA5 t u h l1 l2).objs.size = h.objs.size + 5 := by rw [PySem.Heap.size_push, z4]
  have up : ∀ {g : PySem.Heap} {c : Addr} {o p : Obj}, g.get? c = some o → (g.push p).get? c = some o := fun e => PySem.Heap.get?_push_of_some _ e
  have g5 : (zA5 t u h l1 l2).get? (zA4 t u h l1 l2).objs.size = some _ := PySem.Heap.get?_push_size _ rfl
  have g4 : (zA5 t u h l1 l2).get? (zA3 t u h l1 l2).objs.size = some _ := up (PySem.Heap.get?_push_size _ rfl)
  have g3 : (zA5 t u h l1 l2).get? (zA2 t u h l1 l2).objs.size = some _ := up (up (PySem.Heap.get?_push_size _ rfl))
  have g2 : (zA5 t u h l1 l2).get? (zA1 t h l1).objs.size = some _ := up (up (up (PySem.Heap.get?_push_size _ rfl)))
  have g1 : (zA5 t u h l1 l2).get? h.objs.size = some _ := up (up (up (up (PySem.Heap.get?_push_size _ rfl))))
  rw [z2, z3, z4] at g5
  rw [z1, z2] at g3
  rw [z3] at g4
  rw [z1] at g2
  rw [z4]
  refine hq _ g5 g3 g4 ?_ ?_ z5 fun c o x => up (up (up (up (up x))))
  · cases t
    · exact ⟨_, g1, rfl, rfl⟩
    · exact ⟨_, g1, rfl, rfl⟩
  · cases u
    · exact ⟨_, g2, rfl, rfl⟩
    · exact ⟨_, g2, rfl, rfl⟩
theorem call_tl {l1 l2 : Addr} {xs ys : Array Value} {Q : Value → Shared → Prop} (hl1 : s.heap.IsTuple l1 xs) (hl2 : s.heap.IsList l2 ys)
    (hq : ∀ h', IsZip h' (s.heap.objs.size + 4) (s.heap.objs.size + 2) (s.heap.objs.size + 3) .none → IsPair h' (s.heap.objs.size + 2) (.ref s.heap.objs.size) (.ref (s.heap.objs.size + 1)) →
      IsPair h' (s.heap.objs.size + 3) .none .none → AIt true h' s.heap.objs.size l1 0 → AIt false h' (s.heap.objs.size + 1) l2 0 → h'.objs.size = s.heap.objs.size + 5 → (∀ c o, s.heap.get? c = some o → h'.get? c = some o) → Q (.ref (s.heap.objs.size + 4)) { s with heap := h' }) :
    wpAny (model prog w) A (PySem.call (.type "zip") [.ref l1, .ref l2]) Q E s := by
  refine callType_new F.called_zip (by decide) (F.typeCall_zip_2 _ _) (F.newCall_zip_2 _ _) (fun obj => F.args_object_init_3 obj _ _) F.entry_zip_new (meets_tl l1 l2 xs ys) ⟨hl1, hl2, ?_⟩
  exact ⟨⟨_, PySem.Heap.get?_push_size _ rfl, rfl⟩, zA_stands hq⟩
theorem call_lt {l1 l2 : Addr} {xs ys : Array Value} {Q : Value → Shared → Prop} (hl1 : s.heap.IsList l1 xs) (hl2 : s.heap.IsTuple l2 ys)
    (hq : ∀ h', IsZip h' (s.heap.objs.size + 4) (s.heap.objs.size + 2) (s.heap.objs.size + 3) .none → IsPair h' (s.heap.objs.size + 2) (.ref s.heap.objs.size) (.ref (s.heap.objs.size + 1)) →
      IsPair h' (s.heap.objs.size + 3) .none .none → AIt false h' s.heap.objs.size l1 0 → AIt true h' (s.heap.objs.size + 1) l2 0 → h'.objs.size = s.heap.objs.size + 5 → (∀ c o, s.heap.get? c = some o → h'.get? c = some o) → Q (.ref (s.heap.objs.size + 4)) { s with heap := h' }) :
    wpAny (model prog w) A (PySem.call (.type "zip") [.ref l1, .ref l2]) Q E s := by
  refine callType_new F.called_zip (by decide) (F.typeCall_zip_2 _ _) (F.newCall_zip_2 _ _) (fun obj => F.args_object_init_3 obj _ _) F.entry_zip_new (meets_lt l1 l2 xs ys) ⟨hl1, hl2, ?_⟩
  exact ⟨⟨_, PySem.Heap.get?_push_size _ rfl, rfl⟩, zA_stands hq⟩
end
/-! ## the turn -/
def SqA (t : Bool) (K : PySem.W.Frag) (H : Hp) (a : Addr) (xs : List V) : Prop := if t then SqT K H a xs else SqL K H a xs
def ItzA (t u : Bool) (K : PySem.W.Frag) (a b : Addr) : L2.It :=
  ⟨fun i H => ∃ (xs ys : List V) (x y : V), SqA t K H a xs ∧ SqA u K H b ys ∧ xs[i]? = some x ∧ ys[i]? = some y,
    fun i H v H' => ∃ T x y, v = .ref T ∧ H T = none ∧ H' = upd H T (.tup [x, y]) ∧ (∀ xs, SqA t K H a xs → xs[i]? = some x) ∧ ∀ ys, SqA u K H b ys → ys[i]? = some y,
    fun i H => ∃ xs ys : List V, SqA t K H a xs ∧ SqA u K H b ys ∧ (xs.length ≤ i ∨ ys.length ≤ i)⟩
theorem sqA_at {X : Cx} {pins : List (Addr × Obj)} {σ : L2.St} {H : Hp} {s : Shared} {t : Bool} {a : Addr} {xs : List V} (I : Inv X pins σ H s) (q : SqA t X.K H a xs) : ∃ its : List Value, Vals xs its ∧ ASq t s.heap a its.toArray := by
  cases t
  · obtain ⟨its, rv, p, _⟩ := I.list q
    exact ⟨its, rv, p.isList⟩
  · obtain ⟨its, rv, p, _⟩ := I.tuple q
    exact ⟨its, rv, p⟩
theorem sqA_inj {X : Cx} {pins : List (Addr × Obj)} {σ : L2.St} {H : Hp} {s : Shared} {t : Bool} {a : Addr} {xs ys : List V} (I : Inv X pins σ H s) (q : SqA t X.K H a xs) (q' : SqA t X.K H a ys) : xs = ys := by
  cases t
  · exact I.list_inj q q'
  · exact I.tuple_inj q q'
theorem turn_zipA {t u : Bool} {P : Program} {w : World} {K : PySem.W.Frag} {elts : List Expr} {kk : Nat} {tpos : Pos} {a b z TI TO i1 i2 : Addr} (D : ZipApart z TI TO i1 i2 a b) :
    Turn P w K (.Tuple elts kk tpos) (ItzA t u K a b) [z, TI, TO, i1, i2] z (fun i h => IsZip h z TI TO .none ∧ IsPair h TI (.ref i1) (.ref i2) ∧ (∃ x y, IsPair h TO x y) ∧ AIt t h i1 a i ∧ AIt u h i2 b i) where
  mem := by simp
  obj := fun i h ⟨hz, hTI, ⟨x, y, hTO⟩, h1, h2⟩ c hc => by
    have e' : c = z ∨ c = TI ∨ c = TO ∨ c = i1 ∨ c = i2 := by simpa using hc
    rcases e' with rfl | rfl | rfl | rfl | rfl
    · exact ⟨_, hz, fun v q => nomatch q⟩
    · exact ⟨_, hTI, fun v q => nomatch q⟩
    · exact ⟨_, hTO, fun v q => nomatch q⟩
    · cases t
      · obtain ⟨o1, e1, _, d1⟩ := h1; exact ⟨o1, e1, fun v q => by rw [d1] at q; cases q⟩
      · obtain ⟨o1, e1, _, d1⟩ := h1; exact ⟨o1, e1, fun v q => by rw [d1] at q; cases q⟩
    · cases u
      · obtain ⟨o1, e1, _, d1⟩ := h2; exact ⟨o1, e1, fun v q => by rw [d1] at q; cases q⟩
      · obtain ⟨o1, e1, _, d1⟩ := h2; exact ⟨o1, e1, fun v q => by rw [d1] at q; cases q⟩
  keep := fun i h h' ⟨hz, hTI, ⟨x, y, hTO⟩, h1, h2⟩ k => ⟨k z (by simp) _ hz, k TI (by simp) _ hTI, ⟨x, y, k TO (by simp) _ hTO⟩, h1.to fun o q => k i1 (by simp) o q, h2.to fun o q => k i2 (by simp) o q⟩
  item := by
    intro X hP hw hK hc i pins s σ H E I hf st hg
    subst hP; subst hw; subst hK
    obtain ⟨hz, hTI, ⟨x0, y0, hTO⟩, h1, h2⟩ := st
    obtain ⟨xs, ys, x, y, hqx, hqy, hx, hy⟩ := hg
    obtain ⟨its, rv, p⟩ := sqA_at I hqx
    obtain ⟨its2, rv2, p2⟩ := sqA_at I hqy
    obtain ⟨b1, hb1, rb1⟩ := rv.get hx
    obtain ⟨b2, hb2, rb2⟩ := rv2.get hy
    have hzl : z < s.heap.objs.size := PySem.Heap.lt_size hz
    refine pyNext_zipA D hz hTI hTO h1 h2 p p2 (x := b1) (y := b2) (by simpa using hb1) (by simpa using hb2) fun h' z' TO' h1' h2' hT hsz hk => ?_
    refine ⟨_, rfl, wpAny_letOwnedTupleGo_zip (s := { s with heap := h' }) z' fun h'' z'' sb => ?_⟩
    have hT2 : h''.get? s.heap.objs.size = some { cls := .type "tuple", data := .seq #[b1, b2] } := (sb.2 _ (Nat.ne_of_gt hzl)).trans hT
    have new : ObjOk X.prog X.w (upd H s.heap.objs.size (.tup [x, y])) h'' s.heap.objs.size (.tup [x, y]) := ⟨by show 2 ≤ sizeLine; decide, [b1, b2], .cons rb1 (.cons rb2 .nil), ⟨_, hT2, rfl, _, rfl⟩⟩
    have kk2 : ∀ c o, c ∉ [z, TI, TO, i1, i2] → s.heap.get? c = some o → h''.get? c = some o := fun c o hb q => by
      simp only [List.mem_cons, List.not_mem_nil, or_false, not_or] at hb
      exact (sb.2 c hb.1).trans (hk c o hb.1 hb.2.2.1 hb.2.2.2.1 hb.2.2.2.2 q)
    have I1 : Inv X pins σ (upd H s.heap.objs.size (.tup [x, y])) { s with heap := h'' } := I.turnedNew (t' := s.toks) (ch := [z, TI, TO, i1, i2]) kk2 hf (Nat.le_refl _) new
    refine ⟨.ref s.heap.objs.size, _, I1, rfl, ⟨_, x, y, rfl, I.hok.fresh (Nat.le_refl _), rfl, fun l hl => by rw [sqA_inj I hl hqx]; exact hx, fun l hl => by rw [sqA_inj I hl hqy]; exact hy⟩, ⟨z'', ?_, ⟨b1, b2, ?_⟩, ?_, ?_⟩, fun c hcm => ?_⟩
    · exact (sb.2 _ D.TIz).trans (hk _ _ D.TIz D.TITO D.TIi1 D.TIi2 hTI)
    · exact (sb.2 _ D.TOz).trans TO'
    · exact h1'.to fun o q => (sb.2 _ D.i1z).trans q
    · exact h2'.to fun o q => (sb.2 _ D.i2z).trans q
    · have hlt : c < s.heap.objs.size := by
        obtain ⟨o1, e1⟩ := h1.obj
        obtain ⟨o2, e2⟩ := h2.obj
        have e' : c = z ∨ c = TI ∨ c = TO ∨ c = i1 ∨ c = i2 := by simpa using hcm
        rcases e' with q | q | q | q | q
        · rw [q]; exact hzl
        · rw [q]; exact PySem.Heap.lt_size hTI
        · rw [q]; exact PySem.Heap.lt_size hTO
        · rw [q]; exact PySem.Heap.lt_size e1
        · rw [q]; exact PySem.Heap.lt_size e2
      rw [upd_ne (Nat.ne_of_lt hlt)]
      exact (hf c hcm).1
  done := by
    intro X hP hw hK hc i pins s σ H E I hf st hg
    subst hP; subst hw; subst hK
    obtain ⟨hz, hTI, ⟨x0, y0, hTO⟩, h1, h2⟩ := st
    obtain ⟨xs, ys, hqx, hqy, hend⟩ := hg
    obtain ⟨its, rv, p⟩ := sqA_at I hqx
    obtain ⟨its2, rv2, p2⟩ := sqA_at I hqy
    have g1 := rv.length
    have g2 := rv2.length
    have he : its.toArray[i]? = none ∨ its2.toArray[i]? = none := by
      rcases hend with q | q
      · left; simp; omega
      · right; simp; omega
    refine pyNext_zipA_end (I.ok.hd hc) D hz hTI hTO h1 h2 p p2 he fun h' hk => ⟨rfl, I.turnedL (t' := s.toks) (ch := [z, TI, TO, i1, i2]) (fun c o hb q => ?_) hf⟩
    simp only [List.mem_cons, List.not_mem_nil, or_false, not_or] at hb
    exact hk c o hb.1 hb.2.2.1 hb.2.2.2.1 hb.2.2.2.2 q
  self := fun A i s Q E st h => wpAny_pyIter_zip st.1 h
/-! ## the rule -/
def iZipAny (K : PySem.W.Frag) (ta : TA) : TI := fun σ H R => ta σ H fun vs H1 => ∃ t u a b xs ys, vs = [.ref a, .ref b] ∧ SqA t K H1 a xs ∧ SqA u K H1 b ys ∧ R (ItzA t u K a b) H1
theorem pi_zipAny {X : Cx} {e e2 : Expr} {ta : TA} {p pos tpos : Pos} {elts : List Expr} {kk : Nat} (hg : Gl X "zip") (hm : X.mg "zip" = none) (ha : PA X [e, e2] ta)
    (hs : starEach [e, e2] X.env = (false, eval e X.env) :: starEach [e2] X.env := by rfl) (hpl : (backTo pos (starEach [e2] X.env)).any (·.1) = false := by rfl) :
    PI X (.Tuple elts kk tpos) (.Call (.Name "zip" p) [e, e2] [] pos) (iZipAny X.K ta) := by
  refine ⟨fun pins s σ H R I h => ?_⟩
  refine Call_ (ld_blt I hg hm PyProof.Rows.boot_zip (PyProof.Rows.callWith_type1 (thn (ha.run pos pins s σ H _ I h) fun us s1 ⟨vs, H1, I1, r1, q1⟩ => ?_) hs hpl))
  obtain ⟨t, u, a, b, xs, ys, ex, hqx, hqy, q⟩ := q1
  subst ex
  obtain ⟨u1, u2, rfl, r, r'⟩ : ∃ u1 u2, us = [u1, u2] ∧ RelV (.ref a) u1 ∧ RelV (.ref b) u2 := by
    cases r1 with
    | cons r rr =>
      cases rr with
      | cons r' rr =>
        cases rr
        exact ⟨_, _, rfl, r, r'⟩
  cases r
  cases r'
  have fresh5 : ∀ c, c ∈ [s1.heap.objs.size + 4, s1.heap.objs.size + 2, s1.heap.objs.size + 3, s1.heap.objs.size, s1.heap.objs.size + 1] → FpOk X pins H1 c := fun c hcm => by
    have hle : s1.heap.objs.size ≤ c := by
      simp only [List.mem_cons, List.not_mem_nil, or_false] at hcm
      rcases hcm with z | z | z | z | z <;> rw [z] <;> first | exact Nat.le_refl _ | exact Nat.le_add_right _ _
    exact I1.fpOk hle (I1.hok.fresh hle)
  have fin : ∀ {l1 l2 : Nat} (h' : PySem.Heap), (a < s1.heap.objs.size) → (b < s1.heap.objs.size) → IsZip h' (s1.heap.objs.size + 4) (s1.heap.objs.size + 2) (s1.heap.objs.size + 3) .none → IsPair h' (s1.heap.objs.size + 2) (.ref s1.heap.objs.size) (.ref (s1.heap.objs.size + 1)) →
      IsPair h' (s1.heap.objs.size + 3) .none .none → AIt t h' s1.heap.objs.size a 0 → AIt u h' (s1.heap.objs.size + 1) b 0 → (∀ c o, s1.heap.get? c = some o → h'.get? c = some o) → PIE X pins σ (.Tuple elts kk tpos) R (.ref (s1.heap.objs.size + 4)) { s1 with heap := h' } := fun h' la lb hz hTI hTO h1 h2 hk =>
    ⟨s1.heap.objs.size + 4, [s1.heap.objs.size + 4, s1.heap.objs.size + 2, s1.heap.objs.size + 3, s1.heap.objs.size, s1.heap.objs.size + 1], _, _, H1, rfl, I1.kept (t' := s1.toks) hk, turn_zipA (PySem.W.ktu_apart s1.heap.objs.size a b la lb), ⟨hz, hTI, ⟨_, _, hTO⟩, h1, h2⟩, fresh5, q⟩
  cases t
  · obtain ⟨its, rv, p1, _⟩ := I1.list (show SqL X.K H1 a xs from hqx)
    cases u
    · obtain ⟨its2, rv2, p2, _⟩ := I1.list (show SqL X.K H1 b ys from hqy)
      exact call_zip_2 p1.isList p2.isList fun h' hz hTI hTO h1 h2 hsz hk => wpAny_pyIter_zip hz (fin (l1 := 0) (l2 := 0) h' p1.lt p2.lt hz hTI hTO h1 h2 hk)
    · obtain ⟨its2, rv2, p2, _⟩ := I1.tuple (show SqT X.K H1 b ys from hqy)
      obtain ⟨o2, ho2, _⟩ := id p2
      exact call_lt p1.isList (show s1.heap.IsTuple b its2.toArray from p2) fun h' hz hTI hTO h1 h2 hsz hk => wpAny_pyIter_zip hz (fin (l1 := 0) (l2 := 0) h' p1.lt (PySem.Heap.lt_size ho2) hz hTI hTO h1 h2 hk)
  · obtain ⟨its, rv, p1, _⟩ := I1.tuple (show SqT X.K H1 a xs from hqx)
    obtain ⟨o1, ho1, _⟩ := id p1
    cases u
    · obtain ⟨its2, rv2, p2, _⟩ := I1.list (show SqL X.K H1 b ys from hqy)
      exact call_tl (show s1.heap.IsTuple a its.toArray from p1) p2.isList fun h' hz hTI hTO h1 h2 hsz hk => wpAny_pyIter_zip hz (fin (l1 := 0) (l2 := 0) h' (PySem.Heap.lt_size ho1) p2.lt hz hTI hTO h1 h2 hk)
    · obtain ⟨its2, rv2, p2, _⟩ := I1.tuple (show SqT X.K H1 b ys from hqy)
      obtain ⟨o2, ho2, _⟩ := id p2
      exact RZ.call_zipT (show s1.heap.IsTuple a its.toArray from p1) (show s1.heap.IsTuple b its2.toArray from p2) fun h' hz hTI hTO h1 h2 hsz hk => wpAny_pyIter_zip hz (fin (l1 := 0) (l2 := 0) h' (PySem.Heap.lt_size ho1) (PySem.Heap.lt_size ho2) hz hTI hTO h1 h2 hk)
end Mi


/-! # Mi5Y: zip of three things of any kind, at the library's level. Its parts stand at n, n + 1, .. n + 5. -/
namespace Mi
open PySem PySem.Spec PyProof.Rows L2
abbrev IsTri (h : PySem.Heap) (T : Addr) (a b c : Value) : Prop := h.get? T = some { cls := .type "tuple", data := .seq #[a, b, c] }
theorem nn {a b : Nat} (h : a ≠ b) : a ≠ b := h
section
variable {prog : Program} {w : World} {A : Around} {E : Value → Shared → Prop} {s : Shared}
theorem upd_tri {T : Addr} {a b c x : Value} {k : Nat} {Q : Unit → Shared → Prop} (hT : IsTri s.heap T a b c)
    (h : ∀ h', h'.get? T = some { cls := .type "tuple", data := .seq ((#[a, b, c] : Array Value).setIfInBounds k x) } → PySem.Heap.SameBut T s.heap h' → Q () { s with heap := h' }) :
    wpAny (model prog w) A (updateSeq T (·.setIfInBounds k x)) Q E s := by
  refine wpAny_updateSeq hT rfl (h _ ?_ (PySem.Heap.SameBut.update ..))
  rw [PySem.Heap.get?_update_self _ hT rfl]
  simp [Obj.mapSeq]
theorem zip3_item {t u v : Bool} {n l1 l2 l3 : Nat} {k : Nat} {xs ys zs : Array Value} {x y y3 a b c : Value} {Q : Value → Shared → Prop} (L1 : l1 < n) (L2 : l2 < n) (L3 : l3 < n) (hz : IsZip s.heap (n + 5) (n + 3) (n + 4) .none) (hTI : IsTri s.heap (n + 3) (.ref n) (.ref (n + 1)) (.ref (n + 2))) (hTO : IsTri s.heap (n + 4) a b c)
    (h1 : AIt t s.heap n l1 k) (h2 : AIt u s.heap (n + 1) l2 k) (h3 : AIt v s.heap (n + 2) l3 k) (q1 : ASq t s.heap l1 xs) (q2 : ASq u s.heap l2 ys) (q3 : ASq v s.heap l3 zs) (hx : xs[k]? = some x) (hy : ys[k]? = some y) (hy3 : zs[k]? = some y3)
    (hQ : ∀ h', IsZip h' (n + 5) (n + 3) (n + 4) (rawInt s.heap.objs.size) → IsTri h' (n + 4) x y y3 → AIt t h' n l1 (k + 1) → AIt u h' (n + 1) l2 (k + 1) → AIt v h' (n + 2) l3 (k + 1) → IsTri h' s.heap.objs.size x y y3 → h'.objs.size = s.heap.objs.size + 1 →
      (∀ (c : Nat) o, c < n ∨ c = n + 3 ∨ n + 5 < c → s.heap.get? c = some o → h'.get? c = some o) → Q (.ref s.heap.objs.size) { s with heap := h' }) :
    wpAny (model prog w) A (Builtin.«zip.__next__» ⟨[.ref (n + 5)], []⟩) (fun fin s' => ∃ v, fin = .done (.ret v) ∧ Q v s') E s := by
  show wpAny (model prog w) A (field (.ref (n + 5)) 2 >>= _) _ E s
  refine wpAny_bind (wpAny_field hz rfl (x := .bool false) rfl ?_)
  show wpAny (model prog w) A (field (.ref (n + 5)) 3 >>= _) _ E s
  refine wpAny_bind (wpAny_field hz rfl (x := .ref (n + 3)) rfl (wpAny_bind (wpAny_seqItems hTI rfl ?_)))
  show wpAny (model prog w) A (Builtin.SmallTypes.ownedTupleIsFree (.ref (n + 5)) >>= _) _ E s
  (refine wpAny_bind ?_; unfold Builtin.SmallTypes.ownedTupleIsFree; refine wpAny_bind (wpAny_field hz rfl (x := .none) rfl (wpAny_pure ?_)))
  simp only [if_true]
  refine wpAny_bind (wpAny_rule (wpAny_bind (wpAny_field hz rfl (x := .ref (n + 4)) rfl (wpAny_bind (wpAny_setField_rec hz (by simp) fun g1 hz1 s1 => ?_)))))
  have hz1 : IsZip g1 (n + 5) (n + 3) (n + 4) .ellipsis := hz1
  have r1 := s1.extBut
  refine wpAny_bind ?_
  simp only [List.zipIdx_cons, List.zipIdx_nil, List.forIn_cons, List.forIn_nil]
  refine wpAny_bind (wpAny_bind (wpAny_onRaise ?_))
  show wpAny (model prog w) _ (Builtin.SmallTypes.nextOf (.ref n) >>= _) _ _ _
  refine wpAny_bind (next_any (h1.ext r1 (nn (by omega))) (q1.ext r1 (nn (by omega))) hx fun g2 w2 s2 => wpAny_pure ?_)
  have r2 := s2.extBut
  have p2 : IsTri g2 (n + 4) a b c := r2 _ _ (nn (by omega)) (r1 _ _ (nn (by omega)) hTO)
  refine wpAny_bind (wpAny_seqItems p2 rfl (wpAny_bind (upd_tri p2 fun g3 p3 s3 => ?_)))
  have p3 : IsTri g3 (n + 4) x b c := p3
  have r3 := s3.extBut
  refine wpAny_bind (wpAny_letGo (wpAny_pure (wpAny_bind (wpAny_bind (wpAny_onRaise ?_)))))
  show wpAny (model prog w) _ (Builtin.SmallTypes.nextOf (.ref (n + 1)) >>= _) _ _ _
  refine wpAny_bind (next_any (((h2.ext r1 (nn (by omega))).ext r2 (nn (by omega))).ext r3 (nn (by omega))) (((q2.ext r1 (nn (by omega))).ext r2 (nn (by omega))).ext r3 (nn (by omega))) hy fun g4 w4 s4 => wpAny_pure ?_)
  have r4 := s4.extBut
  have p4 : IsTri g4 (n + 4) x b c := r4 _ _ (nn (by omega)) p3
  refine wpAny_bind (wpAny_seqItems p4 rfl (wpAny_bind (upd_tri p4 fun g5 p5 s5 => ?_)))
  have p5 : IsTri g5 (n + 4) x y c := p5
  have r5 := s5.extBut
  refine wpAny_bind (wpAny_letGo (wpAny_pure (wpAny_bind (wpAny_bind (wpAny_onRaise ?_)))))
  show wpAny (model prog w) _ (Builtin.SmallTypes.nextOf (.ref (n + 2)) >>= _) _ _ _
  refine wpAny_bind (next_any (((((h3.ext r1 (nn (by omega))).ext r2 (nn (by omega))).ext r3 (nn (by omega))).ext r4 (nn (by omega))).ext r5 (nn (by omega))) (((((q3.ext r1 (nn (by omega))).ext r2 (nn (by omega))).ext r3 (nn (by omega))).ext r4 (nn (by omega))).ext r5 (nn (by omega))) hy3 fun g6 w6 s6 => wpAny_pure ?_)
  have r6 := s6.extBut
  have p6 : IsTri g6 (n + 4) x y c := r6 _ _ (nn (by omega)) p5
  refine wpAny_bind (wpAny_seqItems p6 rfl (wpAny_bind (upd_tri p6 fun g7 p7 s7 => ?_)))
  have p7 : IsTri g7 (n + 4) x y y3 := p7
  have r7 := s7.extBut
  refine wpAny_bind (wpAny_letGo (wpAny_pure (wpAny_pure (wpAny_bind (wpAny_seqItems p7 rfl (wpAny_bind (wpAny_newTuple ?_)))))))
  have e7 : g7.objs.size = s.heap.objs.size := by rw [s7.1, s6.1, s5.1, s4.1, s3.1, s2.1, s1.1]
  have hz7 : IsZip g7 (n + 5) (n + 3) (n + 4) .ellipsis := r7 _ _ (nn (by omega)) (r6 _ _ (nn (by omega)) (r5 _ _ (nn (by omega)) (r4 _ _ (nn (by omega)) (r3 _ _ (nn (by omega)) (r2 _ _ (nn (by omega)) hz1)))))
  have k7 : ∀ (c : Nat) o, c < n ∨ c = n + 3 ∨ n + 5 < c → s.heap.get? c = some o → g7.get? c = some o := fun c o hc e => r7 _ _ (nn (by omega)) (r6 _ _ (nn (by omega)) (r5 _ _ (nn (by omega)) (r4 _ _ (nn (by omega)) (r3 _ _ (nn (by omega)) (r2 _ _ (nn (by omega)) (r1 _ _ (nn (by omega)) e))))))
  have v1 : AIt t g7 n l1 (k + 1) := ((((w2.ext r3 (nn (by omega))).ext r4 (nn (by omega))).ext r5 (nn (by omega))).ext r6 (nn (by omega))).ext r7 (nn (by omega))
  have v2 : AIt u g7 (n + 1) l2 (k + 1) := ((w4.ext r5 (nn (by omega))).ext r6 (nn (by omega))).ext r7 (nn (by omega))
  have v3 : AIt v g7 (n + 2) l3 (k + 1) := w6.ext r7 (nn (by omega))
  have zlt : n + 5 < g7.objs.size := PySem.Heap.lt_size hz7
  show wpAny (model prog w) _ (Builtin.SmallTypes.ownedTupleHandOut (.ref (n + 5)) (.ref g7.objs.size) >>= _) _ _ _
  (refine wpAny_bind ?_; unfold Builtin.SmallTypes.ownedTupleHandOut)
  have hz8 : IsZip (g7.push { cls := .type "tuple", data := .seq #[x, y, y3] }) (n + 5) (n + 3) (n + 4) .ellipsis := PySem.Heap.get?_push_of_some _ hz7
  refine wpAny_bind (wpAny_setField_rec hz8 (by simp) fun g9 hz9 s9 => ?_)
  have hz9 : IsZip g9 (n + 5) (n + 3) (n + 4) (rawInt g7.objs.size) := hz9
  refine wpAny_setField_rec hz9 (by simp) fun g10 hz10 s10 => ?_
  have hz10 : IsZip g10 (n + 5) (n + 3) (n + 4) (rawInt g7.objs.size) := hz10
  have up : ∀ (c : Nat) o, c ≠ n + 5 → g7.get? c = some o → g10.get? c = some o := fun c o c1 e => s10.extBut _ _ c1 (s9.extBut _ _ c1 (PySem.Heap.get?_push_of_some _ e))
  have nz : g7.objs.size ≠ n + 5 := Nat.ne_of_gt zlt
  have pT : IsTri g10 g7.objs.size x y y3 := s10.extBut _ _ nz (s9.extBut _ _ nz (PySem.Heap.get?_push_size _ rfl))
  have e10 : g10.objs.size = g7.objs.size + 1 := by rw [s10.1, s9.1, PySem.Heap.size_push]
  rw [e7] at hz10 pT e10
  refine wpAny_pure ⟨_, rfl, ?_⟩
  show Q (.ref g7.objs.size) _
  rw [e7]
  exact hQ g10 hz10 (up _ _ (nn (by omega)) p7) (v1.to fun o e => up _ o (nn (by omega)) e) (v2.to fun o e => up _ o (nn (by omega)) e) (v3.to fun o e => up _ o (nn (by omega)) e) pT e10 fun c o hc e => up c o (nn (by omega)) (k7 c o hc e)
theorem zip3_end {t u v : Bool} {n l1 l2 l3 : Nat} {k : Nat} {xs ys zs : Array Value} {a b c : Value} {Q : Fin → Shared → Prop} (hh : A.handled = none) (L1 : l1 < n) (L2 : l2 < n) (L3 : l3 < n) (hz : IsZip s.heap (n + 5) (n + 3) (n + 4) .none) (hTI : IsTri s.heap (n + 3) (.ref n) (.ref (n + 1)) (.ref (n + 2))) (hTO : IsTri s.heap (n + 4) a b c)
    (h1 : AIt t s.heap n l1 k) (h2 : AIt u s.heap (n + 1) l2 k) (h3 : AIt v s.heap (n + 2) l3 k) (q1 : ASq t s.heap l1 xs) (q2 : ASq u s.heap l2 ys) (q3 : ASq v s.heap l3 zs) (hend : xs[k]? = none ∨ ys[k]? = none ∨ zs[k]? = none)
    (hE : ∀ h' e, (∀ (c : Nat) o, c < n ∨ c = n + 3 ∨ n + 5 < c → s.heap.get? c = some o → h'.get? c = some o) → (∃ o, h'.get? e = some o ∧ o.cls = .type "StopIteration") → E (.ref e) { s with heap := h' }) :
    wpAny (model prog w) A (Builtin.«zip.__next__» ⟨[.ref (n + 5)], []⟩) Q E s := by
  show wpAny (model prog w) A (field (.ref (n + 5)) 2 >>= _) _ E s
  refine wpAny_bind (wpAny_field hz rfl (x := .bool false) rfl ?_)
  show wpAny (model prog w) A (field (.ref (n + 5)) 3 >>= _) _ E s
  refine wpAny_bind (wpAny_field hz rfl (x := .ref (n + 3)) rfl (wpAny_bind (wpAny_seqItems hTI rfl ?_)))
  show wpAny (model prog w) A (Builtin.SmallTypes.ownedTupleIsFree (.ref (n + 5)) >>= _) _ E s
  (refine wpAny_bind ?_; unfold Builtin.SmallTypes.ownedTupleIsFree; refine wpAny_bind (wpAny_field hz rfl (x := .none) rfl (wpAny_pure ?_)))
  simp only [if_true]
  refine wpAny_bind (wpAny_rule (wpAny_bind (wpAny_field hz rfl (x := .ref (n + 4)) rfl (wpAny_bind (wpAny_setField_rec hz (by simp) fun g1 hz1 s1 => ?_)))))
  have hz1 : IsZip g1 (n + 5) (n + 3) (n + 4) .ellipsis := hz1
  have r1 := s1.extBut
  refine wpAny_bind ?_
  simp only [List.zipIdx_cons, List.zipIdx_nil, List.forIn_cons, List.forIn_nil]
  refine wpAny_bind (wpAny_bind (wpAny_onRaise ?_))
  show wpAny (model prog w) _ (Builtin.SmallTypes.nextOf (.ref n) >>= _) _ _ _
  have stop : ∀ (g : PySem.Heap) (e : Addr), IsZip g (n + 5) (n + 3) (n + 4) .ellipsis → (∃ o, g.get? e = some o ∧ o.cls = .type "StopIteration") → e ≠ n + 5 := fun g e m ⟨o, he, hc⟩ y => by
    subst y
    rw [show g.get? (n + 5) = some _ from m] at he
    cases he
    simp at hc
  cases hx : xs[k]? with
  | none =>
    refine wpAny_bind (next_none hh (h1.ext r1 (nn (by omega))) (q1.ext r1 (nn (by omega))) hx fun g2 e r2 he => ?_)
    have hz2 : IsZip g2 (n + 5) (n + 3) (n + 4) .ellipsis := r2 _ _ (nn (by omega)) hz1
    have ne := stop _ _ hz2 he
    obtain ⟨oe, f1, f2⟩ := he
    exact wpAny_setField_rec hz2 (by simp) fun g3 _ s3 => hE g3 e (fun c o hc y => s3.extBut _ _ (nn (by omega)) (r2 _ _ (nn (by omega)) (r1 _ _ (nn (by omega)) y))) ⟨oe, s3.extBut _ _ ne f1, f2⟩
  | some x =>
    have hend := hend.resolve_left (by rw [hx]; exact fun z => by cases z)
    refine wpAny_bind (next_any (h1.ext r1 (nn (by omega))) (q1.ext r1 (nn (by omega))) hx fun g2 w2 s2 => wpAny_pure ?_)
    have r2 := s2.extBut
    have p2 : IsTri g2 (n + 4) a b c := r2 _ _ (nn (by omega)) (r1 _ _ (nn (by omega)) hTO)
    refine wpAny_bind (wpAny_seqItems p2 rfl (wpAny_bind (upd_tri p2 fun g3 p3 s3 => ?_)))
    have p3 : IsTri g3 (n + 4) x b c := p3
    have r3 := s3.extBut
    refine wpAny_bind (wpAny_letGo (wpAny_pure (wpAny_bind (wpAny_bind (wpAny_onRaise ?_)))))
    show wpAny (model prog w) _ (Builtin.SmallTypes.nextOf (.ref (n + 1)) >>= _) _ _ _
    have hz3 : IsZip g3 (n + 5) (n + 3) (n + 4) .ellipsis := r3 _ _ (nn (by omega)) (r2 _ _ (nn (by omega)) hz1)
    cases hy : ys[k]? with
    | none =>
      refine wpAny_bind (next_none hh (((h2.ext r1 (nn (by omega))).ext r2 (nn (by omega))).ext r3 (nn (by omega))) (((q2.ext r1 (nn (by omega))).ext r2 (nn (by omega))).ext r3 (nn (by omega))) hy fun g4 e r4 he => ?_)
      have hz4 : IsZip g4 (n + 5) (n + 3) (n + 4) .ellipsis := r4 _ _ (nn (by omega)) hz3
      have ne := stop _ _ hz4 he
      obtain ⟨oe, f1, f2⟩ := he
      exact wpAny_setField_rec hz4 (by simp) fun g5 _ s5 => hE g5 e (fun c o hc y => s5.extBut _ _ (nn (by omega)) (r4 _ _ (nn (by omega)) (r3 _ _ (nn (by omega)) (r2 _ _ (nn (by omega)) (r1 _ _ (nn (by omega)) y))))) ⟨oe, s5.extBut _ _ ne f1, f2⟩
    | some y =>
      have hend := hend.resolve_left (by rw [hy]; exact fun z => by cases z)
      refine wpAny_bind (next_any (((h2.ext r1 (nn (by omega))).ext r2 (nn (by omega))).ext r3 (nn (by omega))) (((q2.ext r1 (nn (by omega))).ext r2 (nn (by omega))).ext r3 (nn (by omega))) hy fun g4 w4 s4 => wpAny_pure ?_)
      have r4 := s4.extBut
      have p4 : IsTri g4 (n + 4) x b c := r4 _ _ (nn (by omega)) p3
      refine wpAny_bind (wpAny_seqItems p4 rfl (wpAny_bind (upd_tri p4 fun g5 p5 s5 => ?_)))
      have r5 := s5.extBut
      refine wpAny_bind (wpAny_letGo (wpAny_pure (wpAny_bind (wpAny_bind (wpAny_onRaise ?_)))))
      show wpAny (model prog w) _ (Builtin.SmallTypes.nextOf (.ref (n + 2)) >>= _) _ _ _
      refine wpAny_bind (next_none hh (((((h3.ext r1 (nn (by omega))).ext r2 (nn (by omega))).ext r3 (nn (by omega))).ext r4 (nn (by omega))).ext r5 (nn (by omega))) (((((q3.ext r1 (nn (by omega))).ext r2 (nn (by omega))).ext r3 (nn (by omega))).ext r4 (nn (by omega))).ext r5 (nn (by omega))) hend fun g6 e r6 he => ?_)
      have hz6 : IsZip g6 (n + 5) (n + 3) (n + 4) .ellipsis := r6 _ _ (nn (by omega)) (r5 _ _ (nn (by omega)) (r4 _ _ (nn (by omega)) hz3))
      have ne := stop _ _ hz6 he
      obtain ⟨oe, f1, f2⟩ := he
      exact wpAny_setField_rec hz6 (by simp) fun g7 _ s7 => hE g7 e (fun c o hc y => s7.extBut _ _ (nn (by omega)) (r6 _ _ (nn (by omega)) (r5 _ _ (nn (by omega)) (r4 _ _ (nn (by omega)) (r3 _ _ (nn (by omega)) (r2 _ _ (nn (by omega)) (r1 _ _ (nn (by omega)) y))))))) ⟨oe, s7.extBut _ _ ne f1, f2⟩
theorem pyNext_zip3 {t u v : Bool} {n l1 l2 l3 : Nat} {k : Nat} {xs ys zs : Array Value} {x y y3 a b c : Value} {Q : Option Value → Shared → Prop} (L1 : l1 < n) (L2 : l2 < n) (L3 : l3 < n) (hz : IsZip s.heap (n + 5) (n + 3) (n + 4) .none) (hTI : IsTri s.heap (n + 3) (.ref n) (.ref (n + 1)) (.ref (n + 2))) (hTO : IsTri s.heap (n + 4) a b c)
    (h1 : AIt t s.heap n l1 k) (h2 : AIt u s.heap (n + 1) l2 k) (h3 : AIt v s.heap (n + 2) l3 k) (q1 : ASq t s.heap l1 xs) (q2 : ASq u s.heap l2 ys) (q3 : ASq v s.heap l3 zs) (hx : xs[k]? = some x) (hy : ys[k]? = some y) (hy3 : zs[k]? = some y3)
    (hQ : ∀ h', IsZip h' (n + 5) (n + 3) (n + 4) (rawInt s.heap.objs.size) → IsTri h' (n + 4) x y y3 → AIt t h' n l1 (k + 1) → AIt u h' (n + 1) l2 (k + 1) → AIt v h' (n + 2) l3 (k + 1) → IsTri h' s.heap.objs.size x y y3 → h'.objs.size = s.heap.objs.size + 1 →
      (∀ (c : Nat) o, c < n ∨ c = n + 3 ∨ n + 5 < c → s.heap.get? c = some o → h'.get? c = some o) → Q (some (.ref s.heap.objs.size)) { s with heap := h' }) : wpAny (model prog w) A (pyNext (.ref (n + 5))) Q E s := by
  have hT : s.TypeIs (.ref (n + 5)) "zip" := ⟨_, hz, rfl⟩
  unfold pyNext
  refine wpAny_bind (wpAny_attempt (wpAny_callSpecial?_slot (name := Str.ofString "__next__") hT F.slot_zip_next (wpAny_call_entry F.slot_zip_next hT F.entry_zip_next ?_ (F.args_zip_next_1 _))))
  exact zip3_item L1 L2 L3 hz hTI hTO h1 h2 h3 q1 q2 q3 hx hy hy3 fun h' a1 a2 a3 a4 a5 a6 a7 a8 => wpAny_pure (hQ h' a1 a2 a3 a4 a5 a6 a7 a8)
theorem pyNext_zip3_end {t u v : Bool} {n l1 l2 l3 : Nat} {k : Nat} {xs ys zs : Array Value} {a b c : Value} {Q : Option Value → Shared → Prop} (hh : A.handled = none) (L1 : l1 < n) (L2 : l2 < n) (L3 : l3 < n) (hz : IsZip s.heap (n + 5) (n + 3) (n + 4) .none) (hTI : IsTri s.heap (n + 3) (.ref n) (.ref (n + 1)) (.ref (n + 2))) (hTO : IsTri s.heap (n + 4) a b c)
    (h1 : AIt t s.heap n l1 k) (h2 : AIt u s.heap (n + 1) l2 k) (h3 : AIt v s.heap (n + 2) l3 k) (q1 : ASq t s.heap l1 xs) (q2 : ASq u s.heap l2 ys) (q3 : ASq v s.heap l3 zs) (hend : xs[k]? = none ∨ ys[k]? = none ∨ zs[k]? = none)
    (hQ : ∀ h', (∀ (c : Nat) o, c < n ∨ c = n + 3 ∨ n + 5 < c → s.heap.get? c = some o → h'.get? c = some o) → Q none { s with heap := h' }) : wpAny (model prog w) A (pyNext (.ref (n + 5))) Q E s := by
  have hT : s.TypeIs (.ref (n + 5)) "zip" := ⟨_, hz, rfl⟩
  unfold pyNext
  refine wpAny_bind (wpAny_attempt (wpAny_callSpecial?_slot (name := Str.ofString "__next__") hT F.slot_zip_next (wpAny_call_entry F.slot_zip_next hT F.entry_zip_next ?_ (F.args_zip_next_1 _))))
  refine zip3_end hh L1 L2 L3 hz hTI hTO h1 h2 h3 q1 q2 q3 hend fun h' e hk he => ?_
  obtain ⟨o, ho, hc⟩ := he
  exact wpAny_bind (wpAny_isInstance (T := "StopIteration") (b := true) ⟨o, ho, hc⟩ isSubtype_stop (wpAny_pure (hQ _ hk)))
end
namespace Z3
theorem typeCall (a b c : Value) : checkTypeCall "zip" ⟨[a, b, c], []⟩ = pure () := by kernel_rfl
theorem newCall (a b c : Value) : checkBuiltinCall "zip.__new__" ⟨[.type "zip", a, b, c], []⟩ = pure () := by kernel_rfl
theorem args_init (a b c d : Value) : argsOk "object.__init__" ⟨[a, b, c, d], []⟩ := by
  unfold argsOk; rw [signature?_of (id := "object.__init__") (n := ['_', '_', 't', 'i', 'n', 'i', '_', '_']) (o := ['t', 'c', 'e', 'j', 'b', 'o']) (by kernel_rfl) F.owner_object]; kernel_rfl
end Z3
theorem pyIter_any {prog : Program} {w : World} {A : Around} {E : Value → Shared → Prop} {s : Shared} {t : Bool} {l : Addr} {xs : Array Value} {Q : Value → Shared → Prop} (h : ASq t s.heap l xs) (hq : Q (.ref s.heap.objs.size) { s with heap := s.heap.push { cls := .type (itN t), data := .fields #[.ref l, .int 0 0] } }) : wpAny (model prog w) A (pyIter (.ref l)) Q E s := by
  cases t
  · exact wpAny_pyIter_list h hq
  · exact wpAny_pyIter_tuple h hq
theorem ASq.push {t : Bool} {h : PySem.Heap} {l : Addr} {xs : Array Value} (q : ASq t h l xs) (o : Obj) : ASq t (h.push o) l xs := by
  cases t
  · exact PySem.Heap.IsList.push q o
  · exact PySem.Heap.IsTuple.push q o
abbrev zC1 (t : Bool) (h : PySem.Heap) (l1 : Addr) : PySem.Heap := h.push { cls := .type (itN t), data := .fields #[.ref l1, .int 0 0] }
abbrev zC2 (t u : Bool) (h : PySem.Heap) (l1 l2 : Addr) : PySem.Heap := (zC1 t h l1).push { cls := .type (itN u), data := .fields #[.ref l2, .int 0 0] }
abbrev zC3 (t u v : Bool) (h : PySem.Heap) (l1 l2 l3 : Addr) : PySem.Heap := (zC2 t u h l1 l2).push { cls := .type (itN v), data := .fields #[.ref l3, .int 0 0] }
abbrev zC4 (t u v : Bool) (h : PySem.Heap) (l1 l2 l3 : Addr) : PySem.Heap := (zC3 t u v h l1 l2 l3).push { cls := .type "tuple", data := .seq #[.ref h.objs.size, .ref (zC1 t h l1).objs.size, .ref (zC2 t u h l1 l2).objs.size] }
abbrev zC5 (t u v : Bool) (h : PySem.Heap) (l1 l2 l3 : Addr) : PySem.Heap := (zC4 t u v h l1 l2 l3).push { cls := .type "tuple", data := .seq #[.none, .none, .none] }
abbrev zC6 (t u v : Bool) (h : PySem.Heap) (l1 l2 l3 : Addr) : PySem.Heap := (zC5 t u v h l1 l2 l3).push { cls := .type "zip", data := .fields #[.none, .bool false, .bool false, .ref (zC3 t u v h l1 l2 l3).objs.size, .ref (zC4 t u v h l1 l2 l3).objs.size] }
theorem meets_z3 (t u v : Bool) (l1 l2 l3 : Addr) (xs ys zs : Array Value) :
    Meets (Builtin.«zip.__new__» ⟨[.type "zip", .ref l1, .ref l2, .ref l3], []⟩) (fun _ R s => ASq t s.heap l1 xs ∧ ASq u s.heap l2 ys ∧ ASq v s.heap l3 zs ∧ R (.ok (.ret (.ref (zC5 t u v s.heap l1 l2 l3).objs.size))) { s with heap := zC6 t u v s.heap l1 l2 l3 }) :=
  .of_wp fun prog w A R s h => by
    obtain ⟨hp, g, d, tk, os⟩ := s; obtain ⟨hl1, hl2, hl3, h⟩ := h
    have hsub := PySem.sub_zip
    have hL1 : ASq t (Shared.heap ⟨hp, g, d, tk, os⟩) l1 xs := hl1
    have hL2 : ASq u (Shared.heap ⟨zC1 t hp l1, g, d, tk, os⟩) l2 ys := hl2.push _
    have hL3 : ASq v (Shared.heap ⟨zC2 t u hp l1 l2, g, d, tk, os⟩) l3 zs := (hl3.push _).push _
    wp_walk using pyIter_any hL1, pyIter_any hL2, pyIter_any hL3
    exact ⟨_, rfl, h⟩
section
variable {prog : Program} {w : World} {A : Around} {E : Value → Shared → Prop} {s : Shared}
theorem z3_stands {t u v : Bool} {h : PySem.Heap} {l1 l2 l3 : Addr} {Q : Value → Shared → Prop} (hq : ∀ h', IsZip h' (h.objs.size + 5) (h.objs.size + 3) (h.objs.size + 4) .none → IsTri h' (h.objs.size + 3) (.ref h.objs.size) (.ref (h.objs.size + 1)) (.ref (h.objs.size + 2)) →
      IsTri h' (h.objs.size + 4) .none .none .none → AIt t h' h.objs.size l1 0 → AIt u h' (h.objs.size + 1) l2 0 → AIt v h' (h.objs.size + 2) l3 0 → (∀ c o, h.get? c = some o → h'.get? c = some o) → Q (.ref (h.objs.size + 5)) { s with heap := h' }) :
    Q (.ref (zC5 t u v h l1 l2 l3).objs.size) { s with heap := zC6 t u v h l1 l2 l3 } := by
  have z1 : (zC1 t h l1).objs.size = h.objs.size + 1 := PySem.Heap.size_push ..
  have z2 : (zC2 t u h l1 l2).objs.size = h.objs.size + 2 := by rw [PySem.Heap.size_push, z1]
  have z3 : (zC3 t u v h l1 l2 l3).objs.size = h.objs.size + 3 := by rw [PySem.Heap.size_push, z2]
  have z4 : (zC4 t u v h l1 l2 l3).objs.size = h.objs.size + 4 := by rw [PySem.Heap.size_push, z3]
  have z5 : (zC5 t u v h l1 l2 l3).objs.size = h.objs.size + 5 := by rw [PySem.Heap.size_push, z4]
  have up : ∀ {g : PySem.Heap} {c : Addr} {o p : Obj}, g.get? c = some o → (g.push p).get? c = some o := fun e => PySem.Heap.get?_push_of_some _ e
  have g6 : (zC6 t u v h l1 l2 l3).get? (zC5 t u v h l1 l2 l3).objs.size = some _ := PySem.Heap.get?_push_size _ rfl
  have g5 : (zC6 t u v h l1 l2 l3).get? (zC4 t u v h l1 l2 l3).objs.size = some _ := up (PySem.Heap.get?_push_size _ rfl)
  have g4 : (zC6 t u v h l1 l2 l3).get? (zC3 t u v h l1 l2 l3).objs.size = some _ := up (up (PySem.Heap.get?_push_size _ rfl))
  have g3 : (zC6 t u v h l1 l2 l3).get? (zC2 t u h l1 l2).objs.size = some _ := up (up (up (PySem.Heap.get?_push_size _ rfl)))
  have g2 : (zC6 t u v h l1 l2 l3).get? (zC1 t h l1).objs.size = some _ := up (up (up (up (PySem.Heap.get?_push_size _ rfl))))
  have g1 : (zC6 t u v h l1 l2 l3).get? h.objs.size = some _ := up (up (up (up (up (PySem.Heap.get?_push_size _ rfl)))))
  rw [z5, z3, z4] at g6
  rw [z4] at g5
  rw [z3, z1, z2] at g4
  rw [z2] at g3
  rw [z1] at g2
  rw [z5]
  refine hq _ g6 g4 g5 ?_ ?_ ?_ fun c o x => up (up (up (up (up (up x)))))
  · cases t
    · exact ⟨_, g1, rfl, rfl⟩
    · exact ⟨_, g1, rfl, rfl⟩
  · cases u
    · exact ⟨_, g2, rfl, rfl⟩
    · exact ⟨_, g2, rfl, rfl⟩
  · cases v
    · exact ⟨_, g3, rfl, rfl⟩
    · exact ⟨_, g3, rfl, rfl⟩
theorem call_z3 {t u v : Bool} {l1 l2 l3 : Addr} {xs ys zs : Array Value} {Q : Value → Shared → Prop} (hl1 : ASq t s.heap l1 xs) (hl2 : ASq u s.heap l2 ys) (hl3 : ASq v s.heap l3 zs)
    (hq : ∀ h', IsZip h' (s.heap.objs.size + 5) (s.heap.objs.size + 3) (s.heap.objs.size + 4) .none → IsTri h' (s.heap.objs.size + 3) (.ref s.heap.objs.size) (.ref (s.heap.objs.size + 1)) (.ref (s.heap.objs.size + 2)) →
      IsTri h' (s.heap.objs.size + 4) .none .none .none → AIt t h' s.heap.objs.size l1 0 → AIt u h' (s.heap.objs.size + 1) l2 0 → AIt v h' (s.heap.objs.size + 2) l3 0 → (∀ c o, s.heap.get? c = some o → h'.get? c = some o) → Q (.ref (s.heap.objs.size + 5)) { s with heap := h' }) :
    wpAny (model prog w) A (PySem.call (.type "zip") [.ref l1, .ref l2, .ref l3]) Q E s := by
  refine callType_new F.called_zip (by decide) (Z3.typeCall _ _ _) (Z3.newCall _ _ _) (fun obj => Z3.args_init obj _ _ _) F.entry_zip_new (meets_z3 t u v l1 l2 l3 xs ys zs) ⟨hl1, hl2, hl3, ?_⟩
  exact ⟨⟨_, PySem.Heap.get?_push_size _ rfl, rfl⟩, z3_stands hq⟩
end
/-! ## the turn -/
def Itz3 (t u v : Bool) (K : PySem.W.Frag) (a b c : Addr) : L2.It :=
  ⟨fun i H => ∃ (xs ys zs : List V) (x y z : V), SqA t K H a xs ∧ SqA u K H b ys ∧ SqA v K H c zs ∧ xs[i]? = some x ∧ ys[i]? = some y ∧ zs[i]? = some z,
    fun i H w H' => ∃ T x y z, w = .ref T ∧ H T = none ∧ H' = upd H T (.tup [x, y, z]) ∧ (∀ xs, SqA t K H a xs → xs[i]? = some x) ∧ (∀ ys, SqA u K H b ys → ys[i]? = some y) ∧ ∀ zs, SqA v K H c zs → zs[i]? = some z,
    fun i H => ∃ xs ys zs : List V, SqA t K H a xs ∧ SqA u K H b ys ∧ SqA v K H c zs ∧ (xs.length ≤ i ∨ ys.length ≤ i ∨ zs.length ≤ i)⟩
theorem turn_z3 {t u v : Bool} {P : Program} {w : World} {K : PySem.W.Frag} {elts : List Expr} {kk : Nat} {tpos : Pos} {a b c n : Nat} (L1 : a < n) (L2 : b < n) (L3 : c < n) :
    Turn P w K (.Tuple elts kk tpos) (Itz3 t u v K a b c) [n + 5, n + 3, n + 4, n, n + 1, n + 2] (n + 5) (fun i h => IsZip h (n + 5) (n + 3) (n + 4) .none ∧ IsTri h (n + 3) (.ref n) (.ref (n + 1)) (.ref (n + 2)) ∧ (∃ x y z, IsTri h (n + 4) x y z) ∧ AIt t h n a i ∧ AIt u h (n + 1) b i ∧ AIt v h (n + 2) c i) where
  mem := by simp
  obj := fun i h ⟨hz, hTI, ⟨x, y, z, hTO⟩, h1, h2, h3⟩ e hc => by
    have e' : e = n + 5 ∨ e = n + 3 ∨ e = n + 4 ∨ e = n ∨ e = n + 1 ∨ e = n + 2 := by simpa using hc
    rcases e' with rfl | rfl | rfl | rfl | rfl | rfl
    · exact ⟨_, hz, fun v q => nomatch q⟩
    · exact ⟨_, hTI, fun v q => nomatch q⟩
    · exact ⟨_, hTO, fun v q => nomatch q⟩
    · cases t
      · obtain ⟨o1, e1, _, d1⟩ := h1; exact ⟨o1, e1, fun v q => by rw [d1] at q; cases q⟩
      · obtain ⟨o1, e1, _, d1⟩ := h1; exact ⟨o1, e1, fun v q => by rw [d1] at q; cases q⟩
    · cases u
      · obtain ⟨o1, e1, _, d1⟩ := h2; exact ⟨o1, e1, fun v q => by rw [d1] at q; cases q⟩
      · obtain ⟨o1, e1, _, d1⟩ := h2; exact ⟨o1, e1, fun v q => by rw [d1] at q; cases q⟩
    · cases v
      · obtain ⟨o1, e1, _, d1⟩ := h3; exact ⟨o1, e1, fun v q => by rw [d1] at q; cases q⟩
      · obtain ⟨o1, e1, _, d1⟩ := h3; exact ⟨o1, e1, fun v q => by rw [d1] at q; cases q⟩
  keep := fun i h h' ⟨hz, hTI, ⟨x, y, z, hTO⟩, h1, h2, h3⟩ k => ⟨k (n + 5) (by simp) _ hz, k (n + 3) (by simp) _ hTI, ⟨x, y, z, k (n + 4) (by simp) _ hTO⟩, h1.to fun o q => k n (by simp) o q, h2.to fun o q => k (n + 1) (by simp) o q, h3.to fun o q => k (n + 2) (by simp) o q⟩
  item := by
    intro X hP hw hK hc i pins s σ H E I hf st hg
    subst hP; subst hw; subst hK
    obtain ⟨hz, hTI, ⟨x0, y0, z0, hTO⟩, h1, h2, h3⟩ := st
    obtain ⟨xs, ys, zs, x, y, z, hqx, hqy, hqz, hx, hy, hzz⟩ := hg
    obtain ⟨its, rv, p⟩ := sqA_at I hqx
    obtain ⟨its2, rv2, p2⟩ := sqA_at I hqy
    obtain ⟨its3, rv3, p3⟩ := sqA_at I hqz
    obtain ⟨b1, hb1, rb1⟩ := rv.get hx
    obtain ⟨b2, hb2, rb2⟩ := rv2.get hy
    obtain ⟨b3, hb3, rb3⟩ := rv3.get hzz
    have hzl : n + 5 < s.heap.objs.size := PySem.Heap.lt_size hz
    refine pyNext_zip3 L1 L2 L3 hz hTI hTO h1 h2 h3 p p2 p3 (x := b1) (y := b2) (y3 := b3) (by simpa using hb1) (by simpa using hb2) (by simpa using hb3) fun h' z' TO' h1' h2' h3' hT hsz hk => ?_
    refine ⟨_, rfl, wpAny_letOwnedTupleGo_zip (s := { s with heap := h' }) z' fun h'' z'' sb => ?_⟩
    have hT2 : h''.get? s.heap.objs.size = some { cls := .type "tuple", data := .seq #[b1, b2, b3] } := (sb.2 _ (Nat.ne_of_gt hzl)).trans hT
    have new : ObjOk X.prog X.w (upd H s.heap.objs.size (.tup [x, y, z])) h'' s.heap.objs.size (.tup [x, y, z]) := ⟨by show 3 ≤ sizeLine; decide, [b1, b2, b3], .cons rb1 (.cons rb2 (.cons rb3 .nil)), ⟨_, hT2, rfl, _, rfl⟩⟩
    have kk2 : ∀ (c : Nat) o, c ∉ [n + 5, n + 3, n + 4, n, n + 1, n + 2] → s.heap.get? c = some o → h''.get? c = some o := fun c o hb q => by
      simp only [List.mem_cons, List.not_mem_nil, or_false, not_or] at hb
      obtain ⟨b1, b2, b3, b4, b5, b6⟩ := hb
      exact (sb.2 c b1).trans (hk c o (by have b1 := nn b1; have b2 := nn b2; have b3 := nn b3; have b4 := nn b4; have b5 := nn b5; have b6 := nn b6; omega) q)
    have I1 : Inv X pins σ (upd H s.heap.objs.size (.tup [x, y, z])) { s with heap := h'' } := I.turnedNew (t' := s.toks) (ch := [n + 5, n + 3, n + 4, n, n + 1, n + 2]) kk2 hf (Nat.le_refl _) new
    refine ⟨.ref s.heap.objs.size, _, I1, rfl, ⟨_, x, y, z, rfl, I.hok.fresh (Nat.le_refl _), rfl, fun l hl => by rw [sqA_inj I hl hqx]; exact hx, fun l hl => by rw [sqA_inj I hl hqy]; exact hy, fun l hl => by rw [sqA_inj I hl hqz]; exact hzz⟩, ⟨z'', ?_, ⟨b1, b2, b3, ?_⟩, ?_, ?_, ?_⟩, fun c hcm => ?_⟩
    · exact (sb.2 _ (nn (by omega))).trans (hk _ _ (by omega) hTI)
    · exact (sb.2 _ (nn (by omega))).trans TO'
    · exact h1'.to fun o q => (sb.2 _ (nn (by omega))).trans q
    · exact h2'.to fun o q => (sb.2 _ (nn (by omega))).trans q
    · exact h3'.to fun o q => (sb.2 _ (nn (by omega))).trans q
    · have hlt : c < s.heap.objs.size := by
        have e' : c = n + 5 ∨ c = n + 3 ∨ c = n + 4 ∨ c = n ∨ c = n + 1 ∨ c = n + 2 := by simpa using hcm
        have hzl2 : n + 5 < s.heap.objs.size := hzl
        rcases e' with q | q | q | q | q | q <;> rw [q]
        · exact hzl
        · exact Nat.lt_trans (Nat.add_lt_add_left (by decide) n) hzl2
        · exact Nat.lt_trans (Nat.add_lt_add_left (by decide) n) hzl2
        · exact Nat.lt_of_le_of_lt (Nat.le_add_right n 5) hzl2
        · exact Nat.lt_trans (Nat.add_lt_add_left (by decide) n) hzl2
        · exact Nat.lt_trans (Nat.add_lt_add_left (by decide) n) hzl2
      rw [upd_ne (Nat.ne_of_lt hlt)]
      exact (hf c hcm).1
  done := by
    intro X hP hw hK hc i pins s σ H E I hf st hg
    subst hP; subst hw; subst hK
    obtain ⟨hz, hTI, ⟨x0, y0, z0, hTO⟩, h1, h2, h3⟩ := st
    obtain ⟨xs, ys, zs, hqx, hqy, hqz, hend⟩ := hg
    obtain ⟨its, rv, p⟩ := sqA_at I hqx
    obtain ⟨its2, rv2, p2⟩ := sqA_at I hqy
    obtain ⟨its3, rv3, p3⟩ := sqA_at I hqz
    have g1 := rv.length
    have g2 := rv2.length
    have g3 := rv3.length
    have he : its.toArray[i]? = none ∨ its2.toArray[i]? = none ∨ its3.toArray[i]? = none := by
      rcases hend with q | q | q
      · left; simp; omega
      · right; left; simp; omega
      · right; right; simp; omega
    refine pyNext_zip3_end (I.ok.hd hc) L1 L2 L3 hz hTI hTO h1 h2 h3 p p2 p3 he fun h' hk => ⟨rfl, I.turnedL (t' := s.toks) (ch := [n + 5, n + 3, n + 4, n, n + 1, n + 2]) (fun (c : Nat) o hb q => ?_) hf⟩
    simp only [List.mem_cons, List.not_mem_nil, or_false, not_or] at hb
    obtain ⟨b1, b2, b3, b4, b5, b6⟩ := hb
    exact hk c o (by have b1 := nn b1; have b2 := nn b2; have b3 := nn b3; have b4 := nn b4; have b5 := nn b5; have b6 := nn b6; omega) q
  self := fun A i s Q E st h => wpAny_pyIter_zip st.1 h
/-! ## the rule -/
def iZip3 (K : PySem.W.Frag) (ta : TA) : TI := fun σ H R => ta σ H fun vs H1 => ∃ t u v a b c xs ys zs, vs = [.ref a, .ref b, .ref c] ∧ SqA t K H1 a xs ∧ SqA u K H1 b ys ∧ SqA v K H1 c zs ∧ R (Itz3 t u v K a b c) H1
theorem pi_zip3 {X : Cx} {e e2 e3 : Expr} {ta : TA} {p pos tpos : Pos} {elts : List Expr} {kk : Nat} (hg : Gl X "zip") (hm : X.mg "zip" = none) (ha : PA X [e, e2, e3] ta)
    (hs : starEach [e, e2, e3] X.env = (false, eval e X.env) :: starEach [e2, e3] X.env := by rfl) (hpl : (backTo pos (starEach [e2, e3] X.env)).any (·.1) = false := by rfl) :
    PI X (.Tuple elts kk tpos) (.Call (.Name "zip" p) [e, e2, e3] [] pos) (iZip3 X.K ta) := by
  refine ⟨fun pins s σ H R I h => ?_⟩
  refine Call_ (ld_blt I hg hm PyProof.Rows.boot_zip (PyProof.Rows.callWith_type1 (thn (ha.run pos pins s σ H _ I h) fun us s1 ⟨vs, H1, I1, r1, q1⟩ => ?_) hs hpl))
  obtain ⟨t, u, v, a, b, c, xs, ys, zs, ex, hqx, hqy, hqz, q⟩ := q1
  subst ex
  obtain ⟨u1, u2, u3, rfl, r, r', r''⟩ : ∃ u1 u2 u3, us = [u1, u2, u3] ∧ RelV (.ref a) u1 ∧ RelV (.ref b) u2 ∧ RelV (.ref c) u3 := by
    cases r1 with
    | cons r rr =>
      cases rr with
      | cons r' rr =>
        cases rr with
        | cons r'' rr =>
          cases rr
          exact ⟨_, _, _, rfl, r, r', r''⟩
  cases r
  cases r'
  cases r''
  have fresh6 : ∀ c, c ∈ [s1.heap.objs.size + 5, s1.heap.objs.size + 3, s1.heap.objs.size + 4, s1.heap.objs.size, s1.heap.objs.size + 1, s1.heap.objs.size + 2] → FpOk X pins H1 c := fun c hcm => by
    have hle : s1.heap.objs.size ≤ c := by
      simp only [List.mem_cons, List.not_mem_nil, or_false] at hcm
      rcases hcm with z | z | z | z | z | z <;> rw [z] <;> first | exact Nat.le_refl _ | exact Nat.le_add_right _ _
    exact I1.fpOk hle (I1.hok.fresh hle)
  obtain ⟨its, rv, p1⟩ := sqA_at I1 hqx
  obtain ⟨its2, rv2, p2⟩ := sqA_at I1 hqy
  obtain ⟨its3, rv3, p3⟩ := sqA_at I1 hqz
  have lt : ∀ {t : Bool} {l : Addr} {xs : Array Value}, ASq t s1.heap l xs → l < s1.heap.objs.size := fun {t l xs} q => by
    cases t
    · obtain ⟨o, ho, _⟩ := id q; exact PySem.Heap.lt_size ho
    · obtain ⟨o, ho, _⟩ := id q; exact PySem.Heap.lt_size ho
  exact call_z3 p1 p2 p3 fun h' hz hTI hTO h1 h2 h3 hk => wpAny_pyIter_zip hz
    ⟨s1.heap.objs.size + 5, [s1.heap.objs.size + 5, s1.heap.objs.size + 3, s1.heap.objs.size + 4, s1.heap.objs.size, s1.heap.objs.size + 1, s1.heap.objs.size + 2], _, _, H1, rfl, I1.kept (t' := s1.toks) hk, turn_z3 (lt p1) (lt p2) (lt p3), ⟨hz, hTI, ⟨_, _, _, hTO⟩, h1, h2, h3⟩, fresh6, q⟩
end Mi


/-! # Mi5W: list(zip(a, b)), at the library's level. The zip's parts stand at n, .. n + 4; its tuples stay. -/
namespace Mi
open PySem PySem.Spec PyProof.Rows L2
section
variable {prog : Program} {w : World} {A : Around} {E : Value → Shared → Prop} {s : Shared}
/-- next, while the tuple that was given out before is there -/
theorem zh_item {t u f : Bool} {n T l1 l2 : Nat} {oT : Obj} {k : Nat} {xs ys : Array Value} {x y : Value} {Q : Value → Shared → Prop} (L1 : l1 < n) (L2 : l2 < n) (hz : IsZipHeld s.heap (n + 4) (n + 2) (n + 3) T f) (hT : s.heap.get? T = some oT) (hTI : IsPair s.heap (n + 2) (.ref n) (.ref (n + 1)))
    (h1 : AIt t s.heap n l1 k) (h2 : AIt u s.heap (n + 1) l2 k) (q1 : ASq t s.heap l1 xs) (q2 : ASq u s.heap l2 ys) (hx : xs[k]? = some x) (hy : ys[k]? = some y)
    (hQ : ∀ h', IsZipHeld h' (n + 4) (n + 2) (n + 3) T true → AIt t h' n l1 (k + 1) → AIt u h' (n + 1) l2 (k + 1) → IsPair h' s.heap.objs.size x y → h'.objs.size = s.heap.objs.size + 1 →
      (∀ (c : Nat) o, c ≠ n + 4 → c ≠ n → c ≠ n + 1 → s.heap.get? c = some o → h'.get? c = some o) → Q (.ref s.heap.objs.size) { s with heap := h' }) :
    wpAny (model prog w) A (Builtin.«zip.__next__» ⟨[.ref (n + 4)], []⟩) (fun fin s' => ∃ v, fin = .done (.ret v) ∧ Q v s') E s := by
  show wpAny _ _ (field (.ref (n + 4)) 2 >>= _) _ _ _
  refine wpAny_bind (wpAny_field hz rfl (x := .bool false) rfl ?_)
  show wpAny _ _ (field (.ref (n + 4)) 3 >>= _) _ _ _
  refine wpAny_bind (wpAny_field hz rfl (x := .ref (n + 2)) rfl ?_)
  refine wpAny_bind (wpAny_seqItems hTI rfl ?_)
  show wpAny _ _ (Builtin.SmallTypes.ownedTupleIsFree (.ref (n + 4)) >>= _) _ _ _
  refine wpAny_bind (wpAny_tupleHeld_zip hz hT fun g1 hz1 s1 => ?_)
  have r1 := s1.extBut
  simp only [Bool.false_eq_true, if_false]
  refine wpAny_bind ?_
  rw [← Array.forIn_toList]
  simp only [List.forIn_cons, List.forIn_nil]
  refine wpAny_bind (wpAny_bind (wpAny_holding ?_))
  show wpAny _ _ (Builtin.SmallTypes.nextOf (.ref n) >>= _) _ _ _
  refine wpAny_bind (next_any (s := { s with heap := g1 }) (h1.ext r1 (nn (by omega))) (q1.ext r1 (nn (by omega))) hx fun g2 w2 s2 => wpAny_pure ?_)
  have r2 := s2.extBut
  refine wpAny_pure ?_
  refine wpAny_bind (wpAny_bind (wpAny_holding ?_))
  show wpAny _ _ (Builtin.SmallTypes.nextOf (.ref (n + 1)) >>= _) _ _ _
  refine wpAny_bind (next_any (s := { s with heap := g2 }) ((h2.ext r1 (nn (by omega))).ext r2 (nn (by omega))) ((q2.ext r1 (nn (by omega))).ext r2 (nn (by omega))) hy fun g3 w3 s3 => wpAny_pure ?_)
  have r3 := s3.extBut
  refine wpAny_pure (wpAny_pure ?_)
  show wpAny _ _ (newTuple [x, y] >>= _) _ _ _
  refine wpAny_bind (wpAny_newTuple ?_)
  have e3 : g3.objs.size = s.heap.objs.size := by rw [s3.1, s2.1, s1.1]
  have hz3 : IsZipHeld g3 (n + 4) (n + 2) (n + 3) T true := r3 _ _ (nn (by omega)) (r2 _ _ (nn (by omega)) hz1)
  have hk : ∀ (c : Nat) o, c ≠ n + 4 → c ≠ n → c ≠ n + 1 → s.heap.get? c = some o → g3.get? c = some o := fun c o c1 c2 c3 e => r3 _ _ c3 (r2 _ _ c2 (r1 _ _ c1 e))
  have v1 : AIt t g3 n l1 (k + 1) := w2.ext r3 (nn (by omega))
  refine wpAny_pure ⟨_, rfl, ?_⟩
  show Q (.ref g3.objs.size) _
  have hp : IsPair (g3.push { cls := .type "tuple", data := .seq #[x, y] }) g3.objs.size x y := PySem.Heap.get?_push_size _ rfl
  have hz4 : (g3.push { cls := .type "tuple", data := .seq #[x, y] }).objs.size = g3.objs.size + 1 := PySem.Heap.size_push ..
  rw [e3] at hp hz4 ⊢
  exact hQ _ (PySem.Heap.get?_push_of_some _ hz3) (v1.to fun o e => PySem.Heap.get?_push_of_some _ e) (w3.to fun o e => PySem.Heap.get?_push_of_some _ e) hp hz4 fun c o c1 c2 c3 e => PySem.Heap.get?_push_of_some _ (hk c o c1 c2 c3 e)
theorem zh_end {t u f : Bool} {n T l1 l2 : Nat} {oT : Obj} {k : Nat} {xs ys : Array Value} {Q : Fin → Shared → Prop} (hh : A.handled = none) (L1 : l1 < n) (L2 : l2 < n) (hz : IsZipHeld s.heap (n + 4) (n + 2) (n + 3) T f) (hT : s.heap.get? T = some oT) (hTI : IsPair s.heap (n + 2) (.ref n) (.ref (n + 1)))
    (h1 : AIt t s.heap n l1 k) (h2 : AIt u s.heap (n + 1) l2 k) (q1 : ASq t s.heap l1 xs) (q2 : ASq u s.heap l2 ys) (hend : xs[k]? = none ∨ ys[k]? = none)
    (hE : ∀ h' e, (∀ (c : Nat) o, c ≠ n + 4 → c ≠ n → c ≠ n + 1 → s.heap.get? c = some o → h'.get? c = some o) → (∃ o, h'.get? e = some o ∧ o.cls = .type "StopIteration") → E (.ref e) { s with heap := h' }) :
    wpAny (model prog w) A (Builtin.«zip.__next__» ⟨[.ref (n + 4)], []⟩) Q E s := by
  show wpAny _ _ (field (.ref (n + 4)) 2 >>= _) _ _ _
  refine wpAny_bind (wpAny_field hz rfl (x := .bool false) rfl ?_)
  show wpAny _ _ (field (.ref (n + 4)) 3 >>= _) _ _ _
  refine wpAny_bind (wpAny_field hz rfl (x := .ref (n + 2)) rfl ?_)
  refine wpAny_bind (wpAny_seqItems hTI rfl ?_)
  show wpAny _ _ (Builtin.SmallTypes.ownedTupleIsFree (.ref (n + 4)) >>= _) _ _ _
  refine wpAny_bind (wpAny_tupleHeld_zip hz hT fun g1 hz1 s1 => ?_)
  have r1 := s1.extBut
  simp only [Bool.false_eq_true, if_false]
  refine wpAny_bind ?_
  rw [← Array.forIn_toList]
  simp only [List.forIn_cons, List.forIn_nil]
  refine wpAny_bind (wpAny_bind (wpAny_holding ?_))
  show wpAny _ _ (Builtin.SmallTypes.nextOf (.ref n) >>= _) _ _ _
  cases hx : xs[k]? with
  | none =>
    refine wpAny_bind (next_none (s := { s with heap := g1 }) hh (h1.ext r1 (nn (by omega))) (q1.ext r1 (nn (by omega))) hx fun g2 e s2 he => ?_)
    exact hE g2 e (fun c o c1 c2 _ x => s2 _ _ c2 (r1 _ _ c1 x)) he
  | some x =>
    have hy : ys[k]? = none := hend.resolve_left (by rw [hx]; exact fun z => by cases z)
    refine wpAny_bind (next_any (s := { s with heap := g1 }) (h1.ext r1 (nn (by omega))) (q1.ext r1 (nn (by omega))) hx fun g2 w2 s2 => wpAny_pure ?_)
    have r2 := s2.extBut
    refine wpAny_pure ?_
    refine wpAny_bind (wpAny_bind (wpAny_holding ?_))
    show wpAny _ _ (Builtin.SmallTypes.nextOf (.ref (n + 1)) >>= _) _ _ _
    refine wpAny_bind (next_none (s := { s with heap := g2 }) hh ((h2.ext r1 (nn (by omega))).ext r2 (nn (by omega))) ((q2.ext r1 (nn (by omega))).ext r2 (nn (by omega))) hy fun g3 e s3 he => ?_)
    exact hE g3 e (fun c o c1 c2 c3 x => s3 _ _ c3 (r2 _ _ c2 (r1 _ _ c1 x))) he
/-- where the zip stands while the list S grows -/
def ZSt (t u : Bool) (n l1 l2 : Nat) (xs ys : Array Value) (S : Nat) (h : PySem.Heap) (i : Nat) : Prop :=
  IsPair h (n + 2) (.ref n) (.ref (n + 1)) ∧ AIt t h n l1 i ∧ AIt u h (n + 1) l2 i ∧ ASq t h l1 xs ∧ ASq u h l2 ys ∧
  ((IsZip h (n + 4) (n + 2) (n + 3) .none ∧ ∃ a b, IsPair h (n + 3) a b) ∨ ∃ T f oT, IsZipHeld h (n + 4) (n + 2) (n + 3) T f ∧ h.get? T = some oT ∧ S < T)
theorem ASq.to {t : Bool} {h h' : PySem.Heap} {l : Addr} {xs : Array Value} (x : ASq t h l xs) (f : ∀ o, h.get? l = some o → h'.get? l = some o) : ASq t h' l xs := by
  cases t
  · exact PySem.Heap.IsList.at x f
  · exact PySem.Heap.IsTuple.at x f
theorem ZSt.keep {t u : Bool} {n l1 l2 S i : Nat} {xs ys : Array Value} {h h' : PySem.Heap} (L1 : l1 < n) (L2 : l2 < n) (hS : n + 5 ≤ S) (x : ZSt t u n l1 l2 xs ys S h i) (k : ∀ (b : Nat) o, b ≠ S → h.get? b = some o → h'.get? b = some o) : ZSt t u n l1 l2 xs ys S h' i := by
  obtain ⟨a1, a2, a3, a4, a5, a6⟩ := x
  refine ⟨k _ _ (by omega) a1, a2.to fun o e => k _ o (by omega) e, a3.to fun o e => k _ o (by omega) e, a4.to fun o e => k _ o (by omega) e, a5.to fun o e => k _ o (by omega) e, ?_⟩
  rcases a6 with ⟨z, a, b, p⟩ | ⟨T, f, oT, z, p, lt⟩
  · exact .inl ⟨k _ _ (by omega) z, a, b, k _ _ (by omega) p⟩
  · exact .inr ⟨T, f, oT, k _ _ (by omega) z, k _ _ (Nat.ne_of_gt lt) p, lt⟩
theorem zs_item {t u : Bool} {n l1 l2 S i : Nat} {xs ys : Array Value} {x y : Value} {Q : Option Value → Shared → Prop} (L1 : l1 < n) (L2 : l2 < n) (hS : n + 5 ≤ S) (hSl : S < s.heap.objs.size) (st : ZSt t u n l1 l2 xs ys S s.heap i) (hx : xs[i]? = some x) (hy : ys[i]? = some y)
    (hQ : ∀ h', ZSt t u n l1 l2 xs ys S h' (i + 1) → IsPair h' s.heap.objs.size x y → h'.objs.size = s.heap.objs.size + 1 → (∀ (b : Nat) o, b < n ∨ n + 5 ≤ b → s.heap.get? b = some o → h'.get? b = some o) → Q (some (.ref s.heap.objs.size)) { s with heap := h' }) :
    wpAny (model prog w) A (pyNext (.ref (n + 4))) Q E s := by
  obtain ⟨a1, a2, a3, a4, a5, a6⟩ := st
  rcases a6 with ⟨z, a, b, p⟩ | ⟨T, f, oT, z, p, lt⟩
  · have D : ZipApart (n + 4) (n + 2) (n + 3) n (n + 1) l1 l2 := by constructor <;> exact nn (by omega)
    refine pyNext_zipA D z a1 p a2 a3 a4 a5 hx hy fun h' b1 b2 b3 b4 b5 b6 b7 => ?_
    have k : ∀ (b : Nat) o, b < n ∨ n + 5 ≤ b → s.heap.get? b = some o → h'.get? b = some o := fun b o hb e => b7 b o (nn (by omega)) (nn (by omega)) (nn (by omega)) (nn (by omega)) e
    exact hQ h' ⟨b7 _ _ (nn (by omega)) (nn (by omega)) (nn (by omega)) (nn (by omega)) a1, b3, b4, a4.to fun o e => k _ o (.inl L1) e, a5.to fun o e => k _ o (.inl L2) e, .inr ⟨s.heap.objs.size, false, _, b1, b5, hSl⟩⟩ b5 b6 k
  · have hTy : s.TypeIs (.ref (n + 4)) "zip" := ⟨_, z, rfl⟩
    unfold pyNext
    refine wpAny_bind (wpAny_attempt (wpAny_callSpecial?_slot (name := Str.ofString "__next__") hTy F.slot_zip_next (wpAny_call_entry F.slot_zip_next hTy F.entry_zip_next ?_ (F.args_zip_next_1 _))))
    refine zh_item L1 L2 z p a1 a2 a3 a4 a5 hx hy fun h' b1 b3 b4 b5 b6 b7 => wpAny_pure ?_
    have k : ∀ (b : Nat) o, b < n ∨ n + 5 ≤ b → s.heap.get? b = some o → h'.get? b = some o := fun b o hb e => b7 b o (by omega) (by omega) (by omega) e
    exact hQ h' ⟨b7 _ _ (by omega) (by omega) (by omega) a1, b3, b4, a4.to fun o e => k _ o (.inl L1) e, a5.to fun o e => k _ o (.inl L2) e, .inr ⟨T, true, oT, b1, k T _ (.inr (by omega)) p, lt⟩⟩ b5 b6 k
theorem zs_done {t u : Bool} {n l1 l2 S i : Nat} {xs ys : Array Value} {Q : Option Value → Shared → Prop} (hh : A.handled = none) (L1 : l1 < n) (L2 : l2 < n) (st : ZSt t u n l1 l2 xs ys S s.heap i) (hend : xs[i]? = none ∨ ys[i]? = none)
    (hQ : ∀ h', (∀ (b : Nat) o, b < n ∨ n + 5 ≤ b → s.heap.get? b = some o → h'.get? b = some o) → Q none { s with heap := h' }) : wpAny (model prog w) A (pyNext (.ref (n + 4))) Q E s := by
  obtain ⟨a1, a2, a3, a4, a5, a6⟩ := st
  rcases a6 with ⟨z, a, b, p⟩ | ⟨T, f, oT, z, p, lt⟩
  · have D : ZipApart (n + 4) (n + 2) (n + 3) n (n + 1) l1 l2 := by constructor <;> exact nn (by omega)
    exact pyNext_zipA_end hh D z a1 p a2 a3 a4 a5 hend fun h' b7 => hQ h' fun b o hb e => b7 b o (nn (by omega)) (nn (by omega)) (nn (by omega)) (nn (by omega)) e
  · have hTy : s.TypeIs (.ref (n + 4)) "zip" := ⟨_, z, rfl⟩
    unfold pyNext
    refine wpAny_bind (wpAny_attempt (wpAny_callSpecial?_slot (name := Str.ofString "__next__") hTy F.slot_zip_next (wpAny_call_entry F.slot_zip_next hTy F.entry_zip_next ?_ (F.args_zip_next_1 _))))
    refine zh_end hh L1 L2 z p a1 a2 a3 a4 a5 hend fun h' e hk he => ?_
    obtain ⟨o, ho, hc⟩ := he
    exact wpAny_bind (wpAny_isInstance (T := "StopIteration") (b := true) ⟨o, ho, hc⟩ isSubtype_stop (wpAny_pure (hQ _ fun b o hb e => hk b o (by omega) (by omega) (by omega) e)))
/-- the pairs that were made -/
structure ZG (xs ys : Array Value) (lo : Nat) (h : PySem.Heap) (as : List Nat) : Prop where
  rise : as.Pairwise (· < ·)
  above : ∀ a ∈ as, lo < a
  pairs : ∀ (j : Nat) (a : Nat), as[j]? = some a → ∃ x y, xs[j]? = some x ∧ ys[j]? = some y ∧ IsPair h a x y
theorem ZG.there {xs ys : Array Value} {lo : Nat} {h : PySem.Heap} {as : List Nat} (g : ZG xs ys lo h as) {a : Nat} (ha : a ∈ as) : a < h.objs.size := by
  obtain ⟨j, hj⟩ := List.mem_iff_getElem?.mp ha
  obtain ⟨_, _, _, _, e⟩ := g.pairs j a hj
  exact PySem.Heap.lt_size e
end
section
variable {prog : Program} {w : World} {A : Around} {s : Shared} {R : Result → Shared → Prop} {t u : Bool} {n l1 l2 S : Nat} {xs ys : Array Value}
abbrev zmin (xs ys : Array Value) : Nat := min xs.size ys.size
theorem zs_loop (hh : A.handled = none) (L1 : l1 < n) (L2 : l2 < n) (hnS : n + 5 ≤ S) (hn : zmin xs ys ≤ sizeLine) (res : Value) {h₁ : PySem.Heap}
    (hR : ∀ h' tk acc c as, (∀ (b : Nat) o, b < n ∨ (n + 5 ≤ b ∧ b ≠ S) → h₁.get? b = some o → h'.get? b = some o) → h'.get? S = some { cls := .type "list", dict := none, data := .seq acc c, slots := #[] } → as.length = zmin xs ys → ZG xs ys S h' as →
      acc.toList = as.map Value.ref → R (.ok (.ret res)) { s with heap := h', toks := tk }) :
    ∀ (k i : Nat) (h : PySem.Heap) (tk c : Nat) (acc : Array Value) (as : List Nat), zmin xs ys - i = k → i ≤ zmin xs ys → ZSt t u n l1 l2 xs ys S h i → (∀ (b : Nat) o, b < n ∨ (n + 5 ≤ b ∧ b ≠ S) → h₁.get? b = some o → h.get? b = some o) →
      h.get? S = some { cls := .type "list", dict := none, data := .seq acc c, slots := #[] } → acc.toList = as.map Value.ref → as.length = i → ZG xs ys S h as →
      codeAny (model prog w) A (.builtin "list.extend.loop" ⟨[.ref S, .ref (n + 4), res], []⟩) R { s with heap := h, toks := tk } := by
  intro k
  induction k with
  | zero =>
    intro i h tk c acc as hk hi hst hkeep hS hacc hal hG
    have hin : i = zmin xs ys := by omega
    have hm : zmin xs ys = min xs.size ys.size := rfl
    refine codeAny_builtin PySem.F.entry_extend_loop ?_
    rw [Around.under_plainId PySem.F.plain_extend_loop _]
    show wpAny _ A.in1 (pyNext (.ref (n + 4)) >>= _) _ _ _
    refine wpAny_bind (zs_done (s := { s with heap := h, toks := tk }) (A := A.in1) hh L1 L2 hst ?_ fun h' he => ?_)
    · rcases Nat.le_total xs.size ys.size with z | z
      · left; rw [hin]; exact Array.getElem?_eq_none (by omega)
      · right; rw [hin]; exact Array.getElem?_eq_none (by omega)
    refine wpAny_pure (hR h' tk acc c as (fun b o h1 e => he b o (by omega) (hkeep b o h1 e)) (he S _ (.inr hnS) hS) (by omega) ⟨hG.rise, hG.above, fun j a hj => ?_⟩ hacc)
    obtain ⟨x, y, e1, e2, e3⟩ := hG.pairs j a hj
    have := hG.above a (List.mem_of_getElem? hj)
    exact ⟨x, y, e1, e2, he a _ (.inr (by omega)) e3⟩
  | succ k ih =>
    intro i h tk c acc as hk hi hst hkeep hS hacc hal hG
    have hm : zmin xs ys = min xs.size ys.size := rfl
    have hlx : i < xs.size := by have := Nat.min_le_left xs.size ys.size; omega
    have hly : i < ys.size := by have := Nat.min_le_right xs.size ys.size; omega
    have hx : xs[i]? = some xs[i] := Array.getElem?_eq_getElem hlx
    have hy : ys[i]? = some ys[i] := Array.getElem?_eq_getElem hly
    have hsz : acc.size = i := by rw [← Array.length_toList, hacc, List.length_map, hal]
    have hSl : S < h.objs.size := PySem.Heap.lt_size hS
    refine codeAny_builtin PySem.F.entry_extend_loop ?_
    rw [Around.under_plainId PySem.F.plain_extend_loop _]
    show wpAny _ A.in1 (pyNext (.ref (n + 4)) >>= _) _ _ _
    refine wpAny_bind (zs_item (s := { s with heap := h, toks := tk }) L1 L2 hnS hSl hst hx hy fun h' hst' ht hz hkp => ?_)
    dsimp only at ht hz hkp ⊢
    have hS' := hkp S _ (.inr hnS) hS
    have up : ∀ (b : Nat) o, b ≠ S → h'.get? b = some o → (h'.update S (Obj.mapSeq (·.push (Value.ref h.objs.size)))).get? b = some o := fun b o hb e => (PySem.Heap.get?_update_other _ _ (Ne.symm hb)).trans e
    show wpAny _ A.in1 (updateSeq S (·.push (Value.ref h.objs.size)) >>= _) _ _ _
    refine wpAny_bind ?_
    refine wpAny_updateSeq hS' rfl (wpAny_pure ⟨plainId_quiet PySem.F.plain_extend_loop _, ih (i + 1) _ tk _ (acc.push (Value.ref h.objs.size)) (as ++ [h.objs.size]) (by omega) (by omega) (hst'.keep L1 L2 hnS up)
      (fun b o h1 e => up b o (by omega) (hkp b o (by omega) (hkeep b o h1 e))) (PySem.Heap.get?_update_self _ hS' rfl) (by rw [Array.toList_push, hacc, List.map_append]; rfl) (by rw [List.length_append, hal]; rfl) ⟨?_, ?_, ?_⟩⟩) (by rw [hsz]; omega) (by show (acc.push (Value.ref h.objs.size)).size ≤ sizeLine + 1; rw [Array.size_push, hsz]; omega)
    · refine List.pairwise_append.mpr ⟨hG.rise, List.pairwise_singleton _ _, fun a ha b hb => ?_⟩
      rw [List.mem_singleton.mp hb]
      exact hG.there ha
    · intro a ha
      rcases List.mem_append.mp ha with ha | ha
      · exact hG.above a ha
      · rw [List.mem_singleton.mp ha]; exact hSl
    · intro j b hj
      rcases Nat.lt_trichotomy j as.length with h1 | h1 | h1
      · rw [List.getElem?_append_left h1] at hj
        obtain ⟨x', y', e1, e2, e3⟩ := hG.pairs j b hj
        have hb := hG.above b (List.mem_of_getElem? hj)
        exact ⟨x', y', e1, e2, up b _ (by omega) (hkp b _ (.inr (by omega)) e3)⟩
      · subst h1
        have hb : h.objs.size = b := by simpa using hj
        subst hb
        exact ⟨xs[i], ys[i], by rw [hal]; exact hx, by rw [hal]; exact hy, up _ _ (Nat.ne_of_gt hSl) ht⟩
      · rw [List.getElem?_append_right (by omega), List.getElem?_eq_none (by simp; omega)] at hj
        cases hj
namespace Z3
theorem no_len : typeLookup (.type "zip") "__len__" = pure none := by rw [typeLookup_type, builtinLookup_eq_fast]; kernel_rfl
theorem no_hint : typeLookup (.type "zip") "__length_hint__" = pure none := by rw [typeLookup_type, builtinLookup_eq_fast]; kernel_rfl
end Z3
/-- a zip as it was made -/
def ZNew (t u : Bool) (n l1 l2 : Nat) (xs ys : Array Value) (h : PySem.Heap) : Prop :=
  IsZip h (n + 4) (n + 2) (n + 3) .none ∧ IsPair h (n + 2) (.ref n) (.ref (n + 1)) ∧ (∃ a b, IsPair h (n + 3) a b) ∧ AIt t h n l1 0 ∧ AIt u h (n + 1) l2 0 ∧ ASq t h l1 xs ∧ ASq u h l2 ys
theorem ZNew.to {h h' : PySem.Heap} (L1 : l1 < n) (L2 : l2 < n) (x : ZNew t u n l1 l2 xs ys h) (k : ∀ (b : Nat) o, b < n + 5 → h.get? b = some o → h'.get? b = some o) : ZNew t u n l1 l2 xs ys h' := by
  obtain ⟨a1, a2, ⟨a, b, a3⟩, a4, a5, a6, a7⟩ := x
  exact ⟨k _ _ (by omega) a1, k _ _ (by omega) a2, ⟨a, b, k _ _ (by omega) a3⟩, a4.to fun o e => k _ o (by omega) e, a5.to fun o e => k _ o (by omega) e, a6.to fun o e => k _ o (by omega) e, a7.to fun o e => k _ o (by omega) e⟩
theorem zs_extend {E : Value → Shared → Prop} (hh : A.handled = none) (L1 : l1 < n) (L2 : l2 < n) (hnS : n + 5 ≤ S) (hn : zmin xs ys ≤ sizeLine) (st : ZNew t u n l1 l2 xs ys s.heap) (res : Value) (c₀ : Nat) (hS : s.heap.get? S = some { cls := .type "list", data := .seq #[] c₀ })
    (hR : ∀ h' tk acc c as, (∀ (b : Nat) o, b < n ∨ (n + 5 ≤ b ∧ b ≠ S) → s.heap.get? b = some o → h'.get? b = some o) → h'.get? S = some { cls := .type "list", dict := none, data := .seq acc c, slots := #[] } → as.length = zmin xs ys → ZG xs ys S h' as →
      acc.toList = as.map Value.ref → R (.ok (.ret res)) { s with heap := h', toks := tk }) :
    wpAny (model prog w) A.in1 (Builtin.List.listExtendWith (.ref S) (.ref (n + 4)) res)
      (fun fin s' => match fin with | .done f => R (.ok f) s' | .again c' => c'.quiet = true ∧ codeAny (model prog w) A c' R s') (fun e s' => R (.error e) s') s := by
  have hz := st.1
  have hT : s.TypeIs (.ref (n + 4)) "zip" := ⟨_, hz, rfl⟩
  have hSI : S ≠ n + 4 := by omega
  unfold Builtin.List.listExtendWith
  refine wpAny_bind (wpAny_typeOf hT ?_)
  have h1 : Builtin.List.listSameRef (.ref S) (.ref (n + 4)) = false := by simp [Builtin.List.listSameRef]; exact hSI
  have h2 : (Value.type "zip" == Value.type "list") = false := by decide
  have h3 : (Value.type "zip" == Value.type "tuple") = false := by decide
  simp only [h1, h2, h3, Bool.or_false, Bool.false_eq_true, if_false]
  refine wpAny_bind (wpAny_pyIter_zip hz ?_)
  refine wpAny_bind (wpAny_holding ?_)
  unfold Builtin.List.listLengthHint
  refine wpAny_bind (wpAny_specialOf hT Z3.no_len ?_)
  show wpAny _ A.in1 (specialOf (Value.ref (n + 4)) (Str.ofString "__length_hint__") >>= _) _ _ _
  refine wpAny_bind (wpAny_specialOf hT Z3.no_hint ?_)
  refine wpAny_pure ?_
  show wpAny _ A.in1 (rule "list.extend.makes-room" >>= fun _ => Builtin.List.listTouch (.ref S) >>= fun _ =>
    again (.builtin "list.extend.loop" ⟨[.ref S, .ref (n + 4), res], []⟩)) _ _ _
  refine wpAny_bind (wpAny_rule ?_)
  refine wpAny_bind ?_
  show wpAny _ A.in1 (updateSeq S (·.push .none) >>= fun _ => updateSeq S (·.pop)) _ _ _
  refine wpAny_bind (wpAny_updateSeq hS rfl ?_)
  have hS₂ := PySem.Heap.get?_update_self (Obj.mapSeq (·.push Value.none)) hS rfl
  refine wpAny_updateSeq (hz := by seq_fits) hS₂ rfl ?_
  have hS₃ := PySem.Heap.get?_update_self (Obj.mapSeq (·.pop)) hS₂ rfl
  have oth : ∀ (b : Nat) o, b ≠ S → s.heap.get? b = some o → ((s.heap.update S (Obj.mapSeq (·.push Value.none))).update S (Obj.mapSeq (·.pop))).get? b = some o :=
    fun b o hb e => (PySem.Heap.get?_update_other _ _ (Ne.symm hb)).trans ((PySem.Heap.get?_update_other _ _ (Ne.symm hb)).trans e)
  obtain ⟨a1, a2, ⟨a, b, a3⟩, a4, a5, a6, a7⟩ := st.to L1 L2 fun b o hb e => oth b o (by omega) e
  refine wpAny_pure ⟨plainId_quiet PySem.F.plain_extend_loop _, zs_loop (s := s) (h₁ := s.heap) hh L1 L2 hnS hn res hR (zmin xs ys) 0 _ s.toks _ #[] [] (Nat.sub_zero _) (Nat.zero_le _) ⟨a2, a4, a5, a6, a7, .inl ⟨a1, a, b, a3⟩⟩ (fun b o hb e => oth b o (by omega) e) hS₃ rfl rfl
      ⟨List.Pairwise.nil, (fun _ ha => nomatch ha), (fun j a hj => by simp at hj)⟩⟩
theorem zs_init (hh : A.handled = none) (L1 : l1 < n) (L2 : l2 < n) (hnS : n + 5 ≤ S) (hn : zmin xs ys ≤ sizeLine) (st : ZNew t u n l1 l2 xs ys s.heap) (hS : s.heap.get? S = some { cls := .type "list", data := .seq #[] })
    (hR : ∀ h' tk acc c as, (∀ (b : Nat) o, b < n ∨ (n + 5 ≤ b ∧ b ≠ S) → s.heap.get? b = some o → h'.get? b = some o) → h'.get? S = some { cls := .type "list", dict := none, data := .seq acc c, slots := #[] } → as.length = zmin xs ys → ZG xs ys S h' as →
      acc.toList = as.map Value.ref → R (.ok (.ret .none)) { s with heap := h', toks := tk }) :
    wpAny (model prog w) A.in1 (Builtin.«list.__init__» ⟨[.ref S, .ref (n + 4)], []⟩)
      (fun fin s' => match fin with | .done f => R (.ok f) s' | .again c' => c'.quiet = true ∧ codeAny (model prog w) A c' R s') (fun e s' => R (.error e) s') s := by
  show wpAny _ _ (do let old ← Builtin.List.listItems (.ref S); Builtin.List.listUpdate (.ref S) (fun _ => #[]); letGo old.toList.reverse; Builtin.List.listExtendWith (.ref S) (.ref (n + 4)) .none) _ _ s
  refine wpAny_bind ?_
  unfold Builtin.List.listItems
  refine wpAny_bind (wpAny_seqItems hS rfl (wpAny_pure ?_))
  show wpAny _ _ (updateSeq S (fun _ => #[]) >>= fun _ => letGo (#[] : Array Value).toList.reverse >>= fun _ => Builtin.List.listExtendWith (.ref S) (.ref (n + 4)) .none) _ _ s
  refine wpAny_bind (wpAny_updateSeq hS rfl ?_)
  have hS₂ := PySem.Heap.get?_update_self (Obj.mapSeq (fun _ => (#[] : Array Value))) hS rfl
  have oth : ∀ (b : Nat) o, b ≠ S → s.heap.get? b = some o → (s.heap.update S (Obj.mapSeq (fun _ => (#[] : Array Value)))).get? b = some o :=
    fun b o hb e => (PySem.Heap.get?_update_other _ _ (Ne.symm hb)).trans e
  refine wpAny_bind (wpAny_letGo ?_)
  exact zs_extend (E := fun _ _ => False) hh L1 L2 hnS hn (st.to L1 L2 fun b o hb e => oth b o (by omega) e) .none _ hS₂ fun h' tk acc c as hk hS' hl hG hacc => hR h' tk acc c as (fun b o hb e => hk b o hb (oth b o (by omega) e)) hS' hl hG hacc
theorem zs_call {E : Value → Shared → Prop} {Q : Value → Shared → Prop} (hh : A.handled = none) (L1 : l1 < n) (L2 : l2 < n) (hn : zmin xs ys ≤ sizeLine) (st : ZNew t u n l1 l2 xs ys s.heap)
    (hQ : ∀ h' tk acc c as, (∀ (b : Nat) o, b < n ∨ n + 5 ≤ b → s.heap.get? b = some o → h'.get? b = some o) → h'.get? s.heap.objs.size = some { cls := .type "list", dict := none, data := .seq acc c, slots := #[] } → as.length = zmin xs ys → ZG xs ys s.heap.objs.size h' as →
      acc.toList = as.map Value.ref → Q (.ref s.heap.objs.size) { s with heap := h', toks := tk }) :
    wpAny (model prog w) A (PySem.call (.type "list") [.ref (n + 4)]) Q E s := by
  refine callType_codes (Q₁ := fun obj s₁ => obj = .ref s.heap.objs.size ∧ s₁ = { s with heap := s.heap.push { cls := .type "list", data := .seq #[] } }) PySem.F.called_list (PySem.F.typeCall_list_1 _) PySem.F.entry_list_init
    (code_list_new _ ⟨rfl, rfl⟩) fun obj s₁ h₁ => ?_
  obtain ⟨rfl, rfl⟩ := h₁
  have hS : (s.heap.push { cls := .type "list", data := .seq #[] }).get? s.heap.objs.size = some { cls := .type "list", data := .seq #[] } := PySem.Heap.get?_push_size _ rfl
  have hzl : n + 4 < s.heap.objs.size := PySem.Heap.lt_size st.1
  refine ⟨⟨_, hS, rfl⟩, PySem.F.args_list_init_2 _ _, zs_init (A := A.in1) hh L1 L2 (by omega) hn (st.to L1 L2 fun b o _ e => PySem.Heap.get?_push_of_some _ e) hS (fun h' tk acc c as hk hS' hl hG hacc => ?_)⟩
  exact ⟨rfl, hQ h' tk acc c as (fun b o hb e => hk b o (hb.imp id fun q => ⟨q, Nat.ne_of_lt (PySem.Heap.lt_size e)⟩) (PySem.Heap.get?_push_of_some _ e)) hS' hl hG hacc⟩
end
end Mi


/-! # Mi5V: list(zip(a, b)), the rule -/
namespace Mi
open PySem PySem.Spec PyProof.Rows L2
section
variable {prog : Program} {w : World} {A : Around} {E : Value → Shared → Prop} {s : Shared}
theorem call_z2 {t u : Bool} {l1 l2 : Addr} {xs ys : Array Value} {Q : Value → Shared → Prop} (hl1 : ASq t s.heap l1 xs) (hl2 : ASq u s.heap l2 ys)
    (hq : ∀ h', ZNew t u s.heap.objs.size l1 l2 xs ys h' → (∀ c o, s.heap.get? c = some o → h'.get? c = some o) → Q (.ref (s.heap.objs.size + 4)) { s with heap := h' }) :
    wpAny (model prog w) A (PySem.call (.type "zip") [.ref l1, .ref l2]) Q E s := by
  have fin : ∀ h', IsZip h' (s.heap.objs.size + 4) (s.heap.objs.size + 2) (s.heap.objs.size + 3) .none → IsPair h' (s.heap.objs.size + 2) (.ref s.heap.objs.size) (.ref (s.heap.objs.size + 1)) →
      IsPair h' (s.heap.objs.size + 3) .none .none → AIt t h' s.heap.objs.size l1 0 → AIt u h' (s.heap.objs.size + 1) l2 0 → (∀ c o, s.heap.get? c = some o → h'.get? c = some o) → Q (.ref (s.heap.objs.size + 4)) { s with heap := h' } := fun h' b1 b2 b3 b4 b5 k => hq h' ⟨b1, b2, ⟨_, _, b3⟩, b4, b5, hl1.to fun o e => k _ o e, hl2.to fun o e => k _ o e⟩ k
  cases t
  · cases u
    · exact call_zip_2 hl1 hl2 fun h' b1 b2 b3 b4 b5 _ k => fin h' b1 b2 b3 b4 b5 k
    · exact call_lt hl1 hl2 fun h' b1 b2 b3 b4 b5 _ k => fin h' b1 b2 b3 b4 b5 k
  · cases u
    · exact call_tl hl1 hl2 fun h' b1 b2 b3 b4 b5 _ k => fin h' b1 b2 b3 b4 b5 k
    · exact RZ.call_zipT hl1 hl2 fun h' b1 b2 b3 b4 b5 _ k => fin h' b1 b2 b3 b4 b5 k
end
/-- the pairs, at their places -/
def putP : Hp → List Addr → List (V × V) → Hp
  | H, a :: as, p :: kvs => putP (upd H a (.tup [p.1, p.2])) as kvs
  | H, _, _ => H
theorem putP_off {b : Addr} : ∀ (as : List Addr) (kvs : List (V × V)) (H : Hp), b ∉ as → putP H as kvs b = H b
  | [], _, _, _ => rfl
  | _ :: _, [], _, _ => rfl
  | a :: as, p :: kvs, H, h => by
    show putP (upd H a (.tup [p.1, p.2])) as kvs b = H b
    rw [putP_off as kvs _ (fun z => h (List.mem_cons_of_mem _ z)), upd_ne (fun z => h (by rw [z]; exact List.mem_cons_self))]
theorem putP_at : ∀ (as : List Addr) (kvs : List (V × V)) (H : Hp), as.length = kvs.length → as.Nodup → Paired (fun (t : Addr) (p : V × V) => putP H as kvs t = some (.tup [p.1, p.2])) as kvs
  | [], [], _, _, _ => .nil
  | [], _ :: _, _, h, _ => by cases h
  | _ :: _, [], _, h, _ => by cases h
  | a :: as, p :: kvs, H, h, hn => by
    have hn' := List.nodup_cons.mp hn
    have ih := putP_at as kvs (upd H a (.tup [p.1, p.2])) (Nat.succ.inj h) hn'.2
    refine .cons ?_ ih
    show putP (upd H a (.tup [p.1, p.2])) as kvs a = some (.tup [p.1, p.2])
    rw [putP_off as kvs _ hn'.1, upd_same]
section
variable {X : Cx}
theorem pairs_laid {pins : List (Addr × Obj)} {σ : L2.St} {H : Hp} {s : Shared} {h' : PySem.Heap} {tk S : Nat} {xs ys : List V} {vs us : List Value} {acc : Array Value} {c : Nat} {as : List Nat} (I : Inv X pins σ H s) (hz : xs.length ≤ sizeLine) (rx : Vals xs vs) (ry : Vals ys us) (hS0 : s.heap.objs.size ≤ S)
    (hk : ∀ (b : Addr) o, s.heap.get? b = some o → h'.get? b = some o) (hS : h'.get? S = some { cls := .type "list", dict := none, data := .seq acc c, slots := #[] }) (hl : as.length = zmin vs.toArray us.toArray) (hG : ZG vs.toArray us.toArray S h' as) (hacc : acc.toList = as.map Value.ref) :
    ∃ H' : Hp, (∀ b o, H b = some o → H' b = some o) ∧ H S = none ∧ (∀ t ∈ as, H t = none) ∧ S ∉ as ∧ as.Nodup ∧ H' S = some (.lst (as.map V.ref)) ∧ Paired (fun (t : Addr) (q : V × V) => H' t = some (.tup [q.1, q.2])) as (xs.zip ys) ∧ Inv X pins σ H' { s with heap := h', toks := tk } := by
  have lx := rx.length
  have ly := ry.length
  have lk : as.length = (xs.zip ys).length := by rw [hl, List.length_zip]; show min vs.toArray.size us.toArray.size = _; simp [lx, ly]
  have hSn : S ∉ as := fun z => Nat.lt_irrefl _ (hG.above _ z)
  have nd : as.Nodup := List.Pairwise.imp (fun {a b} (h : a < b) => Nat.ne_of_lt h) hG.rise
  have new : ∀ t ∈ as, H t = none := fun t ht => I.hok.fresh (Nat.le_trans hS0 (Nat.le_of_lt (hG.above t ht)))
  have newS : H S = none := I.hok.fresh hS0
  have atP := putP_at as (xs.zip ys) (upd H S (.lst (as.map V.ref))) lk nd
  have off : ∀ (b : Addr), b ∉ as → b ≠ S → putP (upd H S (.lst (as.map V.ref))) as (xs.zip ys) b = H b := fun b h1 h2 => by rw [putP_off as _ _ h1, upd_ne h2]
  have low : ∀ (b : Addr) o, s.heap.get? b = some o → b ∉ as ∧ b ≠ S := fun b o e => ⟨fun z => absurd (PySem.Heap.lt_size e) (Nat.not_lt.mpr (Nat.le_trans hS0 (Nat.le_of_lt (hG.above b z)))), Nat.ne_of_lt (Nat.lt_of_lt_of_le (PySem.Heap.lt_size e) hS0)⟩
  have kp : ∀ (b : Addr) u, H b = some u → (putP (upd H S (.lst (as.map V.ref))) as (xs.zip ys)) b = some u := fun b u e => by
    rw [off b (fun z => by rw [new b z] at e; cases e) (fun z => by rw [z, newS] at e; cases e)]
    exact e
  have eS : putP (upd H S (.lst (as.map V.ref))) as (xs.zip ys) S = some (.lst (as.map V.ref)) := by rw [putP_off as _ _ hSn, upd_same]
  refine ⟨putP (upd H S (.lst (as.map V.ref))) as (xs.zip ys), kp, newS, new, hSn, nd, eS, atP, ?_⟩
  refine I.call' (ch := []) rfl ⟨fun b o q _ _ _ => hk b o q, fun b o q _ _ _ => ⟨o.slots, hk b o q⟩, fun b o q n _ => ?_, fun b o q _ => ⟨o, hk b o q⟩, fun b xs q => kp b _ q, fun b o u q => kp b _ q, fun b ps q => ⟨#[], by rw [kp b _ q]; simp⟩⟩ (fun b u q => ?_) I.bare fun b z => by simp at z
  · obtain ⟨z1, z2⟩ := low b o q
    rw [off b z1 z2]
    exact n
  · by_cases hb : b ∈ as
    · obtain ⟨j, pk, e1, e2, e3⟩ := LiI.paired_ix atP hb
      rw [e3] at q
      cases q
      obtain ⟨x, y, f1, f2, f3⟩ := hG.pairs j b e1
      have e2' := List.getElem?_zip_eq_some.mp e2
      obtain ⟨x', g1, g2⟩ := rx.get e2'.1
      obtain ⟨y', g3, g4⟩ := ry.get e2'.2
      have hx : x = x' := by simpa [f1] using (show vs.toArray[j]? = some x' by simpa using g1).symm.trans f1 |>.symm
      have hy : y = y' := by simpa [f2] using (show us.toArray[j]? = some y' by simpa using g3).symm.trans f2 |>.symm
      subst hx hy
      exact ⟨by show 2 ≤ sizeLine; decide, [x, y], .cons g2 (.cons g4 .nil), ⟨_, f3, rfl, _, rfl⟩⟩
    · by_cases hb2 : b = S
      · rw [hb2] at q ⊢
        rw [eS] at q
        cases q
        refine ⟨by rw [List.length_map, lk, List.length_zip]; exact Nat.le_trans (Nat.min_le_left _ _) hz, acc.toList, c, by rw [hacc]; exact LiI.vals_refs as, ?_⟩
        rw [Array.toArray_toList]
        exact hS
      · rw [off b hb hb2] at q
        exact (I.hok b u q).stay (fun d v _ y => hk d v y) (fun d y => kp d _ y) fun d xs y => kp d _ y
def tLz (K : PySem.W.Frag) (ta : TA) : TE := fun σ H Q => ta σ H fun vs H1 => ∃ t u a b xs ys, vs = [.ref a, .ref b] ∧ SqA t K H1 a xs ∧ SqA u K H1 b ys ∧
  ∀ (H' : Hp) (p : Addr) (ts : List Addr), (∀ b o, H1 b = some o → H' b = some o) → H1 p = none → (∀ t ∈ ts, H1 t = none) → p ∉ ts → ts.Nodup → H' p = some (.lst (ts.map V.ref)) → Paired (fun (t : Addr) (q : V × V) => H' t = some (.tup [q.1, q.2])) ts (xs.zip ys) → Q (.ref p) H'
/-- list(zip(a, b)) -/
theorem pe_lz {e e2 : Expr} {ta : TA} {p p2 pos pos2 : Pos} (hc : X.calm = true) (hg : Gl X "list") (hm : X.mg "list" = none) (hg2 : Gl X "zip") (hm2 : X.mg "zip" = none) (ha : PA X [e, e2] ta)
    (hs : starEach [.Call (.Name "zip" p2) [e, e2] [] pos2] X.env = (false, eval (.Call (.Name "zip" p2) [e, e2] [] pos2) X.env) :: starEach [] X.env := by rfl)
    (hs2 : starEach [e, e2] X.env = (false, eval e X.env) :: starEach [e2] X.env := by rfl) (hpl : (backTo pos2 (starEach [e2] X.env)).any (·.1) = false := by rfl) :
    PE X (.Call (.Name "list" p) [.Call (.Name "zip" p2) [e, e2] [] pos2] [] pos) (tLz X.K ta) := by
  refine ⟨fun pins s σ H Q I hq => ?_⟩
  refine wpAny_Call_Name_kw (ld_blt I hg hm PyProof.Rows.boot_list ?_)
  refine PyProof.Rows.callWith_type1 ?_ hs rfl
  rw [hs]
  show wpAny _ _ (spliced ((false, eval (.Call (.Name "zip" p2) [e, e2] [] pos2) X.env) :: backTo pos (starEach [] X.env))) _ _ s
  refine Calls.spliced_cons ?_
  refine Call_ (ld_blt I hg2 hm2 PyProof.Rows.boot_zip (PyProof.Rows.callWith_type1 (thn (ha.run pos2 pins s σ H _ I hq) fun us s1 ⟨vs, H1, I1, r1, q1⟩ => ?_) hs2 hpl))
  obtain ⟨t, u, a, b, xs, ys, ex, hqx, hqy, q⟩ := q1
  subst ex
  obtain ⟨u1, u2, rfl, r, r'⟩ : ∃ u1 u2, us = [u1, u2] ∧ RelV (.ref a) u1 ∧ RelV (.ref b) u2 := by
    cases r1 with
    | cons r rr =>
      cases rr with
      | cons r' rr =>
        cases rr
        exact ⟨_, _, rfl, r, r'⟩
  cases r
  cases r'
  obtain ⟨its, rv, p1⟩ := sqA_at I1 hqx
  obtain ⟨its2, rv2, p2⟩ := sqA_at I1 hqy
  have lt : ∀ {t : Bool} {l : Addr} {xs : Array Value}, ASq t s1.heap l xs → l < s1.heap.objs.size := fun {t l xs} q => by
    cases t
    · obtain ⟨o, ho, _⟩ := id q; exact PySem.Heap.lt_size ho
    · obtain ⟨o, ho, _⟩ := id q; exact PySem.Heap.lt_size ho
  have hzl : xs.length ≤ sizeLine := by
    cases t
    · obtain ⟨_, _, _, hz⟩ := I1.list (show SqL X.K H1 a xs from hqx); exact hz
    · obtain ⟨_, _, _, hz⟩ := I1.tuple (show SqT X.K H1 a xs from hqx); exact hz
  refine call_z2 p1 p2 fun h' st hk => ?_
  refine Calls.spliced_nil ?_
  have hsz : s1.heap.objs.size + 4 < h'.objs.size := PySem.Heap.lt_size st.1
  refine zs_call (s := { s1 with heap := h' }) (I1.ok.hd hc) (lt p1) (lt p2) (Nat.le_trans (Nat.min_le_left _ _) (by rw [List.size_toArray, ← rv.length]; exact hzl)) st fun h'' tk acc c as hk2 hS hl hG hacc => ?_
  obtain ⟨H', k1, k2, k3, k4, k5, k6, k7, J⟩ := pairs_laid (tk := tk) I1 hzl rv rv2 (S := h'.objs.size) (Nat.le_of_lt (Nat.lt_of_le_of_lt (Nat.le_add_right _ 4) hsz)) (fun b o e => hk2 b o (.inl (PySem.Heap.lt_size e)) (hk b o e)) hS hl hG hacc
  exact ⟨.ref _, H', J, rfl, q H' _ as k1 k2 k3 k4 k5 k6 k7⟩
end
end Mi


/-! # Mi6: methods, calls of own defs, what a loop walks, comprehensions -/
namespace Mi
open PySem PySem.Spec PyProof.Rows L2

section
variable {X : Cx} {t : Th} {W : L2.WX} {g : G} {a b c e : Expr} {es : List Expr} {ma mb mc m : Ex} {ms : Exs} {pos : Pos}
/-- a method by values -/
def rMt (t : Th) (f : Val → List Val → Heap → Res Val) : V → List V → Hp → VK → Prop := fun x xs H Q => ∃ ρ h a vs, HR t ρ h H ∧ VR t ρ a x ∧ VRs t ρ vs xs ∧ Post t ρ H (f a vs h) (KV1 t Q) E0'
/-- which type a method is of -/
def mTy : Me → String
  | .append => "list" | .join => "str" | .split => "str" | .insert => "list" | .pop => "list" | .clear => "list" | .extend => "list" | .sindex => "str" | .count => "list"
theorem post_set {ρ : List Addr} {h : Heap} {H : Hp} {n : Nat} {o : Ob} {l : Addr} {u : HO} {v : Val} {Q : VK} {z : V} {E : Value → Option Addr → Hp → Prop} (hr : HR t ρ h H) (e : ρ[n]? = some l) (r : OR t ρ (upd H l u) l o) (rv : VR t ρ v z)
    (p : Post t ρ H (.ok v (h.set n o)) (KV1 t Q) E) : Q z (upd H l u) := p ρ _ (Ext.write e) (hr.write e r) z rv
theorem or_l {ρ : List Addr} {H : Hp} {l : Addr} {xs : List Val} {ys : List V} (r : VRs t ρ xs ys) : OR t ρ (upd H l (.lst ys)) l (.lst xs) := ⟨ys, upd_same, r⟩
theorem mt_append' : MtR X "list.append" (rMt t (met .append)) := by
  intro pins s σ H x xs v us Q I rx rs ⟨ρ, h, a, vs, hr, va, vv, p⟩
  unfold met at p
  dsimp only at p
  split at p
  · rename_i n y
    obtain ⟨y', rfl, ry⟩ := vrs1 vv
    split at p
    · rename_i zs hk
      obtain ⟨l, rfl, l1, ys, hl, r1⟩ := hr.ref hk va
      split at p
      · exact mt_append pins s σ H _ _ v us Q I rx rs ⟨l, ys, y', rfl, rfl, hl, by rw [← r1.length]; assumption, post_set (v := .non) (z := .non) hr l1 (or_l (r1.snoc ry)) rfl p⟩
      · exact p.elim
    · exact p.elim
  · exact p.elim
theorem mt_insert' : MtR X "list.insert" (rMt t (met .insert)) := by
  intro pins s σ H x xs v us Q I rx rs ⟨ρ, h, a, vs, hr, va, vv, p⟩
  unfold met at p
  dsimp only at p
  split at p
  · rename_i n i y
    obtain ⟨i', y', rfl, ri, ry⟩ := vrs2 vv
    cases ri
    split at p
    · rename_i zs hk
      obtain ⟨l, rfl, l1, ys, hl, r1⟩ := hr.ref hk va
      split at p
      · rename_i hz
        exact mt_insert pins s σ H _ _ v us Q I rx rs ⟨l, ys, i, y', rfl, rfl, hl, by rw [← r1.length]; exact hz.1, hz.2.1, hz.2.2,
          post_set (v := .non) (z := .non) hr l1 (or_l (pr_append (pr_append (pr_take _ r1) (.cons ry .nil)) (pr_drop _ r1))) rfl p⟩
      · exact p.elim
    · exact p.elim
  · exact p.elim
theorem mt_pop' : MtR X "list.pop" (rMt t (met .pop)) := by
  intro pins s σ H x xs v us Q I rx rs ⟨ρ, h, a, vs, hr, va, vv, p⟩
  unfold met at p
  dsimp only at p
  split at p
  · cases vv
    split at p
    · rename_i zs hk
      obtain ⟨l, rfl, l1, ys, hl, r1⟩ := hr.ref hk va
      split at p
      · rename_i y e
        obtain ⟨z, e1, rz⟩ := pr_get r1 e
        exact mt_pop pins s σ H _ _ v us Q I rx rs ⟨l, ys, z, rfl, rfl, hl, by rw [← r1.length]; exact e1, post_set hr l1 (or_l (pr_dropLast r1)) rz p⟩
      · exact p.elim
    · exact p.elim
  · rename_i n i
    obtain ⟨i', rfl, ri⟩ := vrs1 vv
    cases ri
    split at p
    · rename_i zs hk
      obtain ⟨l, rfl, l1, ys, hl, r1⟩ := hr.ref hk va
      split at p
      · rename_i k hkk
        split at p
        · rename_i y e
          obtain ⟨z, e1, rz⟩ := pr_get r1 e
          obtain ⟨i1, i2, i3, i4⟩ := ixN_seq hkk
          have := (Inv.lst I hl)
          obtain ⟨its, nn, rr, ho, hz⟩ := this
          have hs : sizeLine = 16777216 := sizeLine_eq
          have hlen := r1.length
          have hlen2 := rr.length
          rw [hlen] at i1 i3 i4
          exact mt_popAt pins s σ H _ _ v us Q I rx rs ⟨l, ys, i, k, z, rfl, rfl, hl, by omega, by omega, i1, e1, post_set hr l1 (or_l (pr_erase _ r1)) rz p⟩
        · exact p.elim
      · exact p.elim
    · exact p.elim
  · exact p.elim
theorem mt_clear' : MtR X "list.clear" (rMt t (met .clear)) := by
  intro pins s σ H x xs v us Q I rx rs ⟨ρ, h, a, vs, hr, va, vv, p⟩
  unfold met at p
  dsimp only at p
  split at p
  · cases vv
    split at p
    · rename_i zs hk
      obtain ⟨l, rfl, l1, ys, hl, r1⟩ := hr.ref hk va
      exact mt_clear pins s σ H _ _ v us Q I rx rs ⟨l, ys, rfl, rfl, hl, post_set (v := .non) (z := .non) hr l1 (or_l .nil) rfl p⟩
    · exact p.elim
  · exact p.elim
theorem mt_extend' : MtR X "list.extend" (rMt t (met .extend)) := by
  intro pins s σ H x xs v us Q I rx rs ⟨ρ, h, a, vs, hr, va, vv, p⟩
  unfold met at p
  dsimp only at p
  split at p
  · rename_i n m'
    obtain ⟨y', rfl, ry⟩ := vrs1 vv
    split at p
    · rename_i zs ws hk hk2
      obtain ⟨l, rfl, l1, ys, hl, r1⟩ := hr.ref hk va
      obtain ⟨l', rfl, l2, ys', hl', r2⟩ := hr.ref hk2 ry
      split at p
      · rename_i hz
        exact mt_extend pins s σ H _ _ v us Q I rx rs ⟨l, l', ys, ys', rfl, rfl, hl, hl', by rw [← r1.length, ← r2.length]; exact hz, post_set (v := .non) (z := .non) hr l1 (or_l (pr_append r1 r2)) rfl p⟩
      · exact p.elim
    · exact p.elim
  · exact p.elim
theorem mt_join' (hK : t.K = X.K) : MtR X "str.join" (rMt t (met .join)) := by
  intro pins s σ H x xs v us Q I rx rs ⟨ρ, h, a, vs, hr, va, vv, p⟩
  unfold met at p
  dsimp only at p
  split at p
  · rename_i z y
    obtain ⟨y', rfl, ry⟩ := vrs1 vv
    cases va
    split at p
    · rename_i ns e
      obtain ⟨ws, e1, e2⟩ := Option.bind_eq_some_iff.mp e
      obtain ⟨l, ys, rfl, hl, r1⟩ := seq_of hr ry e1
      have := strs_vr r1 e2
      subst this
      split at p
      · rename_i hz
        exact L2.mt_join pins s σ H _ _ v us Q I rx rs ⟨_, l, ns, rfl, rfl, hl.imp SqL.of SqT.of, hz, p.ok hr _ rfl⟩
      · exact p.elim
    · exact p.elim
  · exact p.elim
theorem strs_vrs {ρ : List Addr} : ∀ (xs : List Str), VRs t ρ (xs.map .str) (xs.map V.str)
  | [] => .nil
  | x :: xs => .cons rfl (strs_vrs xs)
theorem mt_split' : MtR X "str.split" (rMt t (met .split)) := by
  intro pins s σ H x xs v us Q I rx rs ⟨ρ, h, a, vs, hr, va, vv, p⟩
  unfold met at p
  dsimp only at p
  split at p
  · rename_i z y
    obtain ⟨y', rfl, ry⟩ := vrs1 vv
    cases va; cases ry
    split at p
    · rename_i hz
      exact L2.mt_split pins s σ H _ _ v us Q I rx rs ⟨_, _, rfl, rfl, hz.1, hz.2, fun q hq => Post.new hr p hq (or_lst (strs_vrs _)) _ (VR.new hr)⟩
    · exact p.elim
  · exact p.elim
theorem mt_sindex' : MtR X "str.index" (rMt t (met .sindex)) := by
  intro pins s σ H x xs v us Q I rx rs ⟨ρ, h, a, vs, hr, va, vv, p⟩
  unfold met at p
  dsimp only at p
  split at p
  · rename_i z y
    obtain ⟨y', rfl, ry⟩ := vrs1 vv
    cases va; cases ry
    split at p
    · rename_i i rest e
      have q := p.ok hr _ rfl
      obtain ⟨tk, rfl⟩ := rx
      cases rs with
      | cons q1 rs =>
        cases rs
        obtain ⟨tk2, rfl⟩ := q1
        exact PySem.SC.index e ⟨.int (i : Nat), H, I.tok _, ⟨_, rfl⟩, q⟩
    · exact p.elim
  · exact p.elim
/-- what a receiver must be -/
theorem ty_lst {ρ : List Addr} {h : Heap} {H : Hp} {v : Val} {y : V} (hr : HR t ρ h H) (e : (lstO h v).isSome = true) (r : VR t ρ v y) : tyV X.K "list" y H := by
  obtain ⟨xs, e⟩ := Option.isSome_iff_exists.mp e
  obtain ⟨l, ys, rfl, hl, r1⟩ := lst_of hr r e
  exact .inl ⟨rfl, ys, .of hl⟩
theorem ty_met {ρ : List Addr} {h : Heap} {H : Hp} {mm : Me} {v : Val} {y : V} (hr : HR t ρ h H) (r : VR t ρ v y) (e : rcv mm v h = true) : tyV X.K (mTy mm) y H := by
  cases mm
  all_goals first
    | exact ty_lst hr e r
    | (unfold rcv at e
       dsimp only at e
       split at e
       · cases r; rfl
       · cases e)
end

section
variable {X : Cx} {t : Th} {W : L2.WX} {g : G} {a b c e o : Expr} {es : List Expr} {ma mb mc m mo : Ex} {ms : Exs} {pos : Pos}
variable (O : Ok X t W)
include O
theorem e_met {mm : Me} {id : String} {name : Str} {apos cpos : Pos} (pa : PlainAttrs (mTy mm)) (slot : Slot (mTy mm) name id) (hty : typeOf (.builtin id) = pure (.type "method_descriptor")) (hm : MtR X id (rMt t (met mm)))
    (ho : PE X o (tE t W (den g mo))) (ha : PA X (a :: es) (tA t W (dens g ms)))
    (hbase : attributeBase o name X.env (eval o X.env) = eval o X.env := by rfl)
    (hfew : ((backTo cpos (starEach (a :: es) X.env)).all (fun x => !x.1) && (backToKw cpos (keywordEach [] X.env)).all (fun x => x.1.isSome)
      && decide ((a :: es).length + ([] : List Keyword).length + (if ([] : List Keyword).isEmpty then 0 else 1) < 30)) = true := by rfl)
    (hline : (apos.endLine == cpos.line) = true := by rfl) (hs : starEach (a :: es) X.env = (false, eval a X.env) :: starEach es X.env := by rfl) (hplain : (backTo cpos (starEach es X.env)).any (·.1) = false := by rfl) :
    PE X (.Call (.Attribute o name apos) (a :: es) [] cpos) (tE t W (den g (.met mm mo ms))) := by
  refine PEi (pe_bm pa slot hty hm ho ha hbase hfew hline hs hplain) fun σ H Q ⟨ρ, h, s, hr, sr, p⟩ => ?_
  unfold den at p
  refine ⟨ρ, h, s, hr, sr, (Post.bind p).imp fun v h1 ρ1 H1 e1 x1 p1 y ry => ?_⟩
  split at p1
  · rename_i hc
    exact ⟨ty_met x1 ry hc, ρ1, h1, s, x1, SR.ext e1 sr, (Post.bind p1).imp fun vs h2 ρ2 H2 e2 x2 p3 zs rz => ⟨ρ2, h2, v, vs, x2, ry.ext e2, rz, p3.nox (nox_met _ _ _ _)⟩⟩
  · exact p1.elim
theorem e_met0 {mm : Me} {id : String} {name : Str} {apos cpos : Pos} (pa : PlainAttrs (mTy mm)) (slot : Slot (mTy mm) name id) (hty : typeOf (.builtin id) = pure (.type "method_descriptor")) (hm : MtR X id (rMt t (met mm)))
    (ho : PE X o (tE t W (den g mo))) (hbase : attributeBase o name X.env (eval o X.env) = eval o X.env := by rfl) (hline : (apos.endLine == cpos.line) = true := by rfl) :
    PE X (.Call (.Attribute o name apos) [] [] cpos) (tE t W (den g (.met mm mo .nil))) := by
  refine PEi (pe_bm0 pa slot hty hm ho hbase hline) fun σ H Q ⟨ρ, h, s, hr, sr, p⟩ => ?_
  unfold den at p
  refine ⟨ρ, h, s, hr, sr, (Post.bind p).imp fun v h1 ρ1 H1 e1 x1 p1 y ry => ?_⟩
  split at p1
  · rename_i hc
    exact ⟨ty_met x1 ry hc, ρ1, h1, v, [], x1, ry, .nil, Post.nox (nox_met _ _ _ _) p1⟩
  · exact p1.elim
end

/-! ## calls of own defs -/
structure FnG (P : Program) (w : World) (K : PySem.W.Frag) (mg : Str → Option Value) (base : PySem.Heap) (k : Nat) (f : Addr) (fd : FuncData) (ps : List Str) (sp : Sp) : Prop where
  len : ∀ vs H Q E, sp vs H Q E → vs.length = ps.length
  run : ∀ (A : Around) (outer : List Env) (s : Shared) (H : Hp) (args : Args) (us : List Value) (vs : List V) (Q : VK) (E : XK), Room k A → A.guards = some [] → Env0 P w K mg base A outer s H → BindsTo s fd args (ps.zip us) → Vals vs us → sp vs H Q E →
    codeAny (model P w) A (.call (.ref f) args) (CR (L2.CX P w) outer P w H s Q E) s
def spC (t : Th) (f : List Val → Heap → Res Val) : Sp := fun vs H Q E => ∃ ρ h as, HR t ρ h H ∧ VRs t ρ as vs ∧ Post t ρ H (f as h) (KV1 t Q) E
section
variable {X : Cx} {t : Th} {W : L2.WX} {g : G} {a b c e o : Expr} {es : List Expr} {ma mb mc m mo : Ex} {ms : Exs} {pos : Pos} {k : Nat}
theorem run_g {pins : List (Addr × PySem.Obj)} {σ : L2.St} {H : Hp} {s : Shared} {Q : VK} {us : List Value} {vs : List V} {fa : Addr} {fd : FuncData} {ps : List Str} {sp : Sp} (O : Ok X t W) (F : FnG X.prog X.w X.K X.mg X.base k fa fd ps sp) (hr : Room k X.A) {ds : List Value} {dvs : List V} (hb : Binds X.K fd ps ds) (hd : Vals dvs ds)
    (I : Inv X pins σ H s) (r : Vals vs us) (h : sp (vs ++ dvs) H Q (EW W σ)) : wpAny (model X.prog X.w) X.A (call (.ref fa) us) (EP X pins σ Q) X.xe s := by
  have r2 := Vals.append r hd
  have hl : (us ++ ds).length = ps.length := by rw [← r2.length]; exact F.len _ _ _ _ h
  refine wpAny_call (codeAny_mono (F.run X.A X.stack s H ⟨us, []⟩ (us ++ ds) (vs ++ dvs) Q _ hr O.hg I.env0 (hb s us I.kIn hl) r2 h) fun z s' hq => ?_)
  cases z with
  | error u => exact O.tk u s' (XE.of_call I (fun c d H' w => w) hq)
  | ok fl =>
    cases fl with
    | ret u => exact I.after hq
    | next => exact hq.elim
    | brk => exact hq.elim
    | cont => exact hq.elim
def exsLen : Exs → Nat
  | .nil => 0
  | .cons _ es => exsLen es + 1
theorem dens_len {g : G} : ∀ {ms : Exs} {s : Sl} {h h' : Heap} {vs : List Val}, dens g ms s h = .ok vs h' → vs.length = exsLen ms
  | .nil, s, h, h', vs, e => by unfold dens at e; cases e; rfl
  | .cons m ms, s, h, h', vs, e => by
    unfold dens at e
    cases q : den g m s h with
    | ok v h1 =>
      rw [q] at e
      simp only [Res.bind_ok] at e
      cases q2 : dens g ms s h1 with
      | ok ws h2 =>
        rw [q2] at e
        cases e
        show ws.length + 1 = exsLen ms + 1
        rw [dens_len q2]
      | exc _ _ _ => rw [q2] at e; cases e
      | bad => rw [q2] at e; cases e
    | exc _ _ _ => rw [q] at e; cases e
    | bad => rw [q] at e; cases e
/-- f(..), with the module's defaults behind the written arguments: n of them -/
structure CalleeN (P : Program) (w : World) (K : PySem.W.Frag) (mg : Str → Option Value) (base : PySem.Heap) (t : Th) (k : Nat) (f : Str) (ds : List Val) (m : List Val → Heap → Res Val) : Prop where
  ex : ∃ (fa : Addr) (fd : FuncData) (ps : List Str) (us : List Value) (dvs : List V), mg f = some (.ref fa) ∧ PySem.W.keepIn K (.ref fa) = true ∧ Binds K fd ps us ∧ Vals dvs us ∧ (∀ ρ, VRs t ρ ds dvs) ∧ FnG P w K mg base k fa fd ps (spC t m)
theorem e_cal {f : Str} {fi : Nat} {ds : List Val} {p : Pos} {m' : List Val → Heap → Res Val} (O : Ok X t W) (C : CalleeN X.prog X.w X.K X.mg X.base t k f ds m') (hr : Room k X.A) (ha : PA X (a :: es) (tA t W (dens g ms))) (hd : ∀ vs h, vs.length = exsLen ms → g.call fi vs h ≠ .bad → g.call fi vs h = m' (vs ++ ds) h) (hg : Gl X f := by rfl)
    (hdb : (f == ("__debug__" : Str)) = false := by decide) (he : starEach (a :: es) X.env = (false, eval a X.env) :: starEach es X.env := by rfl) (hpl : (backTo pos (starEach es X.env)).any (·.1) = false := by rfl) :
    PE X (.Call (.Name f p) (a :: es) [] pos) (tE t W (den g (.cal fi ms))) := by
  obtain ⟨fa, fd, ps, us0, dvs, hm, hk, hb, hv, hw, F⟩ := C.ex
  refine ⟨fun pins s σ H Q I ⟨ρ, h, sl, x, sr, q⟩ => ?_⟩
  unfold den at q
  refine wpAny_Call_Name_kw (ld_glob I hg hm ?_ hdb)
  refine PySem.W.callWith_K (h₀ := X.base) I.ok.mod.kin hk (thn (ha.run pos pins s σ H (fun vs H1 => spC t m' (vs ++ dvs) H1 Q (EW W σ)) I ⟨ρ, h, sl, x, sr, (Post.bind q).impe fun vs h1 ρ1 H1 ee e1 x1 q1 zs rz => ⟨ρ1, h1, vs ++ ds, x1, pr_append rz (hw ρ1), ?_⟩⟩) fun us s1 ⟨vs, H1, I1, r, q1⟩ => ⟨I1.kIn, ?_⟩) he hpl
  · rw [← hd vs h1 (dens_len ee) (fun e => by rw [e] at q1; exact q1)]
    exact q1
  · exact run_g O F hr hb hv I1 r q1
theorem e_cal0 {f : Str} {fi : Nat} {ds : List Val} {p : Pos} {m' : List Val → Heap → Res Val} (O : Ok X t W) (C : CalleeN X.prog X.w X.K X.mg X.base t k f ds m') (hr : Room k X.A) (hd : ∀ vs h, vs.length = exsLen .nil → g.call fi vs h ≠ .bad → g.call fi vs h = m' (vs ++ ds) h) (hg : Gl X f := by rfl)
    (hdb : (f == ("__debug__" : Str)) = false := by decide) : PE X (.Call (.Name f p) [] [] pos) (tE t W (den g (.cal fi .nil))) := by
  obtain ⟨fa, fd, ps, us0, dvs, hm, hk, hb, hv, hw, F⟩ := C.ex
  refine ⟨fun pins s σ H Q I ⟨ρ, h, sl, x, sr, q⟩ => ?_⟩
  unfold den dens at q
  refine wpAny_Call_Name_kw (ld_glob I hg hm ?_ hdb)
  exact PySem.W.callWith_K0 I.kIn hk (run_g (us := []) (vs := []) O F hr hb hv I .nil ⟨ρ, h, ds, x, hw ρ, by
    have q : Post t ρ H (g.call fi [] h) (KV1 t Q) (EW W σ) := q
    rw [hd [] h rfl (fun e => by rw [e] at q; exact q)] at q
    exact q⟩)
end

/-! ## what a loop walks -/
/-- the walk w, begun when the places were ρ0, is what J walks -/
def WalkOk (t : Th) (ρ0 : List Addr) (w : Walk) (J : L2.It) : Prop := ∀ i ρ h H, (∃ τ, ρ = ρ0 ++ τ) → HR t ρ h H → w.ok h = true →
  (w.items.length ≤ i → J.stop i H) ∧ ∀ it, w.items[i]? = some it → J.go i H ∧ ∀ x H', J.yld i H x H' → ∃ ρ', Ext ρ H ρ' H' ∧ HR t ρ' (yieldI it h).2 H' ∧ VR t ρ' (yieldI it h).1 x
def tI (t : Th) (W : L2.WX) (f : Sl → Heap → Res Walk) : TI := fun σ H R => ∃ ρ h s, HR t ρ h H ∧ SR t ρ s σ ∧ Post t ρ H (f s h) (fun w _ ρ' H' => ∀ J, WalkOk t ρ' w J → R J H') (EW W σ)
theorem PIi {X : Cx} {tg e : Expr} {t t' : TI} (p : PI X tg e t) (h : ∀ σ H R, t' σ H R → t σ H R) : PI X tg e t' := ⟨fun pins s σ H R I q => p.run pins s σ H R I (h σ H R q)⟩
section
variable {X : Cx} {t : Th} {W : L2.WX} {g : G} {a b c e o tg : Expr} {es : List Expr} {ma mb mc m mo : Ex} {ms : Exs} {pos : Pos} {ρ0 : List Addr}
theorem ok_at {xs : List (Nat × Ob)} {its : List It} {h : Heap} {n : Nat} {o : Ob} (e : (Walk.mk its xs).ok h = true) (hm : (n, o) ∈ xs) : h[n]? = some o := by
  unfold Walk.ok at e
  exact of_decide_eq_true (List.all_eq_true.mp e _ hm)
theorem wk_list {n : Nat} {a : Addr} {xs : List Val} (hn : ρ0[n]? = some a) : WalkOk t ρ0 ⟨xs.map .v, [(n, .lst xs)]⟩ (Itl t.K a) := by
  intro i ρ h H ⟨τ, e⟩ x ok
  have hk := ok_at ok (List.mem_singleton.mpr rfl)
  have hn' : ρ[n]? = some a := by rw [e, List.getElem?_append_left (List.getElem?_eq_some_iff.mp hn).1]; exact hn
  obtain ⟨ys, hl, r⟩ := x.ob n _ a hk hn'
  refine ⟨fun hi => ⟨ys, .of hl, by rw [← r.length]; simpa using hi⟩, fun it hit => ?_⟩
  rw [List.getElem?_map] at hit
  obtain ⟨v, hv, rfl⟩ := Option.map_eq_some_iff.mp hit
  obtain ⟨y, hy, ry⟩ := pr_get r hv
  refine ⟨⟨ys, y, .of hl, hy⟩, fun z H' ⟨eH, hz⟩ => ?_⟩
  subst eH
  have := hz ys (.of hl)
  rw [hy] at this; cases this
  exact ⟨ρ, Ext.refl _ _, x, ry⟩
theorem wk_tup {n : Nat} {a : Addr} {xs : List Val} (hn : ρ0[n]? = some a) : WalkOk t ρ0 ⟨xs.map .v, [(n, .tup xs)]⟩ (Itt t.K a) := by
  intro i ρ h H ⟨τ, e⟩ x ok
  have hk := ok_at ok (List.mem_singleton.mpr rfl)
  have hn' : ρ[n]? = some a := by rw [e, List.getElem?_append_left (List.getElem?_eq_some_iff.mp hn).1]; exact hn
  obtain ⟨ys, hl, r⟩ := x.ob n _ a hk hn'
  refine ⟨fun hi => ⟨ys, .of hl, by rw [← r.length]; simpa using hi⟩, fun it hit => ?_⟩
  rw [List.getElem?_map] at hit
  obtain ⟨v, hv, rfl⟩ := Option.map_eq_some_iff.mp hit
  obtain ⟨y, hy, ry⟩ := pr_get r hv
  refine ⟨⟨ys, y, .of hl, hy⟩, fun z H' ⟨eH, hz⟩ => ?_⟩
  subst eH
  have := hz ys (.of hl)
  rw [hy] at this; cases this
  exact ⟨ρ, Ext.refl _ _, x, ry⟩
theorem wk_str {z : Str} : WalkOk t ρ0 ⟨z.cps.toList.map fun c => .v (.str ⟨#[c]⟩), []⟩ (Its z) := by
  intro i ρ h H _ x ok
  refine ⟨fun hi => show z.cps.size ≤ i by simpa using hi, fun it hit => ?_⟩
  rw [List.getElem?_map] at hit
  obtain ⟨c, hc, rfl⟩ := Option.map_eq_some_iff.mp hit
  have hc' : z.cps[i]? = some c := by simpa using hc
  refine ⟨(Array.getElem?_eq_some_iff.mp hc').1, fun y H' ⟨eH, c', h1, h2⟩ => ?_⟩
  subst eH; subst h2
  rw [hc'] at h1; cases h1
  exact ⟨ρ, Ext.refl _ _, x, rfl⟩
theorem intItems_get : ∀ (n : Nat) (lo : Int) (i : Nat) (it : It), (intItems lo n)[i]? = some it → i < n ∧ it = .v (.int (lo + i))
  | 0, _, _, _, e => by simp [intItems] at e
  | n + 1, lo, 0, it, e => by
    simp [intItems] at e
    exact ⟨by omega, by rw [← e]; simp⟩
  | n + 1, lo, i + 1, it, e => by
    have e' : (intItems (lo + 1) n)[i]? = some it := by simpa [intItems] using e
    obtain ⟨h1, h2⟩ := intItems_get n (lo + 1) i it e'
    exact ⟨by omega, by rw [h2]; congr 2; omega⟩
theorem intItems_len : ∀ (n : Nat) (lo : Int), (intItems lo n).length = n
  | 0, _ => rfl
  | n + 1, lo => by simp [intItems, intItems_len n]
theorem wk_rng {lo : Int} {n : Nat} : WalkOk t ρ0 ⟨intItems lo n, []⟩ (Itr lo n) := by
  intro i ρ h H _ x ok
  refine ⟨fun hi => show n ≤ i by simpa [intItems_len] using hi, fun it hit => ?_⟩
  obtain ⟨h1, rfl⟩ := intItems_get n lo i it hit
  refine ⟨h1, fun y H' ⟨eH, ey⟩ => ?_⟩
  subst eH; subst ey
  exact ⟨ρ, Ext.refl _ _, x, rfl⟩
theorem enumI_get : ∀ (xs : List Val) (k i : Nat) (it : It), (enumI k xs)[i]? = some it → ∃ v, xs[i]? = some v ∧ it = .pr (.int ((k + i : Nat) : Int)) v
  | [], _, _, _, e => by simp [enumI] at e
  | x :: xs, k, 0, it, e => by
    simp [enumI] at e
    exact ⟨x, by simp, by rw [← e]; simp⟩
  | x :: xs, k, i + 1, it, e => by
    have e' : (enumI (k + 1) xs)[i]? = some it := by simpa [enumI] using e
    obtain ⟨v, h1, h2⟩ := enumI_get xs (k + 1) i it e'
    exact ⟨v, by simpa using h1, by rw [h2]; congr 3; omega⟩
theorem enumI_len : ∀ (xs : List Val) (k : Nat), (enumI k xs).length = xs.length
  | [], _ => rfl
  | x :: xs, k => by simp [enumI, enumI_len xs]
theorem wk_enum {n : Nat} {a : Addr} {xs : List Val} (hn : ρ0[n]? = some a) : WalkOk t ρ0 ⟨enumI 0 xs, [(n, .lst xs)]⟩ (Ite t.K a) := by
  intro i ρ h H ⟨τ, e⟩ x ok
  have hk := ok_at ok (List.mem_singleton.mpr rfl)
  have hn' : ρ[n]? = some a := by rw [e, List.getElem?_append_left (List.getElem?_eq_some_iff.mp hn).1]; exact hn
  obtain ⟨ys, hl, r⟩ := x.ob n _ a hk hn'
  refine ⟨fun hi => ⟨ys, .of hl, by rw [← r.length]; simpa [enumI_len] using hi⟩, fun it hit => ?_⟩
  obtain ⟨v, hv, rfl⟩ := enumI_get xs 0 i it hit
  obtain ⟨y, hy, ry⟩ := pr_get r hv
  refine ⟨⟨ys, y, .of hl, hy⟩, fun z H' ⟨T, y', ez, hT, eH, hz⟩ => ?_⟩
  subst eH; subst ez
  have := hz ys (.of hl)
  rw [hy] at this; cases this
  rw [Nat.zero_add]
  exact ⟨ρ ++ [T], Ext.new x hT, x.new hT (or_tup (.cons rfl (.cons ry .nil))), VR.new x⟩
theorem pairI_get : ∀ (xs ys : List Val) (i : Nat) (it : It), (pairI xs ys)[i]? = some it → ∃ v w, xs[i]? = some v ∧ ys[i]? = some w ∧ it = .pr v w
  | [], _, _, _, e => by simp [pairI] at e
  | x :: xs, [], _, _, e => by simp [pairI] at e
  | x :: xs, y :: ys, 0, it, e => by
    simp [pairI] at e
    exact ⟨x, y, by simp, by simp, e.symm⟩
  | x :: xs, y :: ys, i + 1, it, e => by
    have e' : (pairI xs ys)[i]? = some it := by simpa [pairI] using e
    obtain ⟨v, w, h1, h2, h3⟩ := pairI_get xs ys i it e'
    exact ⟨v, w, by simpa using h1, by simpa using h2, h3⟩
theorem pairI_len : ∀ (xs ys : List Val), (pairI xs ys).length = min xs.length ys.length
  | [], _ => by simp [pairI]
  | x :: xs, [] => by simp [pairI]
  | x :: xs, y :: ys => by simp [pairI, pairI_len xs ys]
def obT : Ob → Option (Bool × List Val)
  | .lst xs => some (false, xs)
  | .tup xs => some (true, xs)
  | _ => none
theorem obO_obT {h : Heap} {n : Nat} {o : Ob} {xs : List Val} (e : obO h n = some (o, xs)) : h[n]? = some o ∧ ∃ b, obT o = some (b, xs) := by
  unfold obO at e
  split at e
  · rename_i hk
    cases e
    exact ⟨hk, _, rfl⟩
  · rename_i hk
    cases e
    exact ⟨hk, _, rfl⟩
  · cases e
theorem or_sq {H : Hp} {a : Addr} {o : Ob} {b : Bool} {xs : List Val} {K : PySem.W.Frag} (r : OR t ρ H a o) (e : obT o = some (b, xs)) : ∃ ys, SqA b K H a ys ∧ VRs t ρ xs ys := by
  unfold obT at e
  split at e
  · cases e
    obtain ⟨ys, hl, q⟩ := r
    exact ⟨ys, show SqL K H a ys from .of hl, q⟩
  · cases e
    obtain ⟨ys, hl, q⟩ := r
    exact ⟨ys, show SqT K H a ys from .of hl, q⟩
  · cases e
theorem wk_zip {n n' : Nat} {a a' : Addr} {o o' : Ob} {b b' : Bool} {xs xs' : List Val} (hn : ρ0[n]? = some a) (hn2 : ρ0[n']? = some a') (eo : obT o = some (b, xs)) (eo' : obT o' = some (b', xs')) : WalkOk t ρ0 ⟨pairI xs xs', [(n, o), (n', o')]⟩ (ItzA b b' t.K a a') := by
  intro i ρ h H ⟨τ, e⟩ x ok
  have hk := ok_at ok (n := n) (o := o) (by simp)
  have hk2 := ok_at ok (n := n') (o := o') (by simp)
  have hn' : ρ[n]? = some a := by rw [e, List.getElem?_append_left (List.getElem?_eq_some_iff.mp hn).1]; exact hn
  have hn2' : ρ[n']? = some a' := by rw [e, List.getElem?_append_left (List.getElem?_eq_some_iff.mp hn2).1]; exact hn2
  obtain ⟨ys, hl, r⟩ := or_sq (K := t.K) (x.ob n _ a hk hn') eo
  obtain ⟨ys', hl', r'⟩ := or_sq (K := t.K) (x.ob n' _ a' hk2 hn2') eo'
  refine ⟨fun hi => ⟨ys, ys', hl, hl', ?_⟩, fun it hit => ?_⟩
  · rw [← r.length, ← r'.length]
    simp [pairI_len] at hi
    omega
  obtain ⟨v, w, hv, hw, rfl⟩ := pairI_get xs xs' i it hit
  obtain ⟨y, hy, ry⟩ := pr_get r hv
  obtain ⟨y', hy', ry'⟩ := pr_get r' hw
  refine ⟨⟨ys, ys', y, y', hl, hl', hy, hy'⟩, fun z H' ⟨T, z1, z2, ez, hT, eH, hz, hz'⟩ => ?_⟩
  subst eH; subst ez
  have := hz ys hl
  rw [hy] at this; cases this
  have := hz' ys' hl'
  rw [hy'] at this; cases this
  exact ⟨ρ ++ [T], Ext.new x hT, x.new hT (or_tup (.cons ry (.cons ry' .nil))), VR.new x⟩
/-- what a value is walked as -/
theorem walk_cases {v : Val} {h : Heap} {w : Walk} (e : walkV v h = some w) : (∃ z, v = .str z ∧ w = ⟨z.cps.toList.map fun c => .v (.str ⟨#[c]⟩), []⟩) ∨ (∃ n xs, v = .ref n ∧ h[n]? = some (.lst xs) ∧ w = ⟨xs.map .v, [(n, .lst xs)]⟩) ∨ ∃ n xs, v = .ref n ∧ h[n]? = some (.tup xs) ∧ w = ⟨xs.map .v, [(n, .tup xs)]⟩ := by
  unfold walkV at e
  split at e
  · cases e; exact .inl ⟨_, rfl, rfl⟩
  · split at e
    · cases e; exact .inr (.inl ⟨_, _, rfl, by assumption, rfl⟩)
    · cases e; exact .inr (.inr ⟨_, _, rfl, by assumption, rfl⟩)
    · cases e
  · cases e
theorem i_val (O : Ok X t W) (ha : PE X a (tE t W (den g ma))) : PI X tg a (tI t W (fun s h => (dens g (.cons ma .nil) s h).bind fun vs h => srcR .val vs h)) := by
  refine ⟨fun pins s σ H R I ⟨ρ, h, sl, hr, sr, p⟩ => ?_⟩
  have p0 : Post t ρ H (den g ma sl h) (fun v h1 ρ1 H1 => ∃ w, walkV v h1 = some w ∧ ∀ J, WalkOk t ρ1 w J → R J H1) (EW W σ) := by
    have p := Post.bind p
    unfold dens at p
    refine (Post.bind p).imp fun v h1 ρ1 H1 e1 x1 p1 => ?_
    have p2 := Post.ok x1 (Post.bind (show Post t ρ1 H1 ((Res.ok [] h1).bind fun vs h => Res.ok (v :: vs) h) _ _ from p1))
    have p3 := Post.ok x1 p2
    unfold srcR srcV at p3
    dsimp only at p3
    split at p3
    · rename_i w e
      exact ⟨w, e, p3.ok x1⟩
    · exact p3.elim
  refine thn (ha.run pins s σ H (fun y H1 => ∃ ρ1 h1 v w, HR t ρ1 h1 H1 ∧ VR t ρ1 v y ∧ walkV v h1 = some w ∧ ∀ J, WalkOk t ρ1 w J → R J H1) I ⟨ρ, h, sl, hr, sr, p0.imp fun v h1 ρ1 H1 e1 x1 ⟨w, e, k⟩ y ry => ⟨ρ1, h1, v, w, x1, ry, e, k⟩⟩) fun u s1 ⟨y, H1, I1, r1, ρ1, h1, v, w, x1, ry, e, k⟩ => ?_
  rcases walk_cases e with ⟨z, rfl, rfl⟩ | ⟨n, xs, rfl, hk, rfl⟩ | ⟨n, xs, rfl, hk, rfl⟩
  · cases ry
    obtain ⟨tk, rfl⟩ := r1
    cases hz : z.cps.all (· < 128)
    · exact wpAny_pyIter_wide hz (pi_one (tk := s1.toks) I1 _ (turn_str _ z tk "str_iterator" (.inr rfl)) ⟨_, Heap.get?_push_size _ rfl, rfl, rfl⟩ (k _ wk_str))
    · exact wpAny_pyIter_ascii hz (pi_one (tk := s1.toks) I1 _ (turn_str _ z tk "str_ascii_iterator" (.inl rfl)) ⟨_, Heap.get?_push_size _ rfl, rfl, rfl⟩ (k _ wk_str))
  · obtain ⟨l, rfl, l1, ys, hl, rr⟩ := x1.ref hk ry
    obtain rfl : u = Value.ref l := r1
    obtain ⟨its, rv, pl, _⟩ := I1.list (SqL.of (K := X.K) hl)
    exact wpAny_pyIter_list pl.isList (pi_one (tk := s1.toks) I1 _ (turn_list l _) ⟨_, Heap.get?_push_size _ rfl, rfl, rfl⟩ (k _ (O.hK ▸ wk_list l1)))
  · obtain ⟨l, rfl, l1, ys, hl, rr⟩ := x1.ref hk ry
    obtain rfl : u = Value.ref l := r1
    obtain ⟨its, rv, pl, _⟩ := I1.tuple (SqT.of (K := X.K) hl)
    exact wpAny_pyIter_tuple (show s1.heap.IsTuple l its.toArray from pl) (pi_one (tk := s1.toks) I1 _ (turn_tuple l _) ⟨_, Heap.get?_push_size _ rfl, rfl, rfl⟩ (k _ (O.hK ▸ wk_tup l1)))
/-- a walk of what arguments give -/
theorem post_src {ρ : List Addr} {h : Heap} {H : Hp} {sr : Src} {vs : List Val} {k : Walk → Heap → List Addr → Hp → Prop} {E : Value → Option Addr → Hp → Prop} (x : HR t ρ h H) (p : Post t ρ H (srcR sr vs h) k E) : ∃ w, srcV sr vs h = some w ∧ k w h ρ H := by
  unfold srcR at p
  split at p
  · exact ⟨_, by assumption, p.ok x⟩
  · exact p.elim
theorem i_rng1 {p : Pos} (hm : X.mg "range" = none) (ha : PA X [a] (tA t W (dens g ms))) (hg : Gl X "range" := by rfl) (hs : starEach [a] X.env = [(false, eval a X.env)] := by rfl) : PI X tg (.Call (.Name "range" p) [a] [] pos) (tI t W (fun s h => (dens g ms s h).bind fun vs h => srcR .rng1 vs h)) := by
  refine PIi (pi_range1 hg hm ha hs) fun σ H R ⟨ρ, h, sl, hr, sr, p⟩ => ⟨ρ, h, sl, hr, sr, (Post.bind p).imp fun vs h1 ρ1 H1 e1 x1 p1 ys rv => ?_⟩
  obtain ⟨w, e, k⟩ := post_src x1 p1
  unfold srcV at e
  dsimp only at e
  split at e
  · rename_i j
    split at e
    · rename_i hj
      cases e
      obtain ⟨y, rfl, ry⟩ := vrs1 rv
      cases ry
      exact ⟨j, rfl, hj.1, hj.2, k _ wk_rng⟩
    · cases e
  · cases e
theorem i_rng2 {p : Pos} (hm : X.mg "range" = none) (ha : PA X [a, b] (tA t W (dens g ms))) (hg : Gl X "range" := by rfl) (hs : starEach [a, b] X.env = [(false, eval a X.env), (false, eval b X.env)] := by rfl) (hs2 : starEach [b] X.env = [(false, eval b X.env)] := by rfl) : PI X tg (.Call (.Name "range" p) [a, b] [] pos) (tI t W (fun s h => (dens g ms s h).bind fun vs h => srcR .rng2 vs h)) := by
  refine PIi (pi_range2 hg hm ha hs hs2) fun σ H R ⟨ρ, h, sl, hr, sr, p⟩ => ⟨ρ, h, sl, hr, sr, (Post.bind p).imp fun vs h1 ρ1 H1 e1 x1 p1 ys rv => ?_⟩
  obtain ⟨w, e, k⟩ := post_src x1 p1
  unfold srcV at e
  dsimp only at e
  split at e
  · rename_i i j
    split at e
    · rename_i hj
      cases e
      obtain ⟨y, z, rfl, ry, rz⟩ := vrs2 rv
      cases ry; cases rz
      exact ⟨i, j, rfl, hj, k _ wk_rng⟩
    · cases e
  · cases e
theorem i_enum {p tpos : Pos} {elts : List Expr} {kk : Nat} (O : Ok X t W) (hm : X.mg "enumerate" = none) (ha : PA X [a] (tA t W (dens g ms))) (hg : Gl X "enumerate" := by rfl) (hs : starEach [a] X.env = [(false, eval a X.env)] := by rfl) : PI X (.Tuple elts kk tpos) (.Call (.Name "enumerate" p) [a] [] pos) (tI t W (fun s h => (dens g ms s h).bind fun vs h => srcR .enum vs h)) := by
  refine PIi (pi_enum hg hm ha hs) fun σ H R ⟨ρ, h, sl, hr, sr, p⟩ => ⟨ρ, h, sl, hr, sr, (Post.bind p).imp fun vs h1 ρ1 H1 e1 x1 p1 ys rv => ?_⟩
  obtain ⟨w, e, k⟩ := post_src x1 p1
  unfold srcV at e
  dsimp only at e
  split at e
  · rename_i n
    split at e
    · rename_i xs hk
      cases e
      obtain ⟨y, rfl, ry⟩ := vrs1 rv
      obtain ⟨l, rfl, l1, zs, hl, rr⟩ := x1.ref hk ry
      exact ⟨l, zs, rfl, .of hl, k _ (O.hK ▸ wk_enum l1)⟩
    · cases e
  · cases e
theorem i_zip {p tpos : Pos} {elts : List Expr} {kk : Nat} (O : Ok X t W) (hm : X.mg "zip" = none) (ha : PA X [a, b] (tA t W (dens g ms))) (hg : Gl X "zip" := by rfl) (hs : starEach [a, b] X.env = (false, eval a X.env) :: starEach [b] X.env := by rfl) (hpl : (backTo pos (starEach [b] X.env)).any (·.1) = false := by rfl) : PI X (.Tuple elts kk tpos) (.Call (.Name "zip" p) [a, b] [] pos) (tI t W (fun s h => (dens g ms s h).bind fun vs h => srcR .zip vs h)) := by
  refine PIi (pi_zipAny hg hm ha hs hpl) fun σ H R ⟨ρ, h, sl, hr, sr, p⟩ => ⟨ρ, h, sl, hr, sr, (Post.bind p).imp fun vs h1 ρ1 H1 e1 x1 p1 ys rv => ?_⟩
  obtain ⟨w, e, k⟩ := post_src x1 p1
  unfold srcV at e
  dsimp only at e
  split at e
  · rename_i n n'
    split at e
    · rename_i o xs o' xs' hk hk2
      cases e
      obtain ⟨hk, b1, eo⟩ := obO_obT hk
      obtain ⟨hk2, b2, eo'⟩ := obO_obT hk2
      obtain ⟨y, z, rfl, ry, rz⟩ := vrs2 rv
      obtain ⟨l, rfl, l1, r1⟩ := x1.ref hk ry
      obtain ⟨l', rfl, l2, r2⟩ := x1.ref hk2 rz
      obtain ⟨zs, hl, _⟩ := or_sq (K := X.K) r1 eo
      obtain ⟨zs', hl', _⟩ := or_sq (K := X.K) r2 eo'
      exact ⟨b1, b2, l, l', zs, zs', rfl, hl, hl', k _ (O.hK ▸ wk_zip l1 l2 eo eo')⟩
    · cases e
  · cases e
end
end Mi


/-! # Mi6A: zip of three, reversed, list(zip(..)), divmod, list.count -/
namespace Mi
open PySem PySem.Spec PyProof.Rows L2
section
variable {X : Cx} {t : Th} {W : L2.WX} {g : G} {a b c e o tg : Expr} {es : List Expr} {ma mb mc m mo : Ex} {ms : Exs} {pos : Pos} {ρ0 : List Addr}
/-- a op b op c op d, as a test -/
def tT3 (r r' r'' : R2) (ta tb tc td : TE) : TT := fun σ H Q => ta σ H fun x H1 => tb σ H1 fun y H2 => r x y H2 fun k1 H3 => ∃ k, k1 = .bl k ∧
  (if k = true then tc σ H3 fun z H4 => r' y z H4 fun k2 H5 => ∃ k', k2 = .bl k' ∧ (if k' = true then td σ H5 fun w H6 => r'' z w H6 fun k3 H7 => ∃ k'', k3 = .bl k'' ∧ Q k'' H7 else Q false H5) else Q false H3)
theorem pt_ch3 {d : Expr} {ta tb tc td : TE} {op op' op'' : CmpOp} {r r' r'' : R2} (ho : OpR X (compareOp op) r) (ho' : OpR X (compareOp op') r') (ho'' : OpR X (compareOp op'') r'') (ha : PE X a ta) (hb : PE X b tb) (hc : PE X c tc) (hd : PE X d td)
    (hm : lastMarks [op, op', op''] [b, c, d] = false := by with_unfolding_all rfl) : PT X (.Compare a [op, op', op''] [b, c, d] pos) (tT3 r r' r'' ta tb tc td) := by
  refine ⟨fun pins s σ H Q I h => ?_⟩
  refine isTrue_chain (thn (ha.run pins s σ H _ I h) fun v s1 ⟨x, H1, I1, r1, q1⟩ => test_link (thn (hb.run pins s1 σ H1 _ I1 q1) fun u s2 ⟨y, H2, I2, r2, q2⟩ =>
    thn (ho pins s2 σ H2 x y v u _ I2 r1 r2 q2) fun d s3 ⟨z, H3, I3, r3, k, e, q3⟩ => ?_)) hm
  subst e
  cases r3
  refine wpAny_truthy_bool ?_
  cases k with
  | false => exact ite_ff ⟨H3, I3, q3⟩
  | true =>
    refine ite_tt (test_link (thn (hc.run pins s3 σ H3 _ I3 q3) fun w' s4 ⟨z', H4, I4, r4, q4⟩ => thn (ho' pins s4 σ H4 y z' u w' _ I4 r2 r4 q4) fun d' s5 ⟨z2, H5, I5, r5, k2, e2, q5⟩ => ?_))
    subst e2
    cases r5
    refine wpAny_truthy_bool ?_
    cases k2 with
    | false => exact ite_ff ⟨H5, I5, q5⟩
    | true =>
      refine ite_tt (test_last (thn (hd.run pins s5 σ H5 _ I5 q5) fun w2 s6 ⟨z3, H6, I6, r6, q6⟩ => thn (ho'' pins s6 σ H6 z' z3 w' w2 _ I6 r4 r6 q6) fun d3 s7 ⟨z4, H7, I7, r7, k3, e3, q7⟩ => ?_))
      subst e3
      cases r7
      exact wpAny_truthy_bool ⟨H7, I7, q7⟩
def chT (k : Val) (h : Heap) (f : Heap → Res Bool) : Res Bool :=
  match k with
  | .bl true => f h
  | .bl false => .ok false h
  | _ => .bad
theorem chK_T (k : Val) (h : Heap) (f : Heap → Res Val) : (chK k h f).bind truB = chT k h fun h => (f h).bind truB := by
  cases k with
  | bl b => cases b <;> rfl
  | _ => rfl
theorem rbind_assoc {α β γ : Type} (r : Res α) (f : α → Heap → Res β) (k : β → Heap → Res γ) : (r.bind f).bind k = r.bind fun a h => (f a h).bind k := by cases r <;> rfl
theorem t_ch3 {op op' op'' : CmpOp} {o o' o'' : Op} {d : Expr} {md : Ex} (ho : OpR X (compareOp op) (rOp t (bop o))) (ho' : OpR X (compareOp op') (rOp t (bop o'))) (ho'' : OpR X (compareOp op'') (rOp t (bop o''))) (hB : ∀ x y h, isB (bop o x y h)) (hB' : ∀ x y h, isB (bop o' x y h)) (hB'' : ∀ x y h, isB (bop o'' x y h))
    (ha : PE X a (tE t W (den g ma))) (hb : PE X b (tE t W (den g mb))) (hc : PE X c (tE t W (den g mc))) (hd : PE X d (tE t W (den g md)))
    (hm : lastMarks [op, op', op''] [b, c, d] = false := by with_unfolding_all rfl) : PT X (.Compare a [op, op', op''] [b, c, d] pos) (tT t W (denT g (.ch3 o o' o'' ma mb mc md))) := by
  refine PTi (pt_ch3 ho ho' ho'' ha hb hc hd hm) fun σ H Q ⟨ρ, h, s, hr, sr, p⟩ => ?_
  have e : denT g (.ch3 o o' o'' ma mb mc md) s h = (den g ma s h).bind fun x h => (den g mb s h).bind fun y h => (bop o x y h).bind fun k h => chT k h fun h =>
      (den g mc s h).bind fun z h => (bop o' y z h).bind fun k h => chT k h fun h => (den g md s h).bind fun w h => (bop o'' z w h).bind truB := by
    unfold denT
    conv => lhs; unfold den
    simp only [rbind_assoc, chK_T]
  rw [e] at p
  refine ⟨ρ, h, s, hr, sr, (Post.bind p).imp fun x h1 ρ1 H1 e1 x1 p1 u ru => ⟨ρ1, h1, s, x1, SR.ext e1 sr, (Post.bind p1).imp fun y h2 ρ2 H2 e2 x2 p2 v rv => ⟨ρ2, h2, x, y, x2, ru.ext e2, rv, ?_⟩⟩⟩
  have p3 := Post.bind p2
  generalize hz : bop o x y h2 = r at p3 ⊢
  cases r with
  | bad => exact p3
  | exc c fs h' => exact absurd hz (nox_bop o x y h2 c fs h')
  | ok z h3 =>
    obtain ⟨k, rfl⟩ := hB x y h2 z h3 hz
    refine fun ρ3 H3 e3 x3 w rw => ?_
    cases rw
    refine ⟨k, rfl, ?_⟩
    have q := p3 ρ3 H3 e3 x3
    cases k with
    | false =>
      rw [if_neg Bool.false_ne_true]
      exact Post.ok x3 q
    | true =>
      rw [if_pos rfl]
      have q : Post t ρ3 H3 ((den g mc s h3).bind fun z h => (bop o' y z h).bind fun k h => chT k h fun h => (den g md s h).bind fun w h => (bop o'' z w h).bind truB) (fun b _ _ H' => Q b H') (EW W σ) := q
      refine ⟨ρ3, H3 |> fun _ => h3, s, x3, SR.ext (e1.trans (e2.trans e3)) sr, (Post.bind q).imp fun z' h4 ρ4 H4 e4 x4 p4 w' rw' => ⟨ρ4, h4, y, z', x4, (rv.ext e3).ext e4, rw', ?_⟩⟩
      have p5 := Post.bind p4
      generalize hz' : bop o' y z' h4 = r' at p5 ⊢
      cases r' with
      | bad => exact p5
      | exc c fs h' => exact absurd hz' (nox_bop o' y z' h4 c fs h')
      | ok z2 h5 =>
        obtain ⟨k2, rfl⟩ := hB' y z' h4 z2 h5 hz'
        refine fun ρ5 H5 e5 x5 w2 rw2 => ?_
        cases rw2
        refine ⟨k2, rfl, ?_⟩
        have q := p5 ρ5 H5 e5 x5
        cases k2 with
        | false =>
          rw [if_neg Bool.false_ne_true]
          exact Post.ok x5 q
        | true =>
          rw [if_pos rfl]
          have q : Post t ρ5 H5 ((den g md s h5).bind fun w h => (bop o'' z' w h).bind truB) (fun b _ _ H' => Q b H') (EW W σ) := q
          refine ⟨ρ5, h5, s, x5, SR.ext (e1.trans (e2.trans (e3.trans (e4.trans e5)))) sr, (Post.bind q).imp fun w3 h6 ρ6 H6 e6 x6 p6 w4 rw4 => ⟨ρ6, h6, z', w3, x6, (rw'.ext e5).ext e6, rw4, ?_⟩⟩
          have p7 := Post.bind p6
          generalize hz3 : bop o'' z' w3 h6 = r3 at p7 ⊢
          cases r3 with
          | bad => exact p7
          | exc c fs h' => exact absurd hz3 (nox_bop o'' z' w3 h6 c fs h')
          | ok z4 h7 =>
            obtain ⟨k3, rfl⟩ := hB'' z' w3 h6 z4 h7 hz3
            refine fun ρ7 H7 e7 x7 w5 rw5 => ?_
            cases rw5
            exact ⟨k3, rfl, (p7 ρ7 H7 e7 x7).ok x7⟩
theorem cl_divmod : CallR X (.builtin "divmod") (rCl t (pri g .divmod)) := by
  intro pins s σ H xs us Q I r ⟨ρ, h, vs, hr, rv, p⟩
  unfold pri at p
  dsimp only at p
  split at p
  · rename_i i j
    obtain ⟨y, z, rfl, ry, rz⟩ := vrs2 rv
    cases ry
    cases rz
    split at p
    · rename_i hj
      exact call_divmodW pins s σ H _ us Q I r ⟨i, j, rfl, ⟨hj.1, PyProof.noPylong_small (by omega)⟩, fun q hq => Post.new hr p hq (or_tup (.cons rfl (.cons rfl .nil))) _ (VR.new hr)⟩
    · exact p.elim
  · exact p.elim
theorem mt_count' (hK : t.K = X.K) : MtR X "list.count" (rMt t (met .count)) := by
  intro pins s σ H x xs v us Q I rx rs ⟨ρ, h, a, vs, hr, va, vv, p⟩
  unfold met at p
  dsimp only at p
  split at p
  · rename_i n k
    obtain ⟨y', rfl, ry⟩ := vrs1 vv
    cases ry
    split at p
    · rename_i zs hk
      obtain ⟨l, rfl, l1, ys, hl, r1⟩ := hr.ref hk va
      split at p
      · rename_i ns e
        have := ints_vr r1 e
        subst this
        exact mt_lcount pins s σ H _ _ v us Q I rx rs ⟨l, ns, k, rfl, rfl, .of hl, p.ok hr _ rfl⟩
      · exact p.elim
    · exact p.elim
  · exact p.elim
theorem tripI_get : ∀ (xs ys zs : List Val) (i : Nat) (it : It), (tripI xs ys zs)[i]? = some it → ∃ u v w, xs[i]? = some u ∧ ys[i]? = some v ∧ zs[i]? = some w ∧ it = .tr u v w
  | [], _, _, _, _, e => by simp [tripI] at e
  | x :: xs, [], _, _, _, e => by simp [tripI] at e
  | x :: xs, y :: ys, [], _, _, e => by simp [tripI] at e
  | x :: xs, y :: ys, z :: zs, 0, it, e => by
    simp [tripI] at e
    exact ⟨x, y, z, by simp, by simp, by simp, e.symm⟩
  | x :: xs, y :: ys, z :: zs, i + 1, it, e => by
    have e' : (tripI xs ys zs)[i]? = some it := by simpa [tripI] using e
    obtain ⟨u, v, w, h1, h2, h3, h4⟩ := tripI_get xs ys zs i it e'
    exact ⟨u, v, w, by simpa using h1, by simpa using h2, by simpa using h3, h4⟩
theorem tripI_len : ∀ (xs ys zs : List Val), (tripI xs ys zs).length = min xs.length (min ys.length zs.length)
  | [], _, _ => by simp [tripI]
  | x :: xs, [], _ => by simp [tripI]
  | x :: xs, y :: ys, [] => by simp [tripI]
  | x :: xs, y :: ys, z :: zs => by simp [tripI, tripI_len xs ys zs]
theorem wk_zip3 {n1 n2 n3 : Nat} {a1 a2 a3 : Addr} {o1 o2 o3 : Ob} {b1 b2 b3 : Bool} {x1 x2 x3 : List Val} (hn1 : ρ0[n1]? = some a1) (hn2 : ρ0[n2]? = some a2) (hn3 : ρ0[n3]? = some a3) (eo1 : obT o1 = some (b1, x1)) (eo2 : obT o2 = some (b2, x2)) (eo3 : obT o3 = some (b3, x3)) :
    WalkOk t ρ0 ⟨tripI x1 x2 x3, [(n1, o1), (n2, o2), (n3, o3)]⟩ (Itz3 b1 b2 b3 t.K a1 a2 a3) := by
  intro i ρ h H ⟨τ, e⟩ x ok
  have k1 := ok_at ok (n := n1) (o := o1) (by simp)
  have k2 := ok_at ok (n := n2) (o := o2) (by simp)
  have k3 := ok_at ok (n := n3) (o := o3) (by simp)
  have up : ∀ {n : Nat} {a : Addr}, ρ0[n]? = some a → ρ[n]? = some a := fun {n a} hn => by rw [e, List.getElem?_append_left (List.getElem?_eq_some_iff.mp hn).1]; exact hn
  obtain ⟨ys1, hl1, r1⟩ := or_sq (K := t.K) (x.ob n1 _ a1 k1 (up hn1)) eo1
  obtain ⟨ys2, hl2, r2⟩ := or_sq (K := t.K) (x.ob n2 _ a2 k2 (up hn2)) eo2
  obtain ⟨ys3, hl3, r3⟩ := or_sq (K := t.K) (x.ob n3 _ a3 k3 (up hn3)) eo3
  refine ⟨fun hi => ⟨ys1, ys2, ys3, hl1, hl2, hl3, ?_⟩, fun it hit => ?_⟩
  · rw [← r1.length, ← r2.length, ← r3.length]
    simp [tripI_len] at hi
    omega
  obtain ⟨u, v, w, hu, hv, hw, rfl⟩ := tripI_get _ _ _ i it hit
  obtain ⟨y1, hy1, ry1⟩ := pr_get r1 hu
  obtain ⟨y2, hy2, ry2⟩ := pr_get r2 hv
  obtain ⟨y3, hy3, ry3⟩ := pr_get r3 hw
  refine ⟨⟨ys1, ys2, ys3, y1, y2, y3, hl1, hl2, hl3, hy1, hy2, hy3⟩, fun z H' ⟨T, z1, z2, z3, ez, hT, eH, hz1, hz2, hz3⟩ => ?_⟩
  subst eH; subst ez
  have := hz1 ys1 hl1
  rw [hy1] at this; cases this
  have := hz2 ys2 hl2
  rw [hy2] at this; cases this
  have := hz3 ys3 hl3
  rw [hy3] at this; cases this
  exact ⟨ρ ++ [T], Ext.new x hT, x.new hT (or_tup (.cons ry1 (.cons ry2 (.cons ry3 .nil)))), VR.new x⟩
theorem vrs3 {ρ : List Addr} {u v w : Val} {ys : List V} (r : VRs t ρ [u, v, w] ys) : ∃ x y z, ys = [x, y, z] ∧ VR t ρ u x ∧ VR t ρ v y ∧ VR t ρ w z := by
  cases r with
  | cons r1 r =>
    cases r with
    | cons r2 r =>
      cases r with
      | cons r3 r => cases r; exact ⟨_, _, _, rfl, r1, r2, r3⟩
theorem i_zip3 {p tpos : Pos} {elts : List Expr} {kk : Nat} (O : Ok X t W) (hm : X.mg "zip" = none) (ha : PA X [a, b, c] (tA t W (dens g ms))) (hg : Gl X "zip" := by rfl) (hs : starEach [a, b, c] X.env = (false, eval a X.env) :: starEach [b, c] X.env := by rfl) (hpl : (backTo pos (starEach [b, c] X.env)).any (·.1) = false := by rfl) : PI X (.Tuple elts kk tpos) (.Call (.Name "zip" p) [a, b, c] [] pos) (tI t W (fun s h => (dens g ms s h).bind fun vs h => srcR .zip3 vs h)) := by
  refine PIi (pi_zip3 hg hm ha hs hpl) fun σ H R ⟨ρ, h, sl, hr, sr, p⟩ => ⟨ρ, h, sl, hr, sr, (Post.bind p).imp fun vs h1 ρ1 H1 e1 x1 p1 ys rv => ?_⟩
  obtain ⟨w, e, k⟩ := post_src x1 p1
  unfold srcV at e
  dsimp only at e
  split at e
  · rename_i n1 n2 n3
    split at e
    · rename_i o1 x1' o2 x2' o3 x3' hk1 hk2 hk3
      cases e
      obtain ⟨hk1, b1, eo1⟩ := obO_obT hk1
      obtain ⟨hk2, b2, eo2⟩ := obO_obT hk2
      obtain ⟨hk3, b3, eo3⟩ := obO_obT hk3
      obtain ⟨y1, y2, y3, rfl, ry1, ry2, ry3⟩ := vrs3 rv
      obtain ⟨l1, rfl, m1, r1⟩ := x1.ref hk1 ry1
      obtain ⟨l2, rfl, m2, r2⟩ := x1.ref hk2 ry2
      obtain ⟨l3, rfl, m3, r3⟩ := x1.ref hk3 ry3
      obtain ⟨zs1, hl1, _⟩ := or_sq (K := X.K) r1 eo1
      obtain ⟨zs2, hl2, _⟩ := or_sq (K := X.K) r2 eo2
      obtain ⟨zs3, hl3, _⟩ := or_sq (K := X.K) r3 eo3
      exact ⟨b1, b2, b3, l1, l2, l3, zs1, zs2, zs3, rfl, hl1, hl2, hl3, k _ (O.hK ▸ wk_zip3 m1 m2 m3 eo1 eo2 eo3)⟩
    · cases e
  · cases e
theorem wk_rev {n : Nat} {a : Addr} {xs : List Val} (hn : ρ0[n]? = some a) : WalkOk t ρ0 ⟨xs.reverse.map .v, [(n, .lst xs)]⟩ (Itv t.K a xs.length) := by
  intro i ρ h H ⟨τ, e⟩ x ok
  have hk := ok_at ok (List.mem_singleton.mpr rfl)
  have hn' : ρ[n]? = some a := by rw [e, List.getElem?_append_left (List.getElem?_eq_some_iff.mp hn).1]; exact hn
  obtain ⟨ys, hl, r⟩ := x.ob n _ a hk hn'
  refine ⟨fun hi => show xs.length ≤ i by simpa using hi, fun it hit => ?_⟩
  rw [List.getElem?_map] at hit
  obtain ⟨v, hv, rfl⟩ := Option.map_eq_some_iff.mp hit
  have hi : i < xs.length := by
    have := (List.getElem?_eq_some_iff.mp hv).1
    simpa using this
  rw [List.getElem?_reverse hi] at hv
  obtain ⟨y, hy, ry⟩ := pr_get r hv
  refine ⟨⟨hi, ys, y, .of hl, hy⟩, fun z H' ⟨eH, hz⟩ => ?_⟩
  subst eH
  have := hz ys (.of hl)
  rw [hy] at this; cases this
  exact ⟨ρ, Ext.refl _ _, x, ry⟩
theorem i_rev {p : Pos} (O : Ok X t W) (hm : X.mg "reversed" = none) (ha : PE X a (tE t W (den g ma))) (hg : Gl X "reversed" := by rfl) (hs : starEach [a] X.env = (false, eval a X.env) :: starEach [] X.env := by rfl) :
    PI X tg (.Call (.Name "reversed" p) [a] [] pos) (tI t W (fun s h => (dens g (.cons ma .nil) s h).bind fun vs h => srcR .rev vs h)) := by
  refine PIi (RT.pi_revA hg hm ha hs) fun σ H R ⟨ρ, h, sl, hr, sr, p⟩ => ?_
  have p0 : Post t ρ H (den g ma sl h) (fun v h1 ρ1 H1 => ∀ y, VR t ρ1 v y → ∃ (l : Addr) (xs : List V), y = .ref l ∧ ((SqL X.K H1 l xs ∧ R (Itv X.K l xs.length) H1) ∨ (SqT X.K H1 l xs ∧ R (RT.ItvT X.K l xs.length) H1))) (EW W σ) := by
    have p := Post.bind p
    unfold dens at p
    refine (Post.bind p).imp fun v h1 ρ1 H1 e1 x1 p1 y ry => ?_
    have p2 := Post.ok x1 (Post.bind (show Post t ρ1 H1 ((Res.ok [] h1).bind fun vs h => Res.ok (v :: vs) h) _ _ from p1))
    have p3 := Post.ok x1 p2
    obtain ⟨w, e, k⟩ := post_src x1 p3
    unfold srcV at e
    dsimp only at e
    split at e
    · rename_i n e0
      cases e0
      split at e
      · rename_i xs hk
        cases e
        obtain ⟨l, rfl, l1, ys, hl, rr⟩ := x1.ref hk ry
        refine ⟨l, ys, rfl, .inl ⟨.of hl, k _ ?_⟩⟩
        rw [← rr.length, ← O.hK]
        exact wk_rev l1
      · cases e
    · cases e
  exact ⟨ρ, h, sl, hr, sr, p0⟩
/-- many new objects -/
theorem HR.grow {ρ : List Addr} {h : Heap} {H H' : Hp} {os : List Ob} {as : List Addr} (x : HR t ρ h H) (hl : as.length = os.length) (hn : ∀ a ∈ as, H a = none) (nd : as.Nodup) (keep : ∀ b o, H b = some o → H' b = some o)
    (k : ∀ (i : Nat) o a, os[i]? = some o → as[i]? = some a → OR t (ρ ++ as) H' a o) : HR t (ρ ++ as) (h ++ os) H' ∧ Ext ρ H (ρ ++ as) H' := by
  have hf : ∀ a ∈ as, a ∉ ρ := fun a ha => x.free (hn a ha)
  refine ⟨⟨by simp [x.len, hl], ?_, fun n ob b e1 e2 => ?_, ?_, fun _ _ d fs ed => ?_⟩, ⟨⟨as, rfl⟩, fun b o _ e => keep b o e, fun b h1 h2 => ?_⟩⟩
  · rw [List.nodup_append]
    exact ⟨x.nd, nd, fun b hb c hc e => hf c hc (e ▸ hb)⟩
  · by_cases hm : n < h.length
    · rw [List.getElem?_append_left hm] at e1
      rw [List.getElem?_append_left (by rw [x.len]; exact hm)] at e2
      have q := x.ob n ob b e1 e2
      obtain ⟨u, hu, _⟩ := q.tr
      exact (q.at ((keep b u hu).trans hu.symm)).app
    · rw [List.getElem?_append_right (by omega)] at e1
      rw [List.getElem?_append_right (by rw [x.len]; omega), x.len] at e2
      exact k _ _ _ e1 e2
  · rcases x.sc with ⟨o, e⟩ | e
    · exact .inl ⟨o, keep _ _ e⟩
    · exact .inr e
  · obtain ⟨ys, e, q⟩ := x.xs _ _ d fs ed
    exact ⟨ys, keep _ _ e, pr_mono (fun _ _ z => ⟨z.1, z.2.app⟩) q⟩
  · rcases List.mem_append.mp h1 with z | z
    · exact absurd z h2
    · exact hn b z
theorem pr_zip {ρ : List Addr} : ∀ {xs ys : List Val} {us vs : List V}, VRs t ρ xs us → VRs t ρ ys vs → Paired (fun (p : Val × Val) (q : V × V) => VR t ρ p.1 q.1 ∧ VR t ρ p.2 q.2) (xs.zip ys) (us.zip vs)
  | _, _, _, _, .nil, _ => .nil
  | _, _, _, _, .cons _ _, .nil => .nil
  | _, _, _, _, .cons r a, .cons r' b => .cons ⟨r, r'⟩ (pr_zip a b)
theorem pr_ix {α β : Type} {F : α → β → Prop} : ∀ {xs : List α} {ys : List β}, xs.length = ys.length → (∀ (i : Nat) x y, xs[i]? = some x → ys[i]? = some y → F x y) → Paired F xs ys
  | [], [], _, _ => .nil
  | x :: xs, y :: ys, h, f => .cons (f 0 x y rfl rfl) (pr_ix (by simpa using h) fun i a b e1 e2 => f (i + 1) a b (by simpa using e1) (by simpa using e2))
  | [], y :: ys, h, _ => by simp at h
  | x :: xs, [], h, _ => by simp at h
theorem pr_both {α β : Type} {F : α → β → Prop} {xs : List α} {ys : List β} {i : Nat} {x : α} {y : β} (r : Paired F xs ys) (e1 : xs[i]? = some x) (e2 : ys[i]? = some y) : F x y := by
  obtain ⟨y', h1, h2⟩ := pr_get r e1
  rw [e2] at h1
  cases h1
  exact h2
theorem nox_lz (vs : List Val) (h : Heap) : NoX (lzO vs h) := by
  unfold lzO lzV
  repeat' split
  all_goals first | exact nox_ok | exact nox_bad
theorem e_lz {p p2 pos2 : Pos} (O : OkC X t W) (hm : X.mg "list" = none) (hm2 : X.mg "zip" = none) (ha : PA X [a, b] (tA t W (dens g ms))) (hg : Gl X "list" := by rfl) (hg2 : Gl X "zip" := by rfl)
    (hs : starEach [.Call (.Name "zip" p2) [a, b] [] pos2] X.env = (false, eval (.Call (.Name "zip" p2) [a, b] [] pos2) X.env) :: starEach [] X.env := by rfl)
    (hs2 : starEach [a, b] X.env = (false, eval a X.env) :: starEach [b] X.env := by rfl) (hpl : (backTo pos2 (starEach [b] X.env)).any (·.1) = false := by rfl) :
    PE X (.Call (.Name "list" p) [.Call (.Name "zip" p2) [a, b] [] pos2] [] pos) (tE t W (den g (.lz ms))) := by
  refine PEi (pe_lz O.calm hg hm hg2 hm2 ha hs hs2 hpl) fun σ H Q ⟨ρ, h, s, hr, sr, p⟩ => ?_
  unfold den at p
  refine ⟨ρ, h, s, hr, sr, (Post.bind p).imp fun vs h1 ρ1 H1 e1 x1 p1 us ru => ?_⟩
  unfold lzO at p1
  split at p1
  · rename_i v w
    obtain ⟨y, z, rfl, ry, rz⟩ := vrs2 ru
    split at p1
    · rename_i xs ys hx hy
      obtain ⟨l1, zs1, rfl, hl1, r1⟩ := seq_of x1 ry hx
      obtain ⟨l2, zs2, rfl, hl2, r2⟩ := seq_of x1 rz hy
      have sq : ∀ {l : Addr} {zs : List V}, (H1 l = some (.lst zs) ∨ H1 l = some (.tup zs)) → ∃ u : Bool, SqA u X.K H1 l zs := fun {l zs} hl => by
        rcases hl with hl | hl
        · exact ⟨false, show SqL X.K H1 l zs from .of hl⟩
        · exact ⟨true, show SqT X.K H1 l zs from .of hl⟩
      obtain ⟨u1, q1⟩ := sq hl1
      obtain ⟨u2, q2⟩ := sq hl2
      refine ⟨u1, u2, l1, l2, zs1, zs2, rfl, q1, q2, fun H' p ts k1 k2 k3 k4 k5 k6 k7 => ?_⟩
      have rz := pr_zip r1 r2
      have lz := rz.length
      have lt : ts.length = (zs1.zip zs2).length := k7.length
      have hlen : (ts ++ [p]).length = ((xs.zip ys).map (fun p => Ob.tup [p.1, p.2]) ++ [Ob.lst ((List.range (xs.zip ys).length).map fun k => .ref (h1.length + k))]).length := by
        simp only [List.length_append, List.length_map, List.length_cons, List.length_nil]
        omega
      obtain ⟨g1, g2⟩ := HR.grow (os := (xs.zip ys).map (fun p => Ob.tup [p.1, p.2]) ++ [.lst ((List.range (xs.zip ys).length).map fun k => .ref (h1.length + k))]) (as := ts ++ [p]) x1 hlen (fun a ha => by
        rcases List.mem_append.mp ha with z | z
        · exact k3 a z
        · rw [List.mem_singleton.mp z]; exact k2) (by
        rw [List.nodup_append]
        refine ⟨k5, by simp, fun b hb c hc e => k4 ?_⟩
        rw [List.mem_singleton.mp hc] at e
        exact e ▸ hb) k1 (fun i ob ad i1 i2 => by
        by_cases hi : i < (xs.zip ys).length
        · rw [List.getElem?_append_left (by rw [List.length_map]; exact hi), List.getElem?_map, List.getElem?_eq_getElem hi] at i1
          cases i1
          rw [List.getElem?_append_left (by omega)] at i2
          have c2 : i < (zs1.zip zs2).length := by omega
          have c3 := pr_both k7 i2 (List.getElem?_eq_getElem c2)
          have c4 := pr_both rz (List.getElem?_eq_getElem hi) (List.getElem?_eq_getElem c2)
          exact ⟨_, c3, .cons c4.1.app (.cons c4.2.app .nil)⟩
        · have i3 : i = (xs.zip ys).length := by
            have := (List.getElem?_eq_some_iff.mp i1).1
            simp only [List.length_append, List.length_map, List.length_cons, List.length_nil] at this
            omega
          subst i3
          rw [List.getElem?_append_right (by rw [List.length_map]; exact Nat.le_refl _), List.length_map, Nat.sub_self] at i1
          cases i1
          rw [List.getElem?_append_right (by omega), show (xs.zip ys).length - ts.length = 0 by omega] at i2
          cases i2
          refine ⟨_, k6, pr_ix (by rw [List.length_map, List.length_map, List.length_range]; omega) fun j v y j1 j2 => ?_⟩
          rw [List.getElem?_map] at j1 j2
          obtain ⟨j', h1', rfl⟩ := Option.map_eq_some_iff.mp j1
          obtain ⟨ad', h2', rfl⟩ := Option.map_eq_some_iff.mp j2
          have hj := (List.getElem?_eq_some_iff.mp h1').1
          rw [List.length_range] at hj
          rw [List.getElem?_range hj] at h1'
          cases h1'
          refine ⟨ad', ?_, rfl⟩
          rw [List.getElem?_append_right (by rw [x1.len]; omega), x1.len, List.getElem?_append_left (by omega), show h1.length + j - h1.length = j by omega]
          exact h2')
      unfold lzV at p1
      have q := p1 _ H' g2 g1
      refine q _ ⟨p, ?_, rfl⟩
      rw [List.getElem?_append_right (by rw [x1.len]; omega), x1.len, List.getElem?_append_right (by omega), show h1.length + (xs.zip ys).length - h1.length - ts.length = 0 by omega]
      rfl
    · exact p1.elim
  · exact p1.elim
end
end Mi


/-! # Mi6X: exceptions at the hand layer's level: clauses with and without a name, classes whose __init__ calls its base's -/
namespace Mi
open PySem PySem.Spec PyProof.Rows L2
abbrev ClF := Addr → Value → Option Addr → TS
/-- the ends behind a suite whose name goes -/
def cutD (D : Ends) (i : Nat) : Ends := { nx := fun σ H => D.nx (σ.set i none) H, rt := D.rt, bk := fun σ H => D.bk (σ.set i none) H, ct := fun σ H => D.ct (σ.set i none) H }
/-- what the clauses wish of an exception -/
def wAny (K : PySem.W.Frag) (Wout : WX) (D : Ends) : List (Value × Option Nat × ClF) → WX
  | [] => Wout
  | (c, none, ts) :: r => fun cls d σ H => ∃ b, PySem.W.exmOne K cls c = some b ∧ (b = true → ∀ a, H a = none → ts a cls d D σ H) ∧ (b = false → wAny K Wout D r cls d σ H)
  | (c, some i, ts) :: r => fun cls d σ H => ∃ b, PySem.W.exmOne K cls c = some b ∧ (b = true → ∀ a, H a = none → ts a cls d (cutD D i) (σ.set i (some (.ref a))) H) ∧ (b = false → wAny K Wout D r cls d σ H)
abbrev SuOk (X : Cx) (body : List Stmt) (ts : ClF) : Prop := ∀ (a : Addr) (oe : PySem.Obj) (cls : Value) (d : Option Addr) (pn : List (Addr × PySem.Obj)), Zc cls d oe → (∃ vs, oe.data = .fields vs) → PSs (X.suite a ((a, oe) :: pn)) body (ts a cls d)
inductive HdsAny (X : Cx) : List ExceptHandler → List (Value × Option Nat × ClF) → Prop
  | nil : HdsAny X [] []
  | plain {x : Str} {c : Value} {ts : ClF} {b₀ : Stmt} {suite : List Stmt} {np pos' : Pos} {hds : List ExceptHandler} {l : List (Value × Option Nat × ClF)} (hc : Names X x c) (hsu : SuOk X (b₀ :: suite) ts) (r : HdsAny X hds l) :
      HdsAny X (.ExceptHandler (some (.Name x np)) none (b₀ :: suite) pos' :: hds) ((c, none, ts) :: l)
  | named {x nm : Str} {c : Value} {i : Nat} {ts : ClF} {b₀ : Stmt} {suite : List Stmt} {np pos' : Pos} {hds : List ExceptHandler} {l : List (Value × Option Nat × ClF)} (hc : Names X x c) (hi : X.N[i]? = some nm) (hln : X.env.kindOf nm = some .local) (hsu : SuOk X (b₀ :: suite) ts) (r : HdsAny X hds l) :
      HdsAny X (.ExceptHandler (some (.Name x np)) (some nm) (b₀ :: suite) pos' :: hds) ((c, some i, ts) :: l)
section
variable {X : Cx} {body : List Stmt} {h₀ : ExceptHandler} {hds : List ExceptHandler} {l : List (Value × Option Nat × ClF)} {pos : Pos} {tb : WX → TS} {Wout : WX}
theorem ps_try_any (hs : X.stack = X.env :: X.outer) (hf : X.env.frame = some X.env.locals) (hN : X.N.Nodup) (tk : Takes X Wout) (hb : ∀ (W : WX) (pn : List (Addr × PySem.Obj)) (xe : Value → Shared → Prop), Takes (X.tr pn xe) W → PassesOwn (model X.prog X.w) X.A X.env xe → PSs (X.tr pn xe) body (tb W)) (hh : HdsAny X (h₀ :: hds) l) :
    PS X (.Try body (h₀ :: hds) [] [] pos) (fun D σ H => tb (wAny X.K Wout D l) D σ H) := by
  refine ⟨fun pins s σ H D I hyp => ?_⟩
  have okX := I.ok
  have frX : X.A.frames = some (X.env :: X.outer) := okX.frames.trans (by rw [hs])
  refine wpAny_Try_except (wpAny_mono ((hb (wAny X.K Wout D l) (X.pn ++ pins) (fun e s₁ => wpAny (model X.prog X.w) X.A (noteFrame e X.env) (fun _ s₂ => wpAny (model X.prog X.w) X.A (setFlight e none) (fun _ s₃ => wpAny (model X.prog X.w) X.A (handleBy e X.env (h₀ :: hds)) (SP X pins D) X.xe s₃) X.xe s₂) X.xe s₁) (fun u s' caught => ?_) PassesOwn.looking).run [] s σ H D (I.toTry _) hyp) (fun f s1 good => ?_) fun e s1 z => z)
  · obtain ⟨a, B, sI, pins', σ', H', cls, d, eu, Jt, nb, upA, skyA, na, osA, ag, w⟩ := caught
    subst eu
    have Jx : Inv X pins σ' H' sI := Jt.ofTry okX
    refine (show wpAny (model X.prog X.w) X.A (noteFrame (.ref a) X.env) _ _ _ from Sky.land Zc.steady frX hf (show Sky B (X.env :: X.outer) a (Zc cls d) X.env.locals s'.heap by rw [← hs]; exact skyA) fun h3 fl3 up3 => ?_)
    have Jl : Inv X pins σ' H' { s' with heap := h3 } := Jx.landed nb fl3.1 (upA.trans up3) osA ag
    obtain ⟨oe3, vs3, at3, z3, dat3⟩ := fl3.there
    have off : a ∉ frs (X.env :: X.outer) := fun hm => by
      obtain ⟨_, o', eo, nofld⟩ := fl3.2.2.1.mem hm
      rw [at3] at eo
      cases eo
      exact nofld _ dat3
    have offL : a ≠ X.env.locals := fun z => off (List.mem_filterMap.mpr ⟨X.env, List.mem_cons_self, by rw [hf, z]⟩)
    have offF : a ∉ X.fs := fun hm => by
      obtain ⟨e, he, q⟩ := List.mem_filterMap.mp hm
      exact off (List.mem_filterMap.mpr ⟨e, List.mem_cons_of_mem _ he, q⟩)
    have Su3 := Jl.suite at3 dat3 na offL offF
    have LT : PySem.W.Looks (model X.prog X.w) h3 (typeOf (.ref a)) cls := fun A Q E s k q => wpAny_typeOf_ref (k _ _ at3) (by rw [z3.1]; exact q)
    have test : ∀ {x : Str} {c : Value} {np : Pos} {Q E : Value → Shared → Prop}, Names X x c → Q c { s' with heap := h3 } → wpAny (model X.prog X.w) (X.A.mark (some (.ref a))) (eval (.Name x np) X.env) Q E { s' with heap := h3 } := fun {x c np Q E} hc q => by
      obtain ⟨hg, hdbg, hm⟩ := hc
      rcases hm with hm | ⟨hm, hv, hnn⟩
      · exact ld_glob (X := X.suite a ((a, oe3) :: (X.pn ++ pins))) Su3 hg hm q hdbg
      · exact ld_blt (X := X.suite a ((a, oe3) :: (X.pn ++ pins))) Su3 hg hm hv q hnn hdbg
    have all : ∀ {hs2 : List ExceptHandler} {l2 : List (Value × Option Nat × ClF)}, HdsAny X hs2 l2 → wAny X.K Wout D l2 cls d σ' H' → wpAny (model X.prog X.w) X.A (handleBy (.ref a) X.env hs2) (SP X pins D) X.xe { s' with heap := h3 } := by
      intro hs2 l2 hk
      induction hk with
      | nil =>
        intro w
        refine wpAny_handleBy_nil ?_
        obtain ⟨_, _, _, oe, vs, T, oT, ts', he, hz, hd, h1, hr⟩ := id fl3
        unfold PySem.passOn
        refine wpAny_bind (wpAny_field he hd h1 ?_)
        rw [if_neg (by simp : ¬ ((Value.ref T == Value.none) = true))]
        have away : wpAny (model X.prog X.w) X.A (setFlight (.ref a) X.env.frame) (fun _ s4 => wpAny (model X.prog X.w) X.A (throw (.ref a) : Sem Flow) (SP X pins D) X.xe s4) X.xe { s' with heap := h3 } := by
          rw [hf]
          exact HandSPX.setFlight_upZ fl3 fun h4 hh4 up4 => wpAny_throw (tk _ _ ⟨a, B, sI, pins, σ', H', cls, d, rfl, Jx, nb, (upA.trans up3).trans up4, .inr (.inr (by rw [hs]; exact hh4)), na, osA, ag, w⟩)
        first
          | exact wpAny_bind (wpAny_pure (wpAny_bind away))
          | exact wpAny_bind away
      | @plain x c ts b₀ suite np pos' hds2 l2 hc hsu r ih =>
        intro w
        obtain ⟨b, hb1, hyes, hno⟩ := w
        refine wpAny_handleBy_cons (codeAny_handlers_test (test hc ((PySem.W.exm_one (M := model X.prog X.w) Jl.kIn LT hb1).here ?_))) (by intro q; cases q)
        cases b with
        | false => exact (show wpAny _ X.A (handleBy (.ref a) X.env hds2) _ _ _ from ih (hno rfl))
        | true =>
          refine codeAny_handlers_suite (HandSPX.lands_againZ fl3 fun h4 fl4 up4 => ?_)
          obtain ⟨oe4, vs4, at4, z4, dat4⟩ := fl4.there
          have Su4 := (Jx.landed nb fl4.1 ((upA.trans up3).trans up4) osA ag : Inv X pins σ' H' { s' with heap := h4 }).suite at4 dat4 na offL offF
          refine wpAny_mono ((hsu a oe4 cls d (X.pn ++ pins) z4 ⟨_, dat4⟩).run [] _ _ H' _ Su4 (hyes rfl a na)) (fun f s6 good => ?_) fun _ _ z => z.elim
          cases f with
          | ret u => obtain ⟨v6, σ6, H6, S6, r6, q6⟩ := good; exact ⟨_, _, _, S6.unsuite okX, r6, q6⟩
          | next => obtain ⟨σ6, H6, S6, q6⟩ := good; exact ⟨_, _, S6.unsuite okX, q6⟩
          | brk => obtain ⟨σ6, H6, S6, q6⟩ := good; exact ⟨_, _, S6.unsuite okX, q6⟩
          | cont => obtain ⟨σ6, H6, S6, q6⟩ := good; exact ⟨_, _, S6.unsuite okX, q6⟩
      | @named x nm c i ts b₀ suite np pos' hds2 l2 hc hi hln hsu r ih =>
        intro w
        obtain ⟨b, hb1, hyes, hno⟩ := w
        refine wpAny_handleBy_cons (codeAny_handlers_test (test hc ((PySem.W.exm_one (M := model X.prog X.w) Jl.kIn LT hb1).here ?_))) (by intro q; cases q)
        cases b with
        | false => exact (show wpAny _ X.A (handleBy (.ref a) X.env hds2) _ _ _ from ih (hno rfl))
        | true =>
          refine codeAny_handlers_suite_as (HandSPX.lands_againZ fl3 fun h4 fl4 up4 => ?_)
          obtain ⟨oe4, vs4, at4, z4, dat4⟩ := fl4.there
          have Su4 := (Jx.landed nb fl4.1 ((upA.trans up3).trans up4) osA ag : Inv X pins σ' H' { s' with heap := h4 }).suite at4 dat4 na offL offF
          refine store_ok (X := X.suite a ((a, oe4) :: (X.pn ++ pins))) (v := .ref a) Su4 hN hi (.inl hln) rfl (fun s5 Su5 => ?_) (.inr hln)
          refine wpAny_mono ((hsu a oe4 cls d (X.pn ++ pins) z4 ⟨_, dat4⟩).run [] s5 _ H' _ Su5 (hyes rfl a na)) (fun f s6 good => ?_) fun _ _ z => z.elim
          have gone : ∀ {σ6 : L2.St} {H6 : Hp} {Q : Shared → Prop}, Inv (X.suite a ((a, oe4) :: (X.pn ++ pins))) [] σ6 H6 s6 → (∀ s7, Inv X pins (σ6.set i none) H6 s7 → Q s7) → wpAny (model X.prog X.w) X.A (do bindName X.env nm .none; unbindBehindTheSuite X.env nm pos') (fun _ s7 => Q s7) X.xe s6 := fun {σ6 H6 Q} S6 hq => gone_ok (S6.unsuite okX) hN hi hln hq
          cases f with
          | ret u => obtain ⟨v6, σ6, H6, S6, r6, q6⟩ := good; exact gone S6 fun s7 J7 => ⟨_, _, _, J7, r6, q6⟩
          | next => obtain ⟨σ6, H6, S6, q6⟩ := good; exact gone S6 fun s7 J7 => ⟨_, _, J7, q6⟩
          | brk => obtain ⟨σ6, H6, S6, q6⟩ := good; exact gone S6 fun s7 J7 => ⟨_, _, J7, q6⟩
          | cont => obtain ⟨σ6, H6, S6, q6⟩ := good; exact gone S6 fun s7 J7 => ⟨_, _, J7, q6⟩
    exact all hh w
  · cases f with
    | ret u => obtain ⟨v, σ', H', J', r, q⟩ := good; exact ⟨v, σ', H', J'.ofTry okX, r, q⟩
    | brk => obtain ⟨σ', H', J', q⟩ := good; exact ⟨σ', H', J'.ofTry okX, q⟩
    | cont => obtain ⟨σ', H', J', q⟩ := good; exact ⟨σ', H', J'.ofTry okX, q⟩
    | next => obtain ⟨σ', H', J', q⟩ := good; exact wpAny_execs_nil ⟨σ', H', J'.ofTry okX, q⟩
end
/-! ## classes -/
/-- what is asked of a class's __init__ that passes a text on -/
def spBI (K : PySem.W.Frag) : Sp := fun vs H Q E => ∃ (a C : Addr) (w : V), vs = [.ref a, w] ∧ OexC K C ∧ H a = some (exo a C none) ∧ Q .non H
/-- .. that stores its arguments as fields -/
def spI (C : Addr) (fs : List Str) : Sp := fun vs H Q E => ∃ (a : Addr) (ws : List V), vs = .ref a :: ws ∧ ws.length = fs.length ∧ H a = some (exo a C none) ∧
  ∀ d H2, H d = none → d ≠ a → H2 a = some (exo a C (some d)) → H2 d = some (exd d (fs.zip ws).reverse) → (∀ b, b ≠ a → b ≠ d → H2 b = H b) → Q .non H2
theorem spBI_len {K : PySem.W.Frag} {x y : Str} {vs : List V} {H : Hp} {Q : VK} {E : XK} (h : spBI K vs H Q E) : vs.length = ([x, y] : List Str).length := by
  obtain ⟨a, C, w, rfl, _⟩ := h
  rfl
theorem spI_len {C : Addr} {x : Str} {fs : List Str} {vs : List V} {H : Hp} {Q : VK} {E : XK} (h : spI C fs vs H Q E) : vs.length = (x :: fs).length := by
  obtain ⟨a, ws, rfl, e, _⟩ := h
  simp [e]
theorem base_ok {K : PySem.W.Frag} {x y : Str} {vs : List V} {H : Hp} {Q : VK} {E : XK} (h : spBI K vs H Q E) : tDrop (tVeI K (tCons (tVar 0) (tCons (tVar 1) tNil))) { nx := fun _ H' => Q .non H', rt := Q } (L2.start [x, y] vs) H := by
  obtain ⟨a, C, w, rfl, T, e, q⟩ := h
  exact ⟨.ref a, rfl, w, rfl, a, C, [w], rfl, by simp, T, e, q⟩
/-- the class at D, whose __init__ is the def at fB -/
structure ExB (K : PySem.W.Frag) (mg : Str → Option Value) (x : Str) (D fB : Addr) : Prop where
  gD : mg x = some (.ref D)
  rd : ClX.CRead K D (.type "type")
  iv : ClX.CVal K D (.type "type") "__init__" (.ref fB) (.ref fB)
  kf : PySem.W.keepIn K (.ref fB) = true
theorem pe_clsinit {X : Cx} {x : Str} {D fB : Addr} {e : Expr} {es : List Expr} {ta : TA} {k : Nat} {fd : FuncData} {ps : List Str} {sp : Sp} {p1 p2 pos : Pos} {pl : Sem Bool} (B : ExB X.K X.mg x D fB) (F : FnOk X.prog X.w X.K X.mg X.base (L2.CX X.prog X.w) k fB fd ps sp) (hr : Room k X.A) (hb : Binds X.K fd ps []) (hg : Gl X x) (ha : PA X (e :: es) ta)
    (hc : eval (.Call (.Attribute (.Name x p1) "__init__" p2) (e :: es) [] pos) X.env = (do
      let ov ← eval (.Name x p1) X.env
      standAt p2.atName
      let (f, first) ← holding [ov] (getMethod ov "__init__" pl)
      callWith pos f first (backTo pos (starEach (e :: es) X.env)) (backToKw pos (keywordEach [] X.env))) := by rfl)
    (hdb : (x == ("__debug__" : Str)) = false := by decide) (he : starEach (e :: es) X.env = (false, eval e X.env) :: starEach es X.env := by rfl) (hpl : (backTo pos (starEach es X.env)).any (·.1) = false := by rfl) :
    PE X (.Call (.Attribute (.Name x p1) "__init__" p2) (e :: es) [] pos) (tCall sp [] L2.E0 ta) := by
  refine ⟨fun pins s σ H Q I h => ?_⟩
  refine PySem.W.methodCall_KW (ld_glob I hg B.gD ?_ hdb) hc
  refine PySem.W.method_cls (I.tok _).kIn B.rd.ga (ClX.getcval_ok (I.tok _) B.rd B.iv fun s' I' => ?_)
  show wpAny _ _ (callWith pos (Value.ref fB) [] (backTo pos (starEach (e :: es) X.env)) []) _ _ _
  refine PySem.W.callWith_K (h₀ := X.base) I.ok.mod.kin B.kf (thn (ha.run pos pins s' σ H _ I' h) fun us s1 ⟨vs, H1, I1, r, q⟩ => ⟨I1.kIn, ?_⟩) he hpl
  exact run_fn F hr hb .nil passL I1 r q
/-- a class: made, raised, its fields read -/
structure ExC (K : PySem.W.Frag) (mg : Str → Option Value) (x : Str) (C fI : Addr) (fs : List Str) : Prop where
  gC : mg x = some (.ref C)
  ox : OexC K C
  iC : PySem.W.findIn K (.ref C) "__init__" = some (some (.ref fI))
  tI : PySem.W.typeIn K (.ref fI) = some (.type "function")
  xf : XfC K C
  no : ∀ f ∈ fs, PySem.W.findIn K (.ref C) f = some none
theorem st0 {σ : L2.St} {H : Hp} {i : Nat} {v : V} {Q : VK} (e : σ[i]? = some (some v)) (q : Q v H) : tVar i σ H Q := ⟨v, e, q⟩
theorem init1_ok {K : PySem.W.Frag} {C : Addr} {m f : Str} {vs : List V} {H : Hp} {Q : VK} {E : XK} (T : OexC K C) (no : PySem.W.findIn K (.ref C) f = some none) (h : spI C [f] vs H Q E) :
    tSeq (tDrop (tCall (spBI K) [] L2.E0 (tCons (tVar 0) (tCons (tC (.str m)) tNil)))) (tOst K f (tVar 0) (tVar 1)) { nx := fun _ H' => Q .non H', rt := Q } (L2.start ["self", f] vs) H := by
  obtain ⟨a, ws, rfl, hl, e, q⟩ := h
  match ws, hl with
  | [w], _ =>
    refine ⟨.ref a, rfl, a, C, .str m, rfl, T, e, ?_⟩
    refine ⟨w, rfl, .ref a, rfl, a, C, rfl, T, no, .inl ⟨e, fun d hd hda => q d _ hd hda upd_same ?_ fun b h1 h2 => ?_⟩⟩
    · rw [upd_ne hda, upd_same]; rfl
    · rw [upd_ne h1, upd_ne h2]
theorem init2_ok {K : PySem.W.Frag} {C : Addr} {m f f2 : Str} {vs : List V} {H : Hp} {Q : VK} {E : XK} (T : OexC K C) (no : PySem.W.findIn K (.ref C) f = some none) (no2 : PySem.W.findIn K (.ref C) f2 = some none) (h : spI C [f, f2] vs H Q E) :
    tSeq (tDrop (tCall (spBI K) [] L2.E0 (tCons (tVar 0) (tCons (tC (.str m)) tNil)))) (tSeq (tOst K f (tVar 0) (tVar 1)) (tOst K f2 (tVar 0) (tVar 2))) { nx := fun _ H' => Q .non H', rt := Q } (L2.start ["self", f, f2] vs) H := by
  obtain ⟨a, ws, rfl, hl, e, q⟩ := h
  match ws, hl with
  | [w, w2], _ =>
    refine ⟨.ref a, rfl, a, C, .str m, rfl, T, e, ?_⟩
    refine ⟨w, rfl, .ref a, rfl, a, C, rfl, T, no, .inl ⟨e, fun d hd hda => ?_⟩⟩
    refine ⟨w2, rfl, .ref a, rfl, a, C, rfl, T, no2, .inr ⟨d, [(f, w)], upd_same, by rw [upd_ne hda, upd_same], by simp, q d _ hd hda ?_ upd_same fun b h1 h2 => ?_⟩⟩
    · rw [upd_ne (Ne.symm hda), upd_same]
    · rw [upd_ne h2, upd_ne h1, upd_ne h2]
theorem mko_in {C : Addr} {fs : List Str} {vs : List V} {H1 : Hp} {Q : XK} (hl : vs.length = fs.length) (h9 : fs.length ≤ 900) (q : ∀ d, H1 d = none → Q (.ref C) (some d) (upd H1 d (.xd (fs.zip vs).reverse))) :
    vs.length ≤ 1000 ∧ ∀ a, H1 a = none → spI C fs (.ref a :: (vs ++ [])) (upd H1 a (exo a C none)) (fun v H2 => v = .non ∧ ∃ d gs, H2 a = some (exo a C (some d)) ∧ H2 d = some (exd d gs) ∧ H1 d = none ∧ Q (.ref C) (some d) (upd (del H2 a) d (.xd gs))) (fun _ _ _ => False) := by
  refine ⟨by omega, fun a ha => ⟨a, vs, by rw [List.append_nil], hl, upd_same, fun d H2 hd hda e1 e2 e3 => ⟨rfl, d, _, e1, e2, ?_, ?_⟩⟩⟩
  · rw [upd_ne hda] at hd; exact hd
  · rw [upd_ne hda] at hd
    have : upd (del H2 a) d (.xd (fs.zip vs).reverse) = upd H1 d (.xd (fs.zip vs).reverse) := by
      funext b
      by_cases hbd : b = d
      · subst hbd; rw [upd_same, upd_same]
      · rw [upd_ne hbd, upd_ne hbd]
        by_cases hba : b = a
        · subst hba; rw [del_same, ha]
        · rw [del_ne hba, e3 b hba hbd, upd_ne hba]
    rw [this]
    exact q d hd
theorem ps_rse {X : Cx} {W : WX} {x : Str} {C fI : Addr} {fs ps : List Str} {e : Expr} {es : List Expr} {ta : TA} {k : Nat} {fd : FuncData} {p pos pos' : Pos} (hc : X.calm = true) (tk : Takes X W) (T : ExC X.K X.mg x C fI fs) (F : FnOk X.prog X.w X.K X.mg X.base (L2.CX X.prog X.w) k fI fd ps (spI C fs)) (hr : Room (k + 1) X.A) (hb : Binds X.K fd ps [])
    (hg : Gl X x) (ha : PA X (e :: es) ta) (hdb : (x == ("__debug__" : Str)) = false := by decide) (he : starEach (e :: es) X.env = (false, eval e X.env) :: starEach es X.env := by rfl) (hpl : (backTo pos (starEach es X.env)).any (·.1) = false := by rfl) :
    PS X (.Raise (some (.Call (.Name x p) (e :: es) [] pos)) none pos') (fun _ σ H => tMkO C (spI C fs) [] ta σ H fun cls d H' => W cls d σ H') :=
  L2.ps_raise hc tk (pmk_oex (x := x) (C := C) (fI := fI) (dvs := []) T.ox T.iC T.tI F hr hb .nil passL hg T.gC ha hdb he hpl)
/-- an error of the class at S is, or isn't, what «except T» names -/
theorem exm_of {K : PySem.W.Frag} {S T : Addr} {b : Bool} (e1 : PySem.W.subIn K (.ref T) (.type "BaseException") = some true) (h2 : PySem.W.isClsIn K T = true) (h3 : PySem.W.typeIn K (.ref T) = some (.type "type")) (h4 : PySem.W.subIn K (.ref S) (.ref T) = some b) :
    PySem.W.exmOne K (.ref S) (.ref T) = some b := by
  have k1 : (PySem.W.subIn K (.ref T) (.type "BaseException") == some true) = true := by rw [e1] <;> rfl
  have k2 : ((PySem.W.clsIn K T).isSome && PySem.W.typeIn K (.ref T) == some (.type "type")) = true := by
    rw [show (PySem.W.clsIn K T).isSome = true from h2, h3] <;> rfl
  show (if (PySem.W.subIn K (.ref T) (.type "BaseException") == some true) = true then (if ((PySem.W.clsIn K T).isSome && PySem.W.typeIn K (.ref T) == some (.type "type")) = true then PySem.W.subIn K (.ref S) (.ref T) else none) else none) = some b
  rw [if_pos k1, if_pos k2]
  exact h4
end Mi


/-! # Mi7: targets, comprehensions, statements, defs -/
namespace Mi
open PySem PySem.Spec PyProof.Rows L2

/-! ## targets -/
def gN : List Nat → TGs
  | [] => gNil
  | i :: is => gCons (gName i) (gN is)
def gT (K : PySem.W.Frag) : Tg → TG
  | .nm i => gName i
  | .tp is => fun v σ H Q => gTup K is.length (gN is) v σ H Q ∨ gLst K is.length (gN is) v σ H Q
def tgIx : Tg → List Nat
  | .nm i => [i]
  | .tp is => is
theorem wipe_len (σ : L2.St) (vs : List Nat) : (L2.wipe σ vs).length = σ.length := L2.wipe_length σ vs
theorem wipe_get (σ : L2.St) : ∀ (vs : List Nat) (i : Nat), (L2.wipe σ vs)[i]? = if i ∈ vs ∧ i < σ.length then some none else σ[i]?
  | [], i => by simp [L2.wipe]
  | v :: vs, i => by
    unfold L2.wipe
    have ih := wipe_get σ vs i
    by_cases h : v = i
    · subst h
      by_cases hl : v < σ.length
      · rw [List.getElem?_set_self (by rw [wipe_len]; exact hl), if_pos ⟨List.mem_cons_self, hl⟩]
      · rw [List.getElem?_eq_none (by rw [List.length_set, wipe_len]; omega), if_neg (by omega), List.getElem?_eq_none (by omega)]
    · rw [List.getElem?_set_ne h, ih]
      have h' : ¬ i = v := fun z => h z.symm
      simp [h']
theorem wipe_set {σ : L2.St} {vs : List Nat} {i : Nat} {x : Option V} (hi : i ∈ vs) : L2.wipe (σ.set i x) vs = L2.wipe σ vs := by
  apply List.ext_getElem?
  intro j
  rw [wipe_get, wipe_get, List.length_set]
  by_cases h : i = j
  · subst h
    by_cases hl : i < σ.length
    · simp [hi, hl]
    · rw [if_neg (by omega), if_neg (by omega), List.getElem?_eq_none (by rw [List.length_set]; omega), List.getElem?_eq_none (by omega)]
  · rw [List.getElem?_set_ne h]
theorem wipe_idem {σ : L2.St} {vs : List Nat} : L2.wipe (L2.wipe σ vs) vs = L2.wipe σ vs := by
  apply List.ext_getElem?
  intro j
  rw [wipe_get, wipe_get, wipe_len]
  by_cases h : j ∈ vs ∧ j < σ.length
  · rw [if_pos h, if_pos h]
  · rw [if_neg h, if_neg h]
section
variable {t : Th} {ρ : List Addr} {h : Heap} {H : Hp}
theorem sr_wipe {s : Sl} {σ : L2.St} (hx : t.ex = none) (r : SR t ρ s σ) : ∀ vs : List Nat, SR t ρ (Mi.wipe s vs) (L2.wipe σ vs)
  | [] => r
  | v :: vs => by
    unfold Mi.wipe L2.wipe
    exact ⟨pr_set (show SO t ρ none none from trivial) v (sr_wipe hx r vs).pr, fun _ _ _ _ e => by rw [hx] at e; cases e⟩
theorem gN_use {K : PySem.W.Frag} {Q : L2.St → Hp → Prop} : ∀ {is : List Nat} {vs : List Val} {ys : List V} {s s' : Sl} {σ : L2.St}, VRs t ρ vs ys → SR t ρ s σ → setAll is vs s = some s' →
    (∀ σ', SR t ρ s' σ' → (∀ ws, (∀ i ∈ is, i ∈ ws) → L2.wipe σ' ws = L2.wipe σ ws) → Q σ' H) → gN is ys σ H Q
  | [], vs, ys, s, s', σ, r, sr, e, k => by
    cases vs with
    | nil => cases r; cases e; exact ⟨rfl, k σ sr fun _ _ => rfl⟩
    | cons v vs => cases e
  | i :: is, vs, ys, s, s', σ, r, sr, e, k => by
    cases vs with
    | nil => cases e
    | cons v vs =>
      cases r with
      | cons r rs =>
        refine ⟨_, _, rfl, ?_⟩
        refine gN_use (K := K) rs (sr.put i r) e fun σ' sr' hw => k σ' sr' fun ws hws => ?_
        rw [hw ws fun j hj => hws j (List.mem_cons_of_mem _ hj)]
        exact wipe_set (hws i List.mem_cons_self)
omit t ρ h H in
theorem setAll_len : ∀ {is : List Nat} {vs : List Val} {s s' : Sl}, setAll is vs s = some s' → vs.length = is.length
  | [], [], _, _, _ => rfl
  | [], _ :: _, _, _, e => by cases e
  | _ :: _, [], _, _, e => by cases e
  | _ :: _, _ :: _, _, _, e => by simp only [List.length_cons, Nat.add_right_cancel_iff]; exact setAll_len e
theorem gT_use {K : PySem.W.Frag} {m : Tg} {v : Val} {y : V} {s s' : Sl} {σ : L2.St} {Q : L2.St → Hp → Prop} (x : HR t ρ h H) (r : VR t ρ v y) (sr : SR t ρ s σ) (e : tgV m v s h = some s')
    (k : ∀ σ', SR t ρ s' σ' → (∀ ws, (∀ i ∈ tgIx m, i ∈ ws) → L2.wipe σ' ws = L2.wipe σ ws) → Q σ' H) : gT K m y σ H Q := by
  cases m with
  | nm i =>
    cases e
    exact k _ (sr.put i r) fun ws hws => wipe_set (hws i (List.mem_singleton.mpr rfl))
  | tp is =>
    unfold tgV at e
    dsimp only at e
    split at e
    · split at e
      · rename_i vs hk
        obtain ⟨a, rfl, a1, ys, hl, rr⟩ := x.ref hk r
        refine Or.inl ⟨a, ys, rfl, .of hl, ?_, gN_use (K := K) rr sr e k⟩
        rw [← rr.length]
        exact setAll_len e
      · rename_i vs hk
        obtain ⟨a, rfl, a1, ys, hl, rr⟩ := x.ref hk r
        refine Or.inr ⟨a, ys, rfl, .of hl, ?_, gN_use (K := K) rr sr e k⟩
        rw [← rr.length]
        exact setAll_len e
      · cases e
    · cases e
end
section
variable {t : Th} {ρ ρ1 : List Addr} {h : Heap} {H H1 : Hp} {D : Addr}
/-- an object that is not tracked is written -/
theorem HR.aside (x : HR t ρ h H) (hD : D ∉ ρ) (hf : ∀ o w, H D ≠ some (.frz o w)) (hx : ∀ ys, H D ≠ some (.xd ys)) {u : HO} : HR t ρ h (upd H D u) := by
  refine ⟨x.len, x.nd, fun n ob b e1 e2 => (x.ob n ob b e1 e2).at (upd_ne fun z => hD (z ▸ List.mem_of_getElem? e2)), ?_, fun _ _ d fs ed => ?_⟩
  · rcases x.sc with ⟨o, e⟩ | e
    · exact .inl ⟨o, by rw [upd_ne fun z => hf _ _ (z ▸ e)]; exact e⟩
    · exact .inr e
  · obtain ⟨ys, e, q⟩ := x.xs _ _ d fs ed
    exact ⟨ys, by rw [upd_ne fun z => hx _ (z ▸ e)]; exact e, q⟩
theorem Ext.aside (e : Ext ρ1 H1 ρ H) (hD : H1 D = none) {u : HO} : Ext ρ1 H1 ρ (upd H D u) :=
  ⟨e.pre, fun a o ha ho => by rw [upd_ne (ne_of_none ho hD)]; exact e.keep a o ha ho, e.nu⟩
/-- it is tracked from now on -/
theorem HR.adopt (x : HR t ρ h H) (hD : D ∉ ρ) {o : Ob} (k : OR t (ρ ++ [D]) H D o) : HR t (ρ ++ [D]) (h ++ [o]) H := by
  refine ⟨by simp [x.len], ?_, fun n ob b e1 e2 => ?_, x.sc, fun _ _ d fs ed => by obtain ⟨ys, e, q⟩ := x.xs _ _ d fs ed; exact ⟨ys, e, pr_mono (fun _ _ z => ⟨z.1, z.2.app⟩) q⟩⟩
  · rw [List.nodup_append]
    refine ⟨x.nd, by simp, fun b hb c hc e => ?_⟩
    have hc' : c = D := by simpa using hc
    exact hD (by rw [← hc', ← e]; exact hb)
  · by_cases hn : n < h.length
    · rw [List.getElem?_append_left hn] at e1
      rw [List.getElem?_append_left (by rw [x.len]; exact hn)] at e2
      exact (x.ob n ob b e1 e2).app
    · have hn2 : n = h.length := by
        have := (List.getElem?_eq_some_iff.mp e1).1
        simp at this; omega
      subst hn2
      simp at e1
      rw [← x.len] at e2
      simp at e2
      subst e1; subst e2
      exact k
theorem Ext.adopt (e : Ext ρ1 H1 ρ H) (hD : H1 D = none) : Ext ρ1 H1 (ρ ++ [D]) H := by
  refine ⟨?_, e.keep, fun a h1 h2 => ?_⟩
  · obtain ⟨τ, rfl⟩ := e.pre
    exact ⟨τ ++ [D], by rw [List.append_assoc]⟩
  · rcases List.mem_append.mp h1 with z | z
    · exact e.nu a z h2
    · have : a = D := by simpa using z
      rw [this]; exact hD
theorem Ext.not (e : Ext ρ1 H1 ρ H) (hD : D ∉ ρ1) {o : HO} (ho : H1 D = some o) : D ∉ ρ ∧ H D = some o :=
  ⟨fun hm => (by have := e.nu D hm hD; rw [ho] at this; cases this), e.keep D o hD ho⟩
end

theorem Post.bind1 {α β : Type} {t : Th} {ρ : List Addr} {H : Hp} {E : Value → Option Addr → Hp → Prop} {r : Res α} {f : α → Heap → Res β} {k : β → Heap → List Addr → Hp → Prop} (p : Post t ρ H (r.bind f) k E) :
    Post t ρ H r (fun a h1 _ _ => Post t ρ H (f a h1) k E) E := by
  cases r with
  | ok a h1 => exact fun ρ2 H2 e2 x => p
  | exc c fs h => exact p
  | bad => exact p
/-! ## comprehensions -/
abbrev W0 : L2.WX := fun _ _ _ _ => False
theorem OkC.blk {X : Cx} {t : Th} {W : L2.WX} (O : OkC X t W) (s : Shared) (H : Hp) (scope : Scope) (C : Addr) (cl : List (Str × Addr)) (fp : List Addr) : OkC (X.blk s H scope (compEnvC scope cl C X.env) fp) t W0 :=
  ⟨⟨O.hK, O.nd, O.hu, O.hg, O.sm, PassesOwn.never, takes0⟩, O.calm, O.px⟩
section
variable {X : Cx} {t : Th} {W : L2.WX} {g : G} {a b c e o tg elt iter : Expr} {es ifs : List Expr} {ma mb mc m mo me : Ex} {moc : Exo} {ms : Exs} {pos : Pos} {mt : Tg} {sr : Src}
theorem c_none : PTs X [] (tT t W (denc g .none)) := ⟨fun pins s σ H Q I ⟨ρ, h, sl, x, sr, p⟩ => pts_nil.run pins s σ H Q I (Post.ok x p)⟩
theorem c_some (ha : PT X a (tT t W (denT g ma))) : PTs X [a] (tT t W (denc g (.some ma))) := by
  refine ⟨fun pins s σ H Q I ⟨ρ, h, sl, x, sr, p⟩ => (pts_one ha).run pins s σ H Q I ⟨ρ, h, sl, x, sr, ?_⟩⟩
  unfold denc at p
  exact p
/-- a comprehension's reading from what it gathers -/
theorem lc_imp {own : List Nat} (hpx : t.ex = none) (hown : ∀ i ∈ tgIx mt, i ∈ own) {σ : L2.St} {H : Hp} {Q : VK} (q : tE t W (den g (.lc me mt sr ms own moc)) σ H Q) :
    tLc (tI t W (fun s h => (dens g ms s h).bind fun vs h => srcR sr vs h)) (gT X.K mt) (tT t W0 (denc g moc)) (tE t W0 (den g me)) own σ H Q := by
  obtain ⟨ρ, h, s, hr, hs, p⟩ := q
  unfold den at p
  refine ⟨ρ, h, s, hr, hs, (Post.bind p).imp fun w h1 ρ1 H1 e1 x1 p1 J hJ D hD => ?_⟩
  have hs1 := SR.ext e1 hs
  have nD : D ∉ ρ1 := x1.free hD
  refine ⟨fun i m H' => ∃ ρ' h' acc ys, Ext ρ1 H1 ρ' H' ∧ HR t ρ' h' H' ∧ D ∉ ρ' ∧ H' D = some (.lst ys) ∧ VRs t ρ' acc ys ∧ i ≤ w.items.length ∧ m = w.items.length - i ∧
    Post t ρ1 H1 (lcF w mt (denc g moc) (den g me) (Mi.wipe s own) (w.items.drop i) acc h') (fun vs h2 ρ2 H2 => Post t ρ1 H1 (new (.lst vs) h2) (KV1 t Q) (EW W σ)) (EW W σ), ⟨w.items.length, ?_⟩, ?_⟩
  · exact ⟨ρ1, h1, [], [], (Ext.refl _ _).aside hD, x1.aside nD (by rw [hD]; exact fun _ _ => nofun) (by rw [hD]; exact fun _ => nofun), nD, upd_same, .nil, Nat.zero_le _, rfl, Post.bind1 p1⟩
  · rintro i m H' ⟨ρ', h', acc, ys, e', x', nD', hD', ra, hi, rfl, p'⟩
    have wok : w.ok h' = true := by
      cases hd : w.items.drop i with
      | nil =>
        rw [hd] at p'
        unfold lcF at p'
        split at p'
        · assumption
        · exact p'.elim
      | cons it its =>
        rw [hd] at p'
        unfold lcF at p'
        split at p'
        · assumption
        · exact p'.elim
    obtain ⟨h1', h2'⟩ := hJ i ρ' h' H' e'.pre x' wok
    by_cases hlt : i < w.items.length
    · obtain ⟨it, hit⟩ : ∃ it, w.items[i]? = some it := ⟨w.items[i], by simp [hlt]⟩
      obtain ⟨go, yl⟩ := h2' it hit
      have hdrop : w.items.drop i = it :: w.items.drop (i + 1) := by
        have h3 : w.items[i] = it := by
          have := List.getElem?_eq_getElem hlt
          rw [hit] at this
          exact (Option.some.inj this).symm
        rw [← h3]
        exact List.drop_eq_getElem_cons hlt
      rw [hdrop] at p'
      refine .inr ⟨go, _, fun H2 k => ⟨w.items.length - (i + 1), by omega, k⟩, fun y H2 hy => ?_⟩
      obtain ⟨ρ2, e2, x2, r2⟩ := yl y H2 hy
      have E2 := e'.trans e2
      obtain ⟨nD2, hD2⟩ := e2.not nD' hD'
      unfold lcF at p'
      rw [if_pos wok] at p'
      split at p'
      · exact p'.elim
      · rename_i s' hs'
        refine gT_use x2 r2 (SR.ext E2 (sr_wipe hpx hs1 own)) hs' fun σ' sr' hw => ⟨?_, ?_⟩
        · rw [hw own hown]; exact wipe_idem
        · refine ⟨ρ2, _, s', x2, sr', ?_⟩
          generalize hc : denc g moc s' (yieldI it h').2 = rc at p' ⊢
          cases rc with
          | bad => exact p'.elim
          | exc c fs hx => exact p'.elim
          | ok b h3 =>
            intro ρ3 H3 e3 x3
            have E3 := E2.trans e3
            obtain ⟨nD3, hD3⟩ := e3.not nD2 hD2
            cases b with
            | false =>
              show (if false = true then _ else _)
              rw [if_neg Bool.false_ne_true]
              exact ⟨ρ3, h3, acc, ys, E3, x3, nD3, hD3, VRs.ext (e2.trans e3) ra, by omega, rfl, p'⟩
            | true =>
              show (if true = true then _ else _)
              rw [if_pos rfl]
              refine ⟨ρ3, h3, s', x3, SR.ext e3 sr', ?_⟩
              dsimp only at p'
              generalize he : den g me s' h3 = re at p' ⊢
              cases re with
              | bad => exact p'.elim
              | exc c fs hx => exact p'.elim
              | ok v h4 =>
                intro ρ4 H4 e4 x4 z rz
                dsimp only at p'
                split at p'
                · rename_i hz
                  have E4 := E3.trans e4
                  obtain ⟨nD4, hD4⟩ := e4.not nD3 hD3
                  have ra4 := VRs.ext (e2.trans (e3.trans e4)) ra
                  exact ⟨ys, hD4, by rw [← ra4.length]; exact hz, ρ4, h4, acc ++ [v], ys ++ [z], E4.aside hD, x4.aside nD4 (by rw [hD4]; exact fun _ _ => nofun) (by rw [hD4]; exact fun _ => nofun), nD4, upd_same, ra4.snoc rz, by omega, rfl, p'⟩
                · exact p'.elim
    · have hd : w.items.drop i = [] := List.drop_eq_nil_iff.mpr (by omega)
      refine .inl ⟨h1' (by omega), ?_⟩
      rw [hd] at p'
      unfold lcF at p'
      rw [if_pos wok] at p'
      have p2 := p' ρ' H' e' x'
      exact p2 (ρ' ++ [D]) H' (e'.adopt hD) (x'.adopt nD' ⟨ys, hD', pr_mono (fun _ _ z => z.app) ra⟩) _ (VR.new x')
theorem e_lc {own : List (Str × Nat)} {scope : Scope} (O : OkC X t W) (hi : PI X tg iter (tI t W (fun s h => (dens g ms s h).bind fun vs h => srcR sr vs h))) (ok : BlkOk X.N X.env.scope scope own) (hown : ∀ i ∈ tgIx mt, i ∈ own.map (·.2))
    (hg : ∀ (s : Shared) (H : Hp) (C : Addr) (cl : List (Str × Addr)) (fp : List Addr), OkC (X.blk s H scope (compEnvC scope cl C X.env) fp) t W0 → PG (X.blk s H scope (compEnvC scope cl C X.env) fp) tg (gT X.K mt))
    (hc : ∀ (s : Shared) (H : Hp) (C : Addr) (cl : List (Str × Addr)) (fp : List Addr), OkC (X.blk s H scope (compEnvC scope cl C X.env) fp) t W0 → PTs (X.blk s H scope (compEnvC scope cl C X.env) fp) ifs (tT t W0 (denc g moc)))
    (he : ∀ (s : Shared) (H : Hp) (C : Addr) (cl : List (Str × Addr)) (fp : List Addr), OkC (X.blk s H scope (compEnvC scope cl C X.env) fp) t W0 → PE (X.blk s H scope (compEnvC scope cl C X.env) fp) elt (tE t W0 (den g me)))
    (hs : ∀ x, foldedSetIterable iter X.env x = pure x := by intro _; rfl) :
    PE X (.ListComp elt [⟨tg, iter, ifs, 0⟩] scope pos) (tE t W (den g (.lc me mt sr ms (own.map (·.2)) moc))) :=
  PEi (pe_lc O.calm O.nd hi ok (fun s H C cl fp => hg s H C cl fp (O.blk s H scope C cl fp)) (fun s H C cl fp => hc s H C cl fp (O.blk s H scope C cl fp)) (fun s H C cl fp => he s H C cl fp (O.blk s H scope C cl fp)) hs) fun σ H Q q => lc_imp O.px hown q
end

theorem kr_any {k : Key} {t : Th} {ρ : List Addr} : ∀ {xs : List (Key × Val)} {ys : List (Key × V)}, KRs t ρ xs ys → (xs.any fun kv => decide (kv.1 = k)) = ys.any fun kv => decide (kv.1 = k)
  | _, _, .nil => rfl
  | x :: xs, y :: ys, .cons ⟨e, r⟩ qs => by
    simp only [List.any_cons]
    rw [kr_any qs, e]
theorem kr_put {k : Key} {t : Th} {ρ : List Addr} {v : Val} {y : V} {xs : List (Key × Val)} {ys : List (Key × V)} (r : KRs t ρ xs ys) (rv : VR t ρ v y) : KRs t ρ (putK xs k v) (L2.putK ys k y) := by
  unfold putK L2.putK
  rw [kr_any r]
  split
  · refine pr_map (fun a b h => ?_) r
    rw [← h.1]
    split
    · exact ⟨rfl, rv⟩
    · exact h
  · exact pr_append r (.cons ⟨rfl, rv⟩ .nil)
/-! ## statements -/
section
variable (t : Th) (W : L2.WX)
/-- what is wanted of a statement's end -/
def KFl (D : Ends) : Fl → Heap → List Addr → Hp → Prop := fun fl _ ρ' H' =>
  match fl with
  | .nx s' => ∀ σ', SR t ρ' s' σ' → D.nx σ' H'
  | .rt v => ∀ y, VR t ρ' v y → D.rt y H'
  | .ex c fs s' => ∀ C d ys σ', t.ga c = some C → H' d = some (.xd ys) → FRs t ρ' fs ys → SR t ρ' s' σ' → W (.ref C) (some d) σ' H'
def tS (f : Sl → Heap → Res Fl) : TS := fun D σ H => ∃ ρ h s, HR t ρ h H ∧ SR t ρ s σ ∧ Post t ρ H (f s h) (KFl t W D) E0'
end
theorem PSi {X : Cx} {e : Stmt} {t t' : TS} (p : PS X e t) (h : ∀ D σ H, t' D σ H → t D σ H) : PS X e t' := ⟨fun pins s σ H D I q => p.run pins s σ H D I (h D σ H q)⟩
theorem PSsi {X : Cx} {e : List Stmt} {t t' : TS} (p : PSs X e t) (h : ∀ D σ H, t' D σ H → t D σ H) : PSs X e t' := ⟨fun pins s σ H D I q => p.run pins s σ H D I (h D σ H q)⟩
theorem PGi {X : Cx} {e : Expr} {t t' : TG} (p : PG X e t) (h : ∀ v σ H Q, t' v σ H Q → t v σ H Q) : PG X e t' := ⟨fun pins s σ H v u Q I r q => p.run pins s σ H v u Q I r (h v σ H Q q)⟩
section
variable {t : Th} {W : L2.WX} {ρ : List Addr} {h : Heap} {H : Hp} {α : Type}
theorem Post.sb {r : Res α} {s : Sl} {σ : L2.St} {f : α → Heap → Res Fl} {D : Ends} (sr : SR t ρ s σ) (p : Post t ρ H (r.sb s f) (KFl t W D) E0') : Post t ρ H r (fun a h1 ρ1 H1 => Post t ρ1 H1 (f a h1) (KFl t W D) E0') (EW W σ) := by
  cases r with
  | ok a h1 => exact fun ρ2 H2 e2 x => Post.ext e2 p
  | exc c fs h1 => exact fun ρ2 H2 C d ys e2 x hc hd hf => p ρ2 H2 e2 x C d ys σ hc hd hf (SR.ext e2 sr)
  | bad => exact p
/-- the end of a piece, with what stands behind it -/
theorem Post.goE {r : Res Fl} {k : Sl → Heap → Res Fl} {D D' : Ends} (hn : ∀ ρ1 h1 s1 σ' H1, Ext ρ H ρ1 H1 → HR t ρ1 h1 H1 → SR t ρ1 s1 σ' → Post t ρ1 H1 (k s1 h1) (KFl t W D) E0' → D'.nx σ' H1) (hr : D'.rt = D.rt) (p : Post t ρ H (r.bind fun f h => f.go h k) (KFl t W D) E0') : Post t ρ H r (KFl t W D') E0' := by
  refine (Post.bind p).imp fun fl h1 ρ1 H1 e1 x1 p1 => ?_
  cases fl with
  | nx s' => exact fun σ' sr => hn ρ1 h1 s' σ' H1 e1 x1 sr p1
  | rt v => exact fun y ry => by rw [hr]; exact Post.ok x1 p1 y ry
  | ex c fs s' => exact Post.ok (E := E0') x1 p1
theorem Post.go {r : Res Fl} {k : Sl → Heap → Res Fl} {D D' : Ends} (hn : ∀ σ' H', tS t W k D σ' H' → D'.nx σ' H') (hr : D'.rt = D.rt) (p : Post t ρ H (r.bind fun f h => f.go h k) (KFl t W D) E0') : Post t ρ H r (KFl t W D') E0' := by
  refine (Post.bind p).imp fun fl h1 ρ1 H1 e1 x1 p1 => ?_
  cases fl with
  | nx s' => exact fun σ' sr => hn σ' H1 ⟨ρ1, h1, s', x1, sr, p1⟩
  | rt v => exact fun y ry => by rw [hr]; exact Post.ok x1 p1 y ry
  | ex c fs s' => exact Post.ok (E := E0') x1 p1
end
section
variable {X : Cx} {t : Th} {W : L2.WX} {g : G} {a b c e o i tg elt iter : Expr} {es ifs : List Expr} {ma mb mc m mo mi me : Ex} {moc : Exo} {ms : Exs} {pos : Pos} {mt : Tg} {sr : Src} {st : Stmt} {ss ss2 : List Stmt} {ns : St} {nss nss2 : Sts}
theorem ss_nil : PSs X [] (tS t W (exes g .nil)) := PSsi pss_nil fun D σ H ⟨ρ, h, s, x, sr, p⟩ => Post.ok x p σ sr
theorem ss_cons (h1 : PS X st (tS t W (exe g ns))) (h2 : PSs X ss (tS t W (exes g nss))) : PSs X (st :: ss) (tS t W (exes g (.cons ns nss))) := by
  refine PSsi (pss_cons h1 h2) fun D σ H ⟨ρ, h, s, x, sr, p⟩ => ⟨ρ, h, s, x, sr, ?_⟩
  unfold exes at p
  exact Post.go (D' := { D with nx := tS t W (exes g nss) D }) (fun σ' H' q => q) rfl p
theorem s_pass : PS X (.Pass pos) (tS t W (exe g .pass)) := PSi ps_pass fun D σ H ⟨ρ, h, s, x, sr, p⟩ => Post.ok x p σ sr
theorem s_nvr : PS X st (tS t W (exe g .nvr)) := PSi ps_never fun D σ H ⟨ρ, h, s, x, sr, p⟩ => p
theorem s_exp (ha : PE X a (tE t W (den g ma))) (hs : swapsWith a none pos.line X.env = pure false := by rfl) : PS X (.Expr a pos) (tS t W (exe g (.exp ma))) := by
  refine PSi (ps_expr ha hs) fun D σ H ⟨ρ, h, s, x, sr, p⟩ => ⟨ρ, h, s, x, sr, ?_⟩
  unfold exe at p
  exact (Post.sb sr p).imp fun v h1 ρ1 H1 e1 x1 p1 y ry => Post.ok x1 p1 σ (SR.ext e1 sr)
theorem s_ret (ha : PE X a (tE t W (den g ma))) : PS X (.Return (some a) pos) (tS t W (exe g (.ret ma))) := by
  refine PSi (ps_ret ha) fun D σ H ⟨ρ, h, s, x, sr, p⟩ => ⟨ρ, h, s, x, sr, ?_⟩
  unfold exe at p
  exact (Post.sb sr p).imp fun v h1 ρ1 H1 e1 x1 p1 y ry => Post.ok x1 p1 y ry
theorem s_retN : PS X (.Return none pos) (tS t W (exe g (.ret (.cst .non)))) := by
  refine PSi ps_retN fun D σ H ⟨ρ, h, s, x, sr, p⟩ => ?_
  unfold exe den at p
  exact Post.ok x p _ rfl
theorem asg_imp {D : Ends} {σ : L2.St} {H : Hp} (q : tS t W (exe g (.asg mt ma)) D σ H) : tAsg (tE t W (den g ma)) (gT X.K mt) D σ H := by
  obtain ⟨ρ, h, s, x, sr, p⟩ := q
  unfold exe at p
  refine ⟨ρ, h, s, x, sr, (Post.sb sr p).imp fun v h1 ρ1 H1 e1 x1 p1 y ry => ?_⟩
  unfold setT at p1
  split at p1
  · rename_i s' hs'
    exact gT_use x1 ry (SR.ext e1 sr) hs' fun σ' sr' _ => Post.ok x1 p1 σ' sr'
  · exact p1.elim
theorem s_asg (ha : PE X a (tE t W (den g ma))) (hg : PG X tg (gT X.K mt)) (hs : swapsWithSole [tg] a pos.line X.env = pure false := by rfl) (hw : swappedStores [tg] a X.env = pure none := by rfl)
    (h1 : (assignEach [tg] X.env).map (·.2) = [assign tg X.env] := by rfl) : PS X (.Assign [tg] a pos) (tS t W (exe g (.asg mt ma))) :=
  PSi (ps_asg ha hg hs hw h1) fun D σ H q => asg_imp q
theorem g_nm {j : Nat} {x : Str} {p : Pos} (O : Ok X t W) (hi : X.N[j]? = some x := by rfl) (hx : Loc X.env.scope x := by first | exact Or.inl rfl | exact Or.inr rfl) (hf : X.fn x = true ∨ X.env.scope.names.lookup x = some .local := by first | exact .inl rfl | exact .inr rfl | assumption) : PG X (.Name x p) (gT X.K (.nm j)) :=
  pg_name O.nd hi hx hf
theorem gs_nil : PGs X [] (gN []) := pgs_nil
theorem gs_cons {j : Nat} {is : List Nat} {x : Str} {p : Pos} {ts : List Expr} (O : Ok X t W) (h2 : PGs X ts (gN is)) (hi : X.N[j]? = some x := by rfl) (hx : Loc X.env.scope x := by first | exact Or.inl rfl | exact Or.inr rfl) (hf : X.fn x = true ∨ X.env.scope.names.lookup x = some .local := by first | exact .inl rfl | exact .inr rfl | assumption)
    (hs : (assignEach (.Name x p :: ts) X.env).map (·.2) = assign (.Name x p) X.env :: (assignEach ts X.env).map (·.2) := by rfl) : PGs X (.Name x p :: ts) (gN (j :: is)) :=
  pgs_cons (pg_name O.nd hi hx hf) h2 hs
theorem g_tp {is : List Nat} {ts : List Expr} {k : Nat} (O : OkC X t W) (h : PGs X ts (gN is)) (hn : (assignEach ts X.env).length = is.length := by rfl) (hst : (assignEach ts X.env).findIdx? (·.1) = none := by rfl) : PG X (.Tuple ts k pos) (gT X.K (.tp is)) :=
  ⟨fun pins s σ H v u Q I r hw => hw.elim ((pg_tup O.calm h hn hst).run pins s σ H v u Q I r) ((pg_lst O.calm h hn hst).run pins s σ H v u Q I r)⟩
/-- name = [..] on one line -/
theorem s_asgLc {own : List (Str × Nat)} {scope : Scope} {j : Nat} {y : Str} {py spos : Pos} (O : OkC X t W) (hi : PI X tg iter (tI t W (fun s h => (dens g ms s h).bind fun vs h => srcR sr vs h))) (ok : BlkOk X.N X.env.scope scope own) (hown : ∀ i ∈ tgIx mt, i ∈ own.map (·.2))
    (hg : ∀ (s : Shared) (H : Hp) (C : Addr) (cl : List (Str × Addr)) (fp : List Addr), OkC (X.blk s H scope (compEnvC scope cl C X.env) fp) t W0 → PG (X.blk s H scope (compEnvC scope cl C X.env) fp) tg (gT X.K mt))
    (hc : ∀ (s : Shared) (H : Hp) (C : Addr) (cl : List (Str × Addr)) (fp : List Addr), OkC (X.blk s H scope (compEnvC scope cl C X.env) fp) t W0 → PTs (X.blk s H scope (compEnvC scope cl C X.env) fp) ifs (tT t W0 (denc g moc)))
    (he : ∀ (s : Shared) (H : Hp) (C : Addr) (cl : List (Str × Addr)) (fp : List Addr), OkC (X.blk s H scope (compEnvC scope cl C X.env) fp) t W0 → PE (X.blk s H scope (compEnvC scope cl C X.env) fp) elt (tE t W0 (den g me)))
    (hsw : swapsWith (.ListComp elt [⟨tg, iter, ifs, 0⟩] scope pos) (some (.Name y py)) spos.line X.env = pure true) (hy : X.N[j]? = some y := by rfl) (hyl : X.env.scope.names.lookup y = some .local := by rfl)
    (hs : ∀ x, foldedSetIterable iter X.env x = pure x := by intro _; rfl) :
    PS X (.Assign [.Name y py] (.ListComp elt [⟨tg, iter, ifs, 0⟩] scope pos) spos) (tS t W (exe g (.asg (.nm j) (.lc me mt sr ms (own.map (·.2)) moc)))) :=
  PSi (ps_setLc O.calm O.nd hy hyl hsw hi ok (fun s H C cl fp => hg s H C cl fp (O.blk s H scope C cl fp)) (fun s H C cl fp => hc s H C cl fp (O.blk s H scope C cl fp)) (fun s H C cl fp => he s H C cl fp (O.blk s H scope C cl fp)) hs) fun D σ H q => lc_imp O.px hown (Q := fun v H' => gT X.K (.nm j) v σ H' D.nx) (asg_imp q)
theorem s_par2 {j k : Nat} {x y : Str} {px py pt : Pos} {kt k2 pt2} (O : OkC X t W) (ha : PA X [a, b] (tA t W (dens g ms)))
    (hw : swappedStores [.Tuple [.Name x px, .Name y py] kt pt] (.Tuple [a, b] k2 pt2) X.env = pure (some [x, y])) (hjk : j ≠ k := by decide) (hi : X.N[j]? = some x := by rfl) (hj : X.N[k]? = some y := by rfl)
    (hx : X.env.scope.names.lookup x = some .local := by rfl) (hy : X.env.scope.names.lookup y = some .local := by rfl)
    (hs : swapsWithSole [.Tuple [.Name x px, .Name y py] kt pt] (.Tuple [a, b] k2 pt2) pos.line X.env = pure false := by rfl) :
    PS X (.Assign [.Tuple [.Name x px, .Name y py] kt pt] (.Tuple [a, b] k2 pt2) pos) (tS t W (exe g (.par [j, k] ms))) := by
  refine PSi (ps_par O.calm O.nd hi hj hjk hx hy ha hw hs) fun D σ H ⟨ρ, h, s, x, sr, p⟩ => ⟨ρ, h, s, x, sr, ?_⟩
  unfold exe at p
  refine (Post.sb sr p).imp fun vs h1 ρ1 H1 e1 x1 p1 ys ry => ?_
  unfold setP at p1
  split at p1
  · rename_i s' hs'
    match vs, ry, hs' with
    | [v, w], .cons rv (.cons rw .nil), hs' =>
      cases hs'
      exact ⟨_, _, rfl, Post.ok x1 p1 _ (((SR.ext e1 sr).put j rv).put k rw)⟩
    | [], _, hs' => cases hs'
    | [_], _, hs' => cases hs'
    | _ :: _ :: _ :: _, _, hs' => cases hs'
  · exact p1.elim
/-- o[i] = e -/
theorem set_V (hu : X.A.units + 150 < cLine) : PSet X (fun o i v H Q => ∃ ρ h x y z, HR t ρ h H ∧ VR t ρ x o ∧ VR t ρ y i ∧ VR t ρ z v ∧ Post t ρ H (setV x y z h) (fun _ _ _ H' => Q H') E0') := by
  intro pins s σ H o i v ov iv u Q I ro ri rv ⟨ρ, h, x, y, z, hr, vx, vy, vz, p⟩
  unfold setV at p
  split at p
  · split at p
    · rename_i xs hk
      obtain ⟨l, rfl, l1, ys, hl, r1⟩ := hr.ref hk vx
      split at p
      · split at p
        · rename_i j hj
          cases vy
          exact set_list pins s σ H _ _ _ ov iv u Q I ro ri rv ⟨l, ys, _, j, rfl, rfl, hl, by rw [← r1.length]; exact hj, p ρ _ (Ext.write l1) (hr.write l1 (or_l (pr_set vz _ r1)))⟩
        · exact p.elim
      · exact p.elim
    · rename_i xs hk
      obtain ⟨l, rfl, l1, ys, hl, r1⟩ := hr.ref hk vx
      split at p
      · rename_i kk hkk
        split at p
        · rename_i hz
          have := key_vr hkk vy
          subst this
          obtain rfl : ov = Value.ref l := ro
          refine d_setItem (by omega) I (DPut.k hl (by rw [← Paired.length r1]; exact hz)) ri rv fun s4 I4 => ⟨_, I4, p ρ _ (Ext.write l1) (hr.write l1 ⟨_, upd_same, ?_⟩)⟩
          exact kr_put r1 vz
        · exact p.elim
      · exact p.elim
    · exact p.elim
  · exact p.elim
theorem s_sti {po : Pos} (O : Ok X t W) (ho : PE X o (tE t W (den g mo))) (hi : PE X i (tE t W (den g mi))) (ha : PE X a (tE t W (den g ma)))
    (hA : ∀ v, assign (.Subscript o i po) X.env v = (do
      let ov ← holding [v] (eval o X.env)
      let iv ← holding [v, ov] (eval i X.env)
      standAt po
      holding [v, ov, iv] (setItem ov iv v)
      release [v, ov, iv] []) := by intro _; rfl)
    (hs : swapsWithSole [.Subscript o i po] a pos.line X.env = pure false := by rfl) (hw : swappedStores [.Subscript o i po] a X.env = pure none := by rfl)
    (h1 : (assignEach [.Subscript o i po] X.env).map (·.2) = [assign (.Subscript o i po) X.env] := by rfl) : PS X (.Assign [.Subscript o i po] a pos) (tS t W (exe g (.sti mo mi ma))) := by
  refine PSi (ps_asg ha (pg_sub ho hi (set_V (t := t) O.hu) hA) hs hw h1) fun D σ H ⟨ρ, h, s, x, sr, p⟩ => ⟨ρ, h, s, x, sr, ?_⟩
  unfold exe at p
  refine (Post.sb sr p).imp fun v h1 ρ1 H1 e1 x1 p1 z rz => ⟨ρ1, h1, s, x1, SR.ext e1 sr, ?_⟩
  refine (Post.sb (SR.ext e1 sr) p1).imp fun ov h2 ρ2 H2 e2 x2 p2 zo rzo => ⟨ρ2, h2, s, x2, SR.ext (e1.trans e2) sr, ?_⟩
  refine (Post.sb (SR.ext (e1.trans e2) sr) p2).imp fun iv h3 ρ3 H3 e3 x3 p3 zi rzi => ⟨ρ3, h3, ov, iv, v, x3, rzo.ext e3, rzi, (rz.ext e2).ext e3, ?_⟩
  have p4 := Post.sb (SR.ext ((e1.trans e2).trans e3) sr) p3
  refine Post.nox ?_ (p4.imp fun _ h4 ρ4 H4 e4 x4 p5 => Post.ok x4 p5 σ (SR.ext (((e1.trans e2).trans e3).trans e4) sr))
  unfold setV
  repeat' split
  all_goals first | exact nox_ok | exact nox_bad
theorem nox_set (x y z : Val) (h : Heap) : NoX (setV x y z h) := by
  unfold setV
  repeat' split
  all_goals first | exact nox_ok | exact nox_bad
/-- o[i], p[j] = a pair -/
theorem s_sw2 {o2 i2 : Expr} {mo2 mi2 : Ex} {po po2 pt : Pos} {kt : Nat} (O : OkC X t W) (ho : PE X o (tE t W (den g mo))) (hi : PE X i (tE t W (den g mi))) (ho2 : PE X o2 (tE t W (den g mo2))) (hi2 : PE X i2 (tE t W (den g mi2))) (ha : PE X a (tE t W (den g ma)))
    (hA : ∀ v, assign (.Subscript o i po) X.env v = (do
      let ov ← holding [v] (eval o X.env)
      let iv ← holding [v, ov] (eval i X.env)
      standAt po
      holding [v, ov, iv] (setItem ov iv v)
      release [v, ov, iv] []) := by intro _; rfl)
    (hA2 : ∀ v, assign (.Subscript o2 i2 po2) X.env v = (do
      let ov ← holding [v] (eval o2 X.env)
      let iv ← holding [v, ov] (eval i2 X.env)
      standAt po2
      holding [v, ov, iv] (setItem ov iv v)
      release [v, ov, iv] []) := by intro _; rfl)
    (hn : (assignEach [.Subscript o i po, .Subscript o2 i2 po2] X.env).length = 2 := by rfl) (hst : (assignEach [.Subscript o i po, .Subscript o2 i2 po2] X.env).findIdx? (·.1) = none := by rfl)
    (hq : (assignEach (.Subscript o i po :: [.Subscript o2 i2 po2]) X.env).map (·.2) = assign (.Subscript o i po) X.env :: (assignEach [.Subscript o2 i2 po2] X.env).map (·.2) := by rfl)
    (hq2 : (assignEach (.Subscript o2 i2 po2 :: []) X.env).map (·.2) = assign (.Subscript o2 i2 po2) X.env :: (assignEach [] X.env).map (·.2) := by rfl)
    (hs : swapsWithSole [.Tuple [.Subscript o i po, .Subscript o2 i2 po2] kt pt] a pos.line X.env = pure false := by rfl) (hw : swappedStores [.Tuple [.Subscript o i po, .Subscript o2 i2 po2] kt pt] a X.env = pure none := by rfl)
    (h1 : (assignEach [.Tuple [.Subscript o i po, .Subscript o2 i2 po2] kt pt] X.env).map (·.2) = [assign (.Tuple [.Subscript o i po, .Subscript o2 i2 po2] kt pt) X.env] := by rfl) :
    PS X (.Assign [.Tuple [.Subscript o i po, .Subscript o2 i2 po2] kt pt] a pos) (tS t W (exe g (.sw2 mo mi mo2 mi2 ma))) := by
  refine PSi (ps_asg ha (pg_tup O.calm (pgs_cons (pg_sub ho hi (set_V (t := t) O.hu) hA) (pgs_cons (pg_sub ho2 hi2 (set_V (t := t) O.hu) hA2) pgs_nil hq2) hq) hn hst) hs hw h1) fun D σ H ⟨ρ, h, s, x, sr, p⟩ => ⟨ρ, h, s, x, sr, ?_⟩
  unfold exe at p
  refine (Post.sb sr p).imp fun v h1 ρ1 H1 e1 x1 p1 z rz => ?_
  have sr1 := SR.ext e1 sr
  have p1 := Post.sb sr1 p1
  unfold twoV at p1
  split at p1
  · split at p1
    · rename_i u w hk
      obtain ⟨l, rfl, l1, ys, hl, rr⟩ := x1.ref hk rz
      obtain ⟨yu, yw, rfl, ru, rw'⟩ := vrs2 rr
      refine ⟨l, [yu, yw], rfl, .of hl, rfl, yu, [yw], rfl, ρ1, h1, s, x1, sr1, ?_⟩
      have p1 := Post.ok x1 p1
      refine (Post.sb sr1 p1).imp fun ov h2 ρ2 H2 e2 x2 p2 zo rzo => ⟨ρ2, h2, s, x2, SR.ext e2 sr1, ?_⟩
      have sr2 := SR.ext e2 sr1
      refine (Post.sb sr2 p2).imp fun iv h3 ρ3 H3 e3 x3 p3 zi rzi => ⟨ρ3, h3, ov, iv, u, x3, rzo.ext e3, rzi, (ru.ext e2).ext e3, ?_⟩
      have sr3 := SR.ext e3 sr2
      refine Post.nox (nox_set _ _ _ _) ((Post.sb sr3 p3).imp fun _ h4 ρ4 H4 e4 x4 p4 => ?_)
      have sr4 := SR.ext e4 sr3
      refine ⟨yw, [], rfl, ρ4, h4, s, x4, sr4, (Post.sb sr4 p4).imp fun ov2 h5 ρ5 H5 e5 x5 p5 zo2 rzo2 => ⟨ρ5, h5, s, x5, SR.ext e5 sr4, ?_⟩⟩
      have sr5 := SR.ext e5 sr4
      refine (Post.sb sr5 p5).imp fun iv2 h6 ρ6 H6 e6 x6 p6 zi2 rzi2 => ⟨ρ6, h6, ov2, iv2, w, x6, rzo2.ext e6, rzi2, ((((rw'.ext e2).ext e3).ext e4).ext e5).ext e6, ?_⟩
      have sr6 := SR.ext e6 sr5
      refine Post.nox (nox_set _ _ _ _) ((Post.sb sr6 p6).imp fun _ h7 ρ7 H7 e7 x7 p7 => ?_)
      exact ⟨rfl, Post.ok x7 p7 σ (SR.ext e7 sr6)⟩
    · exact p1.elim
  · exact p1.elim
theorem ip_V {op : Operator} {oo : Op} (h : (op = .Add ∧ oo = .add) ∨ (op = .Sub ∧ oo = .sub)) : PIp X op (rOp t (aop oo)) := by
  rcases h with ⟨rfl, rfl⟩ | ⟨rfl, rfl⟩
  · intro pins s σ H x y u v Q I rx ry ⟨ρ, h, a, b, hr, va, vb, p⟩
    unfold aop at p
    split at p
    · cases va; cases vb
      exact iop_add pins s σ H _ _ u v Q I rx ry ⟨_, _, rfl, rfl, p.ok hr _ rfl⟩
    · exact absurd (by assumption : Op.add = Op.sub) (by decide)
    · split at p
      · cases va; cases vb
        exact iop_add_str pins s σ H _ _ u v Q I rx ry ⟨_, _, rfl, rfl, by assumption, p.ok hr _ rfl⟩
      · exact p.elim
    · exact p.elim
  · intro pins s σ H x y u v Q I rx ry ⟨ρ, h, a, b, hr, va, vb, p⟩
    unfold aop at p
    split at p
    · exact absurd (by assumption : Op.sub = Op.add) (by decide)
    · cases va; cases vb
      exact iop_sub pins s σ H _ _ u v Q I rx ry ⟨_, _, rfl, rfl, p.ok hr _ rfl⟩
    · exact absurd (by assumption : Op.sub = Op.add) (by decide)
    · exact p.elim
theorem s_aug {op : Operator} {oo : Op} {j : Nat} {x : Str} {p' : Pos} (O : Ok X t W) (ho : PIp X op (rOp t (aop oo))) (ha : PE X a (tE t W (den g ma))) (hi : X.N[j]? = some x := by rfl) (hx : Loc X.env.scope x := by first | exact Or.inl rfl | exact Or.inr rfl)
    (hf : X.fn x = true ∨ X.env.scope.names.lookup x = some .local := by first | exact .inl rfl | exact .inr rfl | assumption) : PS X (.AugAssign (.Name x p') op a pos) (tS t W (exe g (.aug oo j ma))) := by
  refine PSi (ps_aug O.nd hi hx ha ho hf) fun D σ H ⟨ρ, h, s, hr, sr, p⟩ => ?_
  unfold exe at p
  rw [show den g (.var j) s h = (match s[j]? with
    | some (some v) => .ok v h
    | _ => .bad) by ((conv => lhs; unfold den) <;> rfl)] at p
  split at p
  · rename_i v e
    obtain ⟨q, e1, r⟩ := pr_get sr.pr e
    cases q with
    | none => exact r.elim
    | some y =>
      refine ⟨y, e1, ρ, h, s, hr, sr, (Post.sb sr (show Post t ρ H ((den g ma s h).sb s fun y h => (aop oo v y h).sb s fun v h => .ok (.nx (s.set j (some v))) h) _ _ from p)).imp fun w h1 ρ1 H1 e1 x1 p1 z rz => ⟨ρ1, h1, v, w, x1, VR.ext e1 (show VR t ρ v y from r), rz, ?_⟩⟩
      refine Post.nox ?_ ((Post.sb (SR.ext e1 sr) p1).imp fun u h2 ρ2 H2 e2 x2 p2 zz rzz => Post.ok x2 p2 _ ((SR.ext (e1.trans e2) sr).put j rzz))
      unfold aop
      repeat' split
      all_goals first | exact nox_ok | exact nox_bad
  · exact p.elim
theorem s_ite (hc : PT X c (tT t W (denT g mc))) (ha : PSs X ss (tS t W (exes g nss))) (hb : PSs X ss2 (tS t W (exes g nss2))) : PS X (.If c ss ss2 pos) (tS t W (exe g (.ite mc nss nss2))) := by
  refine PSi (ps_if hc ha hb) fun D σ H ⟨ρ, h, s, x, sr, p⟩ => ⟨ρ, h, s, x, sr, ?_⟩
  unfold exe at p
  refine (Post.sb sr p).imp fun k h1 ρ1 H1 e1 x1 p1 => ?_
  cases k with
  | true => exact ⟨ρ1, h1, s, x1, SR.ext e1 sr, p1⟩
  | false => exact ⟨ρ1, h1, s, x1, SR.ext e1 sr, p1⟩
theorem s_whl (O : Ok X t W) (hc : PT X c (tT t W (denT g mc))) (ha : PSs X ss (tS t W (exes g nss))) : PS X (.While c ss [] pos) (tS t W (exe g (.whl mc nss))) := by
  refine PSi (ps_while O.own hc ha) fun D σ H q => ?_
  unfold exe at q
  refine ⟨fun m σ H => tS t W (fun s h => loopW (denT g mc) (exes g nss) m s h) D σ H, ⟨turns, q⟩, fun m σ H ⟨ρ, h, s, x, sr, p⟩ => ?_⟩
  cases m with
  | zero => exact p.elim
  | succ m =>
    unfold loopW at p
    refine ⟨ρ, h, s, x, sr, (Post.sb sr p).imp fun k h1 ρ1 H1 e1 x1 p1 => ?_⟩
    cases k with
    | true =>
      rw [if_pos rfl] at p1 ⊢
      exact ⟨_, fun σ' H' w => ⟨m, Nat.lt_succ_self m, w⟩, ρ1, h1, s, x1, SR.ext e1 sr, Post.go (fun _ _ q => q) rfl p1⟩
    | false =>
      rw [if_neg Bool.false_ne_true] at p1 ⊢
      exact Post.ok x1 p1 σ (SR.ext e1 sr)
theorem s_frr (O : OkC X t W) (hi : PI X tg iter (tI t W (fun s h => (dens g ms s h).bind fun vs h => srcR sr vs h))) (hg : PG X tg (gT X.K mt)) (hb : PSs X ss (tS t W (exes g nss))) (hs : ∀ x, foldedSetIterable iter X.env x = pure x := by intro _; rfl) :
    PS X (.For tg iter ss [] pos) (tS t W (exe g (.frr mt sr ms nss))) := by
  refine PSi (ps_for O.own O.calm hi hg hb hs) fun D σ H ⟨ρ, h, s, x, sr, p⟩ => ?_
  unfold exe at p
  refine ⟨ρ, h, s, x, sr, (Post.sb sr p).imp fun w h1 ρ1 H1 e1 x1 p1 J hJ => ?_⟩
  refine ⟨fun i m σ' H' => ∃ ρ' h' s', Ext ρ1 H1 ρ' H' ∧ HR t ρ' h' H' ∧ SR t ρ' s' σ' ∧ i ≤ w.items.length ∧ m = w.items.length - i ∧ Post t ρ' H' (loopF w mt (exes g nss) (w.items.drop i) s' h') (KFl t W D) E0',
    ⟨w.items.length, ρ1, h1, s, Ext.refl _ _, x1, SR.ext e1 sr, Nat.zero_le _, rfl, p1⟩, ?_⟩
  rintro i m σ' H' ⟨ρ', h', s', e', x', sr', hi', rfl, p'⟩
  have wok : w.ok h' = true := by
    cases hd : w.items.drop i with
    | nil =>
      rw [hd] at p'
      unfold loopF at p'
      split at p'
      · assumption
      · exact p'.elim
    | cons it its =>
      rw [hd] at p'
      unfold loopF at p'
      split at p'
      · assumption
      · exact p'.elim
  obtain ⟨h1', h2'⟩ := hJ i ρ' h' H' e'.pre x' wok
  by_cases hlt : i < w.items.length
  · obtain ⟨it, hit⟩ : ∃ it, w.items[i]? = some it := ⟨w.items[i], by simp [hlt]⟩
    obtain ⟨go, yl⟩ := h2' it hit
    have hdrop : w.items.drop i = it :: w.items.drop (i + 1) := by
      have h3 : w.items[i] = it := by
        have := List.getElem?_eq_getElem hlt
        rw [hit] at this
        exact (Option.some.inj this).symm
      rw [← h3]
      exact List.drop_eq_getElem_cons hlt
    rw [hdrop] at p'
    unfold loopF at p'
    rw [if_pos wok] at p'
    refine .inr ⟨go, _, fun σ2 H2 k => ⟨w.items.length - (i + 1), by omega, k⟩, fun y H2 hy => ?_⟩
    obtain ⟨ρ2, e2, x2, r2⟩ := yl y H2 hy
    split at p'
    · exact p'.elim
    · rename_i s2 hs2
      refine gT_use x2 r2 (SR.ext e2 sr') hs2 fun σ2 sr2 _ => ⟨ρ2, _, s2, x2, sr2, ?_⟩
      refine Post.goE (D := D) (fun ρ3 h3 s3 σ3 H3 e3 x3 sr3 p3 => ?_) rfl (Post.ext e2 p')
      exact ⟨ρ3, h3, s3, (e'.trans e2).trans e3, x3, sr3, by omega, rfl, p3⟩
  · have hd : w.items.drop i = [] := List.drop_eq_nil_iff.mpr (by omega)
    refine .inl ⟨h1' (by omega), ?_⟩
    rw [hd] at p'
    unfold loopF at p'
    rw [if_pos wok] at p'
    exact Post.ok x' p' σ' sr'
end
end Mi


/-! # Mi8: defs by their bodies; the law's end -/
namespace Mi
open PySem PySem.Spec PyProof.Rows L2

abbrev WE (E : XK) : L2.WX := fun c d _ H => E c d H
section
variable {P : Program} {w : World} {K : PySem.W.Frag} {mg : Str → Option Value} {base : PySem.Heap}
/-- a def (its promise sp) by its body -/
theorem fn_g {k : Nat} {f : Addr} {name qual : Str} {params : Arguments} {body : List Stmt} {scope : Scope} {dV kV doc pm cdv ct oc : Value} {an od : Option Addr} {osl : Array (Option Value)} {N ps : List Str} {sp : Sp}
    (lk : K.lookup f = some ⟨oc, od, .func (PySem.W.fnOf name qual params body scope dV kV doc pm an cdv ct), osl⟩) (hcd : PySem.W.codeIn K cdv qual = true) (S : FnScope N ps scope)
    (len : ∀ vs H Q E, sp vs H Q E → vs.length = ps.length)
    (go : ∀ (A : Around) (outer : List Env) (s : Shared) (H : Hp) (vs : List V) (Q : VK) (E : XK), Room k (A.deeper (envOfC qual scope s.heap.objs.size f cdv)) → A.guards = some [] → sp vs H Q E →
      ∃ r, PSs (cxOf (L2.CX P w) P w K mg base N qual scope f cdv A outer s H E) body r ∧ r { nx := fun _ H' => Q .non H', rt := Q } (L2.start N vs) H) :
    FnG P w K mg base (k + 1) f (PySem.W.fnOf name qual params body scope dV kV doc pm an cdv ct) ps sp where
  len := len
  run := by
    intro A outer s H args us vs Q E room gu env binds rel promise
    have few := len _ _ _ _ promise
    have kin : K.In s.heap := env.mod.kin.keeps fun b o e => (env.bs b o e).1
    have nolim : s.heap.NoLimit := env.mod.nolimit.keeps fun b o e => (env.bs b o e).1
    have kinds : ∀ y ∈ ps.zip us, scope.names.lookup y.1 = some .local ∨ (scope.names.lookup y.1 = some .cell ∧ ((cellsFrom (s.heap.objs.size + 1) scope.names []).lookup y.1).isSome = true) := by
      intro y hy
      rcases S.par y.1 (List.of_mem_zip (show (y.1, y.2) ∈ ps.zip us from hy)).1 with q | q
      · exact Or.inl q
      · exact Or.inr ⟨q, PySem.W.cellsFrom_some _ _ _ (Or.inl q)⟩
    refine codeAny_call_function room.depth (kin _ _ lk) rfl S.co S.gen rfl (PySem.W.codeRec_of kin hcd) (binds _ _ _ _ ?_)
    refine wpAny_newFunctionEnv_cells S.kind kinds fun e he s1 x => ?_
    subst he
    refine ⟨nolim.keeps x.toInCall.keep, codeAny_func ?_⟩
    obtain ⟨r, hr, q⟩ := go A outer s H vs Q E (room.deeper _) gu promise
    have inv : Inv (cxOf (L2.CX P w) P w K mg base N qual scope f cdv A outer s H E) [] (L2.start N vs) H s1 := inv_start S room.hd env few rel x
    refine wpAny_mono (hr.run [] s1 (L2.start N vs) H _ inv q) (fun fl s2 h2 => ?_) fun u s2 h2 => h2
    cases fl with
    | next =>
      obtain ⟨σ2, H2, J, z⟩ := h2
      exact ⟨.non, H2, J.os, J.bare, J.base, J.hok, rfl, z⟩
    | ret u =>
      obtain ⟨v, σ2, H2, J, rv, z⟩ := h2
      exact ⟨v, H2, J.os, J.bare, J.base, J.hok, rv, z⟩
    | brk =>
      obtain ⟨_, _, _, z⟩ := h2
      exact False.elim z
    | cont =>
      obtain ⟨_, _, _, z⟩ := h2
      exact False.elim z
/-- what is never called -/
theorem fn_bad {t : Th} {k : Nat} {f : Addr} {fd : FuncData} {ps : List Str} : FnG P w K mg base k f fd ps (spC t fun _ _ => .bad) :=
  ⟨fun vs H Q E ⟨_, _, _, _, _, p⟩ => p.elim, fun A outer s H args us vs Q E _ _ _ _ _ ⟨_, _, _, _, _, p⟩ => p.elim⟩
theorem sr_start {t : Th} {ρ : List Addr} {d : Def} {N : List Str} (hx : t.ex = none) (hN : N.length = d.slots) {as : List Val} {vs : List V} (r : VRs t ρ as vs) : SR t ρ (startV d as) (L2.start N vs) := by
  refine ⟨?_, fun _ _ _ _ e => by rw [hx] at e; cases e⟩
  unfold startV L2.start
  rw [hN, ← r.length]
  refine pr_append (pr_map (f := some) (g := some) (F' := SO t ρ) (fun a b h => h) r) ?_
  generalize d.slots - as.length = n
  induction n with
  | zero => exact .nil
  | succ n ih => exact .cons trivial ih
theorem ok_cx {t : Th} {k : Nat} {N ps : List Str} {qual : Str} {scope : Scope} {f : Addr} {cdv : Value} {A : Around} {outer : List Env} {s : Shared} {H : Hp} {E : XK} (hK : t.K = K) (hpx : t.ex = none) (sm : ∃ mm, base.Ns sysModules mm) (S : FnScope N ps scope) (hr : Room k (A.deeper (envOfC qual scope s.heap.objs.size f cdv))) (hg : A.guards = some []) :
    OkC (cxOf (L2.CX P w) P w K mg base N qual scope f cdv A outer s H E) t (WE E) where
  px := hpx
  hK := hK
  calm := rfl
  nd := S.nd
  hu := by
    have := hr.un
    show (A.deeper (envOfC qual scope s.heap.objs.size f cdv)).units + 150 < cLine
    omega
  hg := hg
  sm := sm
  own := passes_of rfl
  tk := takes_of rfl rfl rfl rfl
/-- a def of the text does what its mirror does -/
theorem fn_law {t : Th} {k : Nat} {g : G} {x qual : Str} {st : Stmt} {f : Addr} {N ps : List Str} {d : Def} {dV kV doc pm cdv ct oc : Value} {an od : Option Addr} {osl : Array (Option Value)} (hK : t.K = K) (hpx : t.ex = none) (sm : ∃ mm, base.Ns sysModules mm)
    (lk : K.lookup f = some ⟨oc, od, .func (PySem.W.fnOf x qual (defArgs st) (defBody st) (defScope st) dV kV doc pm an cdv ct), osl⟩) (hcd : PySem.W.codeIn K cdv qual = true) (S : FnScope N ps (defScope st)) (hp : d.params = ps.length) (hN : N.length = d.slots)
    (body : ∀ (A : Around) (outer : List Env) (s : Shared) (H : Hp) (E : XK), OkC (cxOf (L2.CX P w) P w K mg base N qual (defScope st) f cdv A outer s H E) t (WE E) → Room k (A.deeper (envOfC qual (defScope st) s.heap.objs.size f cdv)) →
      PSs (cxOf (L2.CX P w) P w K mg base N qual (defScope st) f cdv A outer s H E) (defBody st) (tS t (WE E) (exes g d.body))) :
    FnG P w K mg base (k + 1) f (PySem.W.fnOf x qual (defArgs st) (defBody st) (defScope st) dV kV doc pm an cdv ct) ps (spC t (runDef g d)) := by
  refine fn_g lk hcd S (fun vs H Q E ⟨ρ, h, as, hr, r, p⟩ => ?_) fun A outer s H vs Q E room gu ⟨ρ, h, as, hr, r, p⟩ => ⟨_, body A outer s H E (ok_cx hK hpx sm S room gu) room, ?_⟩
  · unfold runDef at p
    split at p
    · rename_i e
      rw [← r.length, e, hp]
    · exact p.elim
  · unfold runDef at p
    split at p
    · refine ⟨ρ, h, startV d as, hr, sr_start hpx hN r, ?_⟩
      generalize exes g d.body (startV d as) h = z at p ⊢
      cases z with
      | bad => exact p
      | exc c fs h1 => exact p.elim
      | ok fl h1 =>
        cases fl with
        | nx s' => exact fun ρ1 H1 e1 x1 σ' sr => p ρ1 H1 e1 x1 _ rfl
        | rt v => exact fun ρ1 H1 e1 x1 y ry => p ρ1 H1 e1 x1 y ry
        | ex c fs s' => exact fun ρ1 H1 e1 x1 C dd ys σ' h1 h2 h3 sr => p ρ1 H1 C dd ys e1 x1 h1 h2 h3
    · exact p.elim
/-- a def that may be called, n written arguments, the rest its defaults -/
structure CF (P : Program) (w : World) (K : PySem.W.Frag) (mg : Str → Option Value) (base : PySem.Heap) (t : Th) (k : Nat) (f : Str) (m : List Val → Heap → Res Val) : Prop where
  ex : ∃ (fa : Addr) (fd : FuncData) (ps : List Str), mg f = some (.ref fa) ∧ PySem.W.keepIn K (.ref fa) = true ∧ Binds K fd ps [] ∧ FnG P w K mg base k fa fd ps (spC t m)
theorem CF.n {t : Th} {k : Nat} {f : Str} {m : List Val → Heap → Res Val} (C : CF P w K mg base t k f m) : CalleeN P w K mg base t k f [] m := by
  obtain ⟨fa, fd, ps, h1, h2, h3, h4⟩ := C.ex
  exact ⟨fa, fd, ps, [], [], h1, h2, h3, .nil, fun _ => .nil, h4⟩
end

/-- a callee with defaults dl -/
structure CFD (P : Program) (w : World) (K : PySem.W.Frag) (mg : Str → Option Value) (base : PySem.Heap) (t : Th) (k : Nat) (f : Str) (dl : List Val) (m : List Val → Heap → Res Val) : Prop where
  ex : ∃ (fa : Addr) (fd : FuncData) (ps : List Str) (dvs : List V), mg f = some (.ref fa) ∧ PySem.W.keepIn K (.ref fa) = true ∧ (∀ ρ, VRs t ρ dl dvs) ∧ (∀ j, j ≤ dvs.length → ∃ us, Vals (dvs.drop j) us ∧ Binds K fd ps us) ∧ FnG P w K mg base k fa fd ps (spC t m)
theorem CFD.n {P : Program} {w : World} {K : PySem.W.Frag} {mg : Str → Option Value} {base : PySem.Heap} {t : Th} {k : Nat} {f : Str} {dl : List Val} {m : List Val → Heap → Res Val} (C : CFD P w K mg base t k f dl m) (j : Nat) (hj : j ≤ dl.length) : CalleeN P w K mg base t k f (dl.drop j) m := by
  obtain ⟨fa, fd, ps, dvs, h1, h2, h3, h4, h5⟩ := C.ex
  obtain ⟨us, hv, hb⟩ := h4 j (by rw [← (h3 []).length]; exact hj)
  exact ⟨fa, fd, ps, us, dvs.drop j, h1, h2, hb, hv, fun ρ => pr_drop j (h3 ρ), h5⟩

/-! ## the mirror, k deep -/
def mOf (D : Nat → Option Def) (gl : Nat → Option Val) (scr : List Int) : Nat → Def → List Val → Heap → Res Val
  | 0, _ => fun _ _ => .bad
  | k + 1, d => runDef ⟨calls D gl scr k, gl, scr, none⟩ d
theorem calls_eq {D : Nat → Option Def} {gl : Nat → Option Val} {scr : List Int} {k : Nat} {f : Nat} {d : Def} {ds : List Val} {n : Nat} (e : D f = some d) (hd : d.dflt.drop (d.dflt.length + n - d.params) = ds) (vs : List Val) (h : Heap) (hn : vs.length = n)
    (hb : calls D gl scr k f vs h ≠ .bad) : calls D gl scr k f vs h = mOf D gl scr k d (vs ++ ds) h := by
  cases k with
  | zero => exact absurd rfl hb
  | succ k =>
    show (match D f with
      | some d => runDef ⟨calls D gl scr k, gl, scr, none⟩ d (vs ++ d.dflt.drop (d.dflt.length + vs.length - d.params)) h
      | none => .bad) = _
    rw [e]
    dsimp only
    rw [hn, hd]
    rfl

/-! ## dicts written out -/
def prs (t : Th) (W : L2.WX) (g : G) : Exs → List (TE × TE)
  | .cons k (.cons v r) => (tE t W (den g k), tE t W (den g v)) :: prs t W g r
  | _ => []
def pairUp : List V → List (V × V)
  | k :: v :: r => (k, v) :: pairUp r
  | _ => []
section
variable {X : Cx} {t : Th} {W : L2.WX} {g : G} {σ : L2.St}
def evenE : Exs → Bool
  | .nil => true
  | .cons _ .nil => false
  | .cons _ (.cons _ r) => evenE r
theorem pairs_imp : ∀ (ms : Exs) {ρ : List Addr} {h : Heap} {s : Sl} {H : Hp} {R : List (V × V) → Hp → Prop}, evenE ms = true → HR t ρ h H → SR t ρ s σ →
    Post t ρ H (dens g ms s h) (fun vs h' ρ' H' => ∀ zs, VRs t ρ' vs zs → R (pairUp zs) H') (EW W σ) → tPairs (prs t W g ms) σ H R
  | .nil, ρ, h, s, H, R, ev, x, sr, p => by
    unfold dens at p
    exact Post.ok x p [] .nil
  | .cons k .nil, ρ, h, s, H, R, ev, x, sr, p => by cases ev
  | .cons k (.cons v r), ρ, h, s, H, R, ev, x, sr, p => by
    unfold dens at p
    refine ⟨ρ, h, s, x, sr, (Post.bind p).imp fun kv h1 ρ1 H1 e1 x1 p1 y ry => ?_⟩
    unfold dens at p1
    refine ⟨ρ1, h1, s, x1, SR.ext e1 sr, ?_⟩
    have p1 := Post.bind p1
    have p2 : Post t ρ1 H1 (den g v s h1) (fun vv h2 ρ2 H2 => Post t ρ2 H2 ((dens g r s h2).bind fun vs h => Res.ok (vv :: vs) h) (fun vs h' ρ' H' => Post t ρ' H' (Res.ok (kv :: vs) h') (fun vs h' ρ' H' => ∀ zs, VRs t ρ' vs zs → R (pairUp zs) H') (EW W σ)) (EW W σ)) (EW W σ) := Post.bind p1
    refine p2.imp fun vv h2 ρ2 H2 e2 x2 p3 z rz => ?_
    refine pairs_imp r ev x2 (SR.ext (e1.trans e2) sr) ((Post.bind p3).imp fun vs h3 ρ3 H3 e3 x3 p4 => ?_)
    have q := Post.ok x3 (Post.ok x3 p4)
    exact fun zs rzs => q (y :: z :: zs) (.cons ((ry.ext e2).ext e3) (.cons (rz.ext e3) rzs))
theorem kvs_vr {ρ : List Addr} : ∀ {vs : List Val} {zs : List V} {kvs : List (Key × Val)}, kvsO vs = some kvs → VRs t ρ vs zs → ∃ ws : List (Key × V), pairUp zs = ws.map (fun kv => (kV kv.1, kv.2)) ∧ KRs t ρ kvs ws
  | [], _, kvs, e, .nil => by cases e; exact ⟨[], rfl, .nil⟩
  | [_], _, kvs, e, _ => by cases e
  | k :: v :: r, _, kvs, e, .cons rk (.cons rv rr) => by
    unfold kvsO at e
    split at e
    · rename_i k' r' e1 e2
      cases e
      obtain ⟨ws, h1, h2⟩ := kvs_vr e2 rr
      have := key_vr e1 rk
      subst this
      exact ⟨(k', _) :: ws, by unfold pairUp; rw [h1]; rfl, .cons ⟨rfl, rv⟩ h2⟩
    · cases e
theorem kr_merge {ρ : List Addr} : ∀ {kvs acc : List (Key × Val)} {ws bcc : List (Key × V)}, KRs t ρ kvs ws → KRs t ρ acc bcc → KRs t ρ (kvs.foldl (fun acc kv => putK acc kv.1 kv.2) acc) (ws.foldl (fun acc kv => L2.putK acc kv.1 kv.2) bcc)
  | _, _, _, _, .nil, r => r
  | x :: xs, acc, y :: ys, bcc, .cons ⟨e, r⟩ rs, q => by
    simp only [List.foldl_cons]
    rw [← e]
    exact kr_merge rs (kr_put q r)
theorem e_dic {pos : Pos} {keys : List (Option Expr)} {values : List Expr} {ms : Exs} (O : Ok X t W) (hp : PPs X pos keys values (prs t W g ms)) (ev : evenE ms = true := by rfl) (hall : keys.all (·.isSome) = true := by rfl) (hl : keys.length = values.length := by rfl) (h0 : keys ≠ [] := by exact List.cons_ne_nil _ _)
    (h15 : keys.length ≤ 15 := by decide) : PE X (.Dict keys values pos) (tE t W (den g (.dic ms))) := by
  refine PEi (pe_disp hp hall hl h0 h15) fun σ H Q ⟨ρ, h, s, x, sr, p⟩ => fun D hD => ?_
  unfold den at p
  have nD := x.free hD
  have e0 : Ext ρ H ρ (upd H D (.dK [])) := (Ext.refl _ _).aside hD
  refine pairs_imp ms ev (x.aside nD (by rw [hD]; exact fun _ _ => nofun) (by rw [hD]; exact fun _ => nofun)) sr ((Post.ext e0 (Post.bind1 p)).imp fun vs h' ρ' H' e' x' p' zs rz => ?_)
  obtain ⟨nD', hD'⟩ := e'.not nD upd_same
  refine ⟨hD', ?_⟩
  split at p'
  · rename_i kvs ek
    split at p'
    · rename_i hz
      obtain ⟨ws, h1, h2⟩ := kvs_vr ek rz
      refine ⟨ws, h1, by rw [← Paired.length h2]; exact hz, ?_⟩
      have E := ((e0.trans e').aside hD (u := .dK (mergeK [] ws))).adopt hD
      have Y := (x'.aside nD' (by rw [hD']; exact fun _ _ => nofun) (by rw [hD']; exact fun _ => nofun) (u := .dK (mergeK [] ws))).adopt nD' (o := .dic (kvs.foldl (fun acc kv => putK acc kv.1 kv.2) [])) ⟨_, upd_same, pr_mono (fun _ _ z => ⟨z.1, z.2.app⟩) (kr_merge h2 .nil)⟩
      exact p' _ _ E Y _ (VR.new x')
    · exact p'.elim
  · exact p'.elim
end
/-! ## short names -/
section
variable {X : Cx} {t : Th} {W : L2.WX} (O : Ok X t W)
include O
theorem q_add : OpR X (binaryOp .Add) (rOp t (bop .add)) := op1 O.hK
theorem q_sub : OpR X (binaryOp .Sub) (rOp t (bop .sub)) := op2
theorem q_mul : OpR X (binaryOp .Mult) (rOp t (bop .mul)) := op3
theorem q_fdiv : OpR X (binaryOp .FloorDiv) (rOp t (bop .fdiv)) := op4
theorem q_mod : OpR X (binaryOp .Mod) (rOp t (bop .mod)) := op5
theorem q_pow : OpR X (binaryOp .Pow) (rOp t (bop .pow)) := op6
theorem q_eq : OpR X (compareOp .Eq) (rOp t (bop .eq)) := op7 O.hK (by have := O.hu; omega)
theorem q_ne : OpR X (compareOp .NotEq) (rOp t (bop .ne)) := op8 O.hK (by have := O.hu; omega)
theorem q_lt : OpR X (compareOp .Lt) (rOp t (bop .lt)) := op9 O.hK (by have := O.hu; omega)
theorem q_le : OpR X (compareOp .LtE) (rOp t (bop .le)) := op10
theorem q_gt : OpR X (compareOp .Gt) (rOp t (bop .gt)) := op11
theorem q_ge : OpR X (compareOp .GtE) (rOp t (bop .ge)) := op12
theorem q_is : OpR X (compareOp .Is) (rOp t (bop .is)) := op13
theorem q_isnot : OpR X (compareOp .IsNot) (rOp t (bop .isnot)) := op14
theorem q_in_ : OpR X (compareOp .In) (rOp t (bop .in_)) := op15 O.hK (by have := O.hu; omega)
theorem q_notin : OpR X (compareOp .NotIn) (rOp t (bop .notin)) := op16 O.hK (by have := O.hu; omega)
end
theorem bB {o : Op} {x y : Val} {h : Heap} (ho : (match o with | .add | .sub | .mul | .fdiv | .mod | .pow => false | _ => true) = true) : isB (bop o x y h) := by
  cases o <;> first | (cases ho; done) | exact isB_ofB
theorem bt_len : bootBuiltins "len" = some (.builtin "len") := by decide +kernel
theorem bt_divmod : bootBuiltins "divmod" = some (.builtin "divmod") := by decide +kernel
theorem bt_max : bootBuiltins "max" = some (.builtin "max") := by decide +kernel
theorem bt_min : bootBuiltins "min" = some (.builtin "min") := by decide +kernel
theorem bt_sum : bootBuiltins "sum" = some (.builtin "sum") := by decide +kernel
theorem bt_all : bootBuiltins "all" = some (.builtin "all") := by decide +kernel
theorem bt_any : bootBuiltins "any" = some (.builtin "any") := by decide +kernel
theorem bt_repr : bootBuiltins "repr" = some (.builtin "repr") := by decide +kernel
theorem bt_isinstance : bootBuiltins "isinstance" = some (.builtin "isinstance") := by decide +kernel
theorem bt_int : bootBuiltins "int" = some (.type "int") := by decide +kernel
theorem bt_str : bootBuiltins "str" = some (.type "str") := by decide +kernel
theorem bt_bool : bootBuiltins "bool" = some (.type "bool") := by decide +kernel
theorem bt_list : bootBuiltins "list" = some (.type "list") := by decide +kernel
theorem bt_tuple : bootBuiltins "tuple" = some (.type "tuple") := by decide +kernel
theorem bt_dict : bootBuiltins "dict" = some (.type "dict") := by decide +kernel

/-! ## the law's end -/
section
variable {P : Program} {w : World} {K : PySem.W.Frag} {mg mb : Str → Option Value}
/-- the heap at the law's entry, H: nothing is tracked but the script -/
def H0 (K : PySem.W.Frag) (a : Addr) (vs : List Value) (ns : List Int) : Hp := fun b => if b = a ∧ K.lookup a = none then some (.frz { cls := .type "list", data := .seq vs.toArray } (.lst (ns.map V.int))) else none
theorem law_end {k : Nat} {fa a : Addr} {fd : FuncData} {x : Str} {s₁ : Shared} {vs : List Value} {ns : List Int} {ga : Nat → Option Addr} {m : List Val → Heap → Res Val} {h' : Heap}
    (KX : K.In s₁.heap) (gl : s₁.heap.Ns mainGlobals mg) (bl : s₁.heap.Ns builtinsNs mb) (bb : ∀ x : Str, x ≠ "__name__" → mb x = bootBuiltins x) (nl : s₁.heap.NoLimit) (sm : ∃ mm, s₁.heap.Ns sysModules mm) (gens : s₁.gens = #[])
    (at_ : s₁.heap.get? a = some { cls := .type "list", data := .seq vs.toArray }) (are : IntsAre vs ns) (fits : ns.length ≤ sizeLine) (room : Room k callerA)
    (F : ∀ base : PySem.Heap, K.In base → base.Ns mainGlobals mg → (∃ mm, base.Ns sysModules mm) → FnG P w K mg base k fa fd [x] (spC ⟨K, ga, a, ns, none⟩ m)) (bind : ∀ (s : Shared) (u : Value), BindsTo s fd ⟨[u], []⟩ [(x, u)])
    (ends : m [.scr] [] = .ok (.bl true) h') :
    codeAny (model P w) callerA (.call (.ref fa) ⟨[.ref a], []⟩) (fun r s' => r = .ok (.ret (.bool true)) ∧ OldK s₁.heap s'.heap ∧ s'.os = s₁.os ∧ AllBare s'.gens) s₁ := by
  have rel := vals_ints are
  have count := are.length
  have hz : ∀ {b : Addr} {u : HO}, H0 K a vs ns b = some u → b = a ∧ K.lookup a = none ∧ u = .frz { cls := .type "list", data := .seq vs.toArray } (.lst (ns.map V.int)) := by
    intro b u e
    unfold H0 at e
    split at e
    · rename_i c
      exact ⟨c.1, c.2, (Option.some.inj e).symm⟩
    · cases e
  have none_of : ∀ {b : Addr}, b ≠ a → H0 K a vs ns b = none := by
    intro b hb
    cases q : H0 K a vs ns b with
    | none => rfl
    | some u => exact absurd (hz q).1 hb
  have hok : HOk P w (H0 K a vs ns) s₁.heap := by
    intro b u e
    obtain ⟨rfl, _, rfl⟩ := hz e
    exact ⟨at_, by rw [List.length_map]; exact fits, vs, _, rel, at_⟩
  have keepN : ∀ {b : Addr} {mm : Str → Option Value}, s₁.heap.Ns b mm → (hidT s₁.heap (H0 K a vs ns)).Ns b mm := by
    intro b mm ⟨o, es, ep, e, d, r⟩
    refine ⟨o, es, ep, hidT_get e (none_of fun z => ?_), d, r⟩
    subst z
    rw [at_] at e
    cases e
    cases d
  have kin : K.In (hidT s₁.heap (H0 K a vs ns)) := by
    intro b o e
    refine hidT_get (KX b o e) ?_
    cases q : H0 K a vs ns b with
    | none => rfl
    | some u =>
      obtain ⟨rfl, z, _⟩ := hz q
      rw [z] at e; cases e
  have mod : Mod K mg (hidT s₁.heap (H0 K a vs ns)) := ⟨kin, keepN gl, ⟨mb, keepN bl, bb⟩, (fun ⟨mc, h1, h2⟩ => ⟨mc, keepN h1, h2⟩) nl⟩
  have env : Env0 P w K mg (hidT s₁.heap (H0 K a vs ns)) callerA [] s₁ (H0 K a vs ns) := by
    refine ⟨rfl, mod, fun b o e => of_hidT e, Nat.le_of_eq (hidT_size _ _), trivial, fun b hb => ?_, hok, .of_eq gens⟩
    cases (show b ∈ ([] : List Addr) from hb)
  have scr : ScrOk ⟨K, ga, a, ns, none⟩ (H0 K a vs ns) := by
    cases q : K.lookup a with
    | none => exact .inl ⟨_, if_pos ⟨rfl, q⟩⟩
    | some o =>
      have e := KX a o q
      rw [at_] at e
      cases e
      exact .inr ⟨_, vs.toArray, _, q, rfl, rfl, rfl, by rw [List.size_toArray, count]; exact fits, by simpa using rel⟩
  have hr : HR ⟨K, ga, a, ns, none⟩ [] [] (H0 K a vs ns) := ⟨rfl, List.nodup_nil, fun n o b e _ => by simp at e, scr, fun _ _ _ _ e => by cases e⟩
  refine codeAny_mono ((F _ kin (keepN gl) (let ⟨mm, z⟩ := sm; ⟨mm, keepN z⟩)).run callerA [] s₁ (H0 K a vs ns) ⟨[.ref a], []⟩ [.ref a] [.ref a] (fun v _ => v = .bl true) (fun _ _ _ => False) room rfl env (bind s₁ (.ref a)) (.cons rfl .nil)
    ⟨[], [], [.scr], hr, .cons rfl .nil, by rw [ends]; exact fun ρ' H' e x z rz => rz⟩) fun r s' h => ?_
  cases r with
  | error e =>
    obtain ⟨_, _, _, _, _, _, _, _, _, _, _, _, z⟩ := h
    exact z.elim
  | ok fl =>
    cases fl with
    | next => exact h.elim
    | brk => exact h.elim
    | cont => exact h.elim
    | ret u =>
      obtain ⟨v, H', os, bare, un, hok', ru, rfl⟩ := h
      obtain rfl : u = Value.bool true := ru
      refine ⟨rfl, OldK.of_keep fun b o e => ?_, os, bare⟩
      have nof : b ∉ frs [] := by intro z; cases (show b ∈ ([] : List Addr) from z)
      cases q : H0 K a vs ns b with
      | none => exact un.keep b o e q nof (by simp)
      | some u =>
        obtain ⟨rfl, _, rfl⟩ := hz q
        have e1 := (hok b _ q).1
        have e2 := (hok' b _ (un.frzs b _ _ q)).1
        rw [e] at e1
        cases e1
        exact e2
/-- what k_head leaves -/
theorem walk_g {l : PySem.W.OpenLaw} {n k : Nat} {q : Program} {loose : List Str} {XP : (Str → Option Value) → PySem.Heap → Prop} {YP : World → PySem.Heap → Prop} {d : DefRec} {K : Params → PySem.W.Frag} {x : Str}
    (hn : l.most = some n) (hn2 : n ≤ sizeLine) (hdf : d.params.defaults = []) (hi : importsNone q = true) (room : Room k callerA) (hY : ∀ (w : World) (h : PySem.Heap), YP w h → (K w.params).In h)
    (F : ∀ (w : World) (mg : Str → Option Value) (fa : Addr) (h : PySem.Heap), (K w.params).In h → h.Ns mainGlobals mg → mg d.name = some (.ref fa) →
      ∃ (fd : FuncData) (ga : Nat → Option Addr) (m : List Int → List Val → Heap → Res Val), (∀ (s : Shared) (u : Value), BindsTo s fd ⟨[u], []⟩ [(x, u)]) ∧ (∀ ns : List Int, ns.length ≤ n → ∃ h', m ns [.scr] [] = .ok (.bl true) h') ∧
        ∀ (a : Addr) (ns : List Int) (base : PySem.Heap), (K w.params).In base → base.Ns mainGlobals mg → (∃ mm, base.Ns sysModules mm) → FnG l.prog w (K w.params) mg base k fa fd [x] (spC ⟨K w.params, ga, a, ns, none⟩ (m ns))) :
    PySem.W.WalkO q loose XP YP l.row.toRowW d [] (fun f vs => PySem.call f vs) := by
  refine Att.attach_call hn hdf fun w s₀ s₁ mg mb fa o pm cd doc a vs ns G Y ho hd hcd hmg hobj hints hlen hg => ?_
  have KX := hY w _ Y
  obtain ⟨fd, ga, m, hb, hm, hF⟩ := F w mg fa _ KX G.T.g hmg
  obtain ⟨h', he⟩ := hm ns hlen
  exact law_end KX G.T.g G.T.b G.T.builtins G.T.nolimit (let ⟨mm, z, _⟩ := (G.T.seer hi).mods; ⟨mm, z⟩) hg hobj hints (Nat.le_trans hlen hn2) room (hF a ns) hb he
end
end Mi


/-! # Mi8X: raise, try, a caught exception's fields -/
namespace Mi
open PySem PySem.Spec PyProof.Rows L2
/-- an exception class as it may be raised: its number, its fields -/
structure CE (P : Program) (w : World) (K : PySem.W.Frag) (mg : Str → Option Value) (base : PySem.Heap) (t : Th) (x : Str) (i : Nat) (fs : List Str) : Prop where
  ex : ∃ (C fI : Addr) (fd : FuncData) (ps : List Str), t.ga i = some C ∧ ExC K mg x C fI fs ∧ Binds K fd ps [] ∧ FnOk P w K mg base (L2.CX P w) 2 fI fd ps (spI C fs)
/-- a class as a clause names it: which ones it takes -/
structure HE (K : PySem.W.Frag) (mg : Str → Option Value) (t : Th) (x : Str) (ids : List Nat) : Prop where
  ex : ∃ T : Addr, mg x = some (.ref T) ∧ ∀ k C, t.ga k = some C → PySem.W.exmOne K (.ref C) (.ref T) = some (decide (k ∈ ids))
/-- a field that those classes have -/
def FE (K : PySem.W.Frag) (t : Th) (ids : List Nat) (f : Str) : Prop := ∀ k C, k ∈ ids → t.ga k = some C → XfC K C ∧ PySem.W.findIn K (.ref C) f = some none
section
variable {t : Th} {ρ : List Addr} {h : Heap} {H : Hp}
theorem frs_zip : ∀ {fs : List Str} {vs : List Val} {ys : List V}, VRs t ρ vs ys → FRs t ρ (fs.zip vs) (fs.zip ys)
  | [], _, _, _ => by rw [List.zip_nil_left, List.zip_nil_left]; exact .nil
  | f :: fs, _, _, .nil => .nil
  | f :: fs, _, _, .cons r rs => .cons ⟨rfl, r⟩ (frs_zip rs)
theorem frs_look {f : Str} {v : Val} : ∀ {fs : List (Str × Val)} {ys : List (Str × V)}, FRs t ρ fs ys → fs.lookup f = some v → ∃ y, ys.lookup f = some y ∧ VR t ρ v y
  | [], _, .nil, e => by cases e
  | (k, w) :: fs, (k', y) :: ys, .cons r rs, e => by
    obtain ⟨r1, r2⟩ := r
    dsimp only at r1 r2
    subst r1
    simp only [List.lookup] at e ⊢
    by_cases hk : (f == k) = true
    · rw [hk] at e ⊢
      cases e
      exact ⟨y, rfl, r2⟩
    · have hk2 : (f == k) = false := by simpa using hk
      rw [hk2] at e ⊢
      exact frs_look rs e
end
section
variable {X : Cx} {t : Th} {W : L2.WX} {g : G} {e : Expr} {es : List Expr} {ms : Exs} {pos : Pos}
theorem s_rse {x : Str} {i : Nat} {fs : List Str} {p pos' : Pos} {k : Nat} (O : OkC X t W) (C : CE X.prog X.w X.K X.mg X.base t x i fs) (hr : Room (k + 3) X.A) (ha : PA X (e :: es) (tA t W (dens g ms))) (hf : fs.length ≤ 900 := by decide) (hg : Gl X x := by rfl)
    (hdb : (x == ("__debug__" : Str)) = false := by decide) (he : starEach (e :: es) X.env = (false, eval e X.env) :: starEach es X.env := by rfl) (hpl : (backTo pos (starEach es X.env)).any (·.1) = false := by rfl) :
    PS X (.Raise (some (.Call (.Name x p) (e :: es) [] pos)) none pos') (tS t W (exe g (.rse i fs ms))) := by
  obtain ⟨Ca, fI, fd, ps, hga, T, hb, F⟩ := C.ex
  refine PSi (ps_rse O.calm O.tk T F (hr.mono (Nat.le_add_left _ _)) hb hg ha hdb he hpl) fun D σ H ⟨ρ, h, s, x, sr, p⟩ => ⟨ρ, h, s, x, sr, ?_⟩
  unfold exe at p
  refine (Post.sb sr p).imp fun vs h1 ρ1 H1 e1 x1 p1 ys ry => ?_
  split at p1
  · rename_i hl
    refine mko_in (C := Ca) (Q := fun cls d H' => W cls d σ H') (by rw [← ry.length]; exact hl) hf fun d hd => ?_
    have nd : d ∉ ρ1 := x1.free hd
    refine p1 ρ1 _ ((Ext.refl _ _).aside hd) (x1.aside nd (by rw [hd]; exact fun _ _ => nofun) (by rw [hd]; exact fun _ => nofun)) Ca d _ σ hga upd_same ?_ (SR.ext e1 sr)
    exact pr_rev (frs_zip ry)
  · exact p1.elim
theorem OkC.tr (O : OkC X t W) {W' : L2.WX} {pn : List (Addr × PySem.Obj)} {xe : Value → Shared → Prop} (tk : Takes (X.tr pn xe) W') (own : PassesOwn (model X.prog X.w) X.A X.env xe) : OkC (X.tr pn xe) t W' :=
  ⟨⟨O.hK, O.nd, O.hu, O.hg, O.sm, own, tk⟩, O.calm, O.px⟩
theorem OkC.su (O : OkC X t W) (a : Addr) (pn : List (Addr × PySem.Obj)) (e : Option (Nat × Addr × Addr × List (Str × Val))) : Ok (X.suite a pn) { t with ex := e } W0 :=
  ⟨O.hK, O.nd, O.hu, O.hg, O.sm, PassesOwn.never, takes0⟩
/-- e.f in the suite of «except .. as e» -/
theorem e_efl {a C d : Addr} {oe : PySem.Obj} {pn : List (Addr × PySem.Obj)} {i : Nat} {nm f : Str} {fs : List (Str × Val)} {p : Pos} {ids : List Nat} {k : Nat} {W' : L2.WX} (hk : k ∈ ids) (hga : t.ga k = some C) (T : FE X.K t ids f) (hz : Zc (.ref C) (some d) oe) (hf : ∃ vs, oe.data = .fields vs) (hex : t.ex = some (i, a, d, fs)) (hg : g.ex = some fs)
    (hi : X.N[i]? = some nm := by rfl) (hv : Vis X.env.scope nm := by first | exact Or.inl rfl | exact Or.inr (Or.inl rfl) | exact Or.inr (Or.inr rfl)) (hd : (nm == ("__debug__" : Str)) = false := by decide) (hcd : (nm == ("__classdict__" : Str)) = false := by decide)
    (hb : attributeBase (.Name nm p) f X.env (eval (.Name nm p) X.env) = eval (.Name nm p) X.env := by rfl) : PE (X.suite a ((a, oe) :: pn)) (.Attribute (.Name nm p) f pos) (tE t W' (den g (.efl i f))) := by
  obtain ⟨xf, no⟩ := T k C hk hga
  refine PEi (pe_xf xf no hz hf (pe_var (X := X.suite a ((a, oe) :: pn)) hi hv hd hcd) hb) fun σ H Q ⟨ρ, h, s, x, sr, p⟩ => ?_
  unfold den at p
  split at p
  · rename_i hs
    rw [hg] at p
    dsimp only at p
    split at p
    · rename_i v hv
      obtain ⟨ys, e1, e2⟩ := x.xs _ _ _ _ hex
      obtain ⟨y, e3, ry⟩ := frs_look e2 hv
      exact ⟨.ref a, sr.px _ _ _ _ hex hs, rfl, rfl, d, ys, y, rfl, e1, e3, Post.ok x p _ ry⟩
    · exact p.elim
  · exact p.elim
end
/-! ## the things said with and without a handled exception -/
abbrev Th.hot (t : Th) (i : Nat) (a d : Addr) (fs : List (Str × Val)) : Th := { t with ex := some (i, a, d, fs) }
section
variable {t : Th} {e : Option (Nat × Addr × Addr × List (Str × Val))} {ρ ρ' : List Addr} {h h' : Heap} {H H' : Hp} {α : Type}
theorem VR_ex : VR { t with ex := e } = VR t := by
  funext ρ v y
  cases v <;> rfl
theorem OR_ex : OR { t with ex := e } = OR t := by
  funext ρ H a o
  cases o <;> simp only [OR, VRs, KRs, FRs, VR_ex]
theorem SO_ex : SO { t with ex := e } = SO t := by
  funext ρ o p
  cases o <;> cases p <;> simp only [SO, VR_ex]
theorem HR.cold (hx : t.ex = none) (x : HR { t with ex := e } ρ h H) : HR t ρ h H :=
  ⟨x.len, x.nd, fun n o a h1 h2 => by have := x.ob n o a h1 h2; rw [OR_ex] at this; exact this, x.sc, fun i a d fs z => by rw [hx] at z; cases z⟩
theorem HR.warm (x : HR t ρ h H) (q : XOk { t with ex := e } ρ H) : HR { t with ex := e } ρ h H :=
  ⟨x.len, x.nd, fun n o a h1 h2 => by have := x.ob n o a h1 h2; rw [OR_ex]; exact this, x.sc, q⟩
theorem SR.cold (hx : t.ex = none) {s : Sl} {σ : L2.St} (x : SR { t with ex := e } ρ s σ) : SR t ρ s σ :=
  ⟨by have := x.pr; rw [SO_ex] at this; exact this, fun i a d fs z => by rw [hx] at z; cases z⟩
theorem XOk.ext (x : HR { t with ex := e } ρ h H) (e1 : Ext ρ H ρ' H') : XOk { t with ex := e } ρ' H' := fun i a d fs z => by
  obtain ⟨ys, q1, q2⟩ := x.xs i a d fs z
  refine ⟨ys, e1.keep d _ (fun hm => ?_) q1, pr_mono (fun _ _ w => ⟨w.1, VR.ext e1 w.2⟩) q2⟩
  obtain ⟨u, h1, _, h2⟩ := x.tr hm
  rw [q1] at h1; cases h1
  exact h2 _ rfl
/-- from the one to the other -/
theorem Post.cold (hx : t.ex = none) (x : HR { t with ex := e } ρ h H) {r : Res α} {k k' : α → Heap → List Addr → Hp → Prop} {E : Value → Option Addr → Hp → Prop} (p : Post { t with ex := e } ρ H r k E)
    (hk : ∀ a h' ρ' H', Ext ρ H ρ' H' → HR { t with ex := e } ρ' h' H' → k a h' ρ' H' → k' a h' ρ' H') : Post t ρ H r k' E := by
  cases r with
  | ok a h1 => exact fun ρ2 H2 e2 y => hk _ _ _ _ e2 (y.warm (XOk.ext x e2)) (p ρ2 H2 e2 (y.warm (XOk.ext x e2)))
  | exc c fs h1 => exact fun ρ2 H2 C d ys e2 y hc hd hf => p ρ2 H2 C d ys e2 (y.warm (XOk.ext x e2)) hc hd (pr_mono (fun _ _ w => ⟨w.1, by rw [VR_ex]; exact w.2⟩) hf)
  | bad => exact p
theorem CalleeN.hot {P : Program} {w : World} {K : PySem.W.Frag} {mg : Str → Option Value} {base : PySem.Heap} {k : Nat} {f : Str} {ds : List Val} {m : List Val → Heap → Res Val} (hx : t.ex = none) (C : CalleeN P w K mg base t k f ds m) : CalleeN P w K mg base { t with ex := e } k f ds m := by
  obtain ⟨fa, fd, ps, us, dvs, h1, h2, h3, h4, h5, F⟩ := C.ex
  have imp : ∀ vs H Q E, spC { t with ex := e } m vs H Q E → spC t m vs H Q E := fun vs H Q E ⟨ρ, h, as, x, r, p⟩ =>
    ⟨ρ, h, as, x.cold hx, by unfold VRs at r; rw [VR_ex] at r; exact r, Post.cold hx x p fun a h' ρ' H' _ _ q y ry => q y (by rw [VR_ex]; exact ry)⟩
  exact ⟨fa, fd, ps, us, dvs, h1, h2, h3, h4, fun ρ => by unfold VRs; rw [VR_ex]; exact h5 ρ, ⟨fun vs H Q E q => F.len vs H Q E (imp _ _ _ _ q), fun A outer s H args us vs Q E room gu env b r q => F.run A outer s H args us vs Q E room gu env b r (imp _ _ _ _ q)⟩⟩
theorem FE.hot {K : PySem.W.Frag} {ids : List Nat} {f : Str} (x : FE K t ids f) : FE K { t with ex := e } ids f := x
end
/-! ## try -/
/-- the clauses, their mirror -/
inductive HC (X : Cx) (t : Th) (g : G) : List ExceptHandler → Hds → Prop
  | nil : HC X t g [] .nil
  | plain {x : Str} {ids : List Nat} {b₀ : Stmt} {suite : List Stmt} {np pos' : Pos} {hds : List ExceptHandler} {nss : Sts} {hs : Hds} (hE : HE X.K X.mg t x ids) (hg : Gl X x) (hdb : (x == ("__debug__" : Str)) = false)
      (hsu : ∀ a pn fs, Ok (X.suite a pn) t W0 → PSs (X.suite a pn) (b₀ :: suite) (tS t W0 (exes { g with ex := some fs } nss))) (r : HC X t g hds hs) :
      HC X t g (.ExceptHandler (some (.Name x np)) none (b₀ :: suite) pos' :: hds) (.cons ids none nss hs)
  | named {x nm : Str} {ids : List Nat} {i : Nat} {b₀ : Stmt} {suite : List Stmt} {np pos' : Pos} {hds : List ExceptHandler} {nss : Sts} {hs : Hds} (hE : HE X.K X.mg t x ids) (hg : Gl X x) (hdb : (x == ("__debug__" : Str)) = false) (hi : X.N[i]? = some nm) (hln : X.env.kindOf nm = some .local)
      (hsu : ∀ a oe pn fs C d k, k ∈ ids → t.ga k = some C → Zc (.ref C) (some d) oe → (∃ vs, oe.data = .fields vs) → Ok (X.suite a ((a, oe) :: pn)) (t.hot i a d fs) W0 → PSs (X.suite a ((a, oe) :: pn)) (b₀ :: suite) (tS (t.hot i a d fs) W0 (exes { g with ex := some fs } nss))) (r : HC X t g hds hs) :
      HC X t g (.ExceptHandler (some (.Name x np)) (some nm) (b₀ :: suite) pos' :: hds) (.cons ids (some i) nss hs)
section
variable {X : Cx} {t : Th} {W : L2.WX} {g : G} {pos : Pos} {hds : List ExceptHandler} {hs : Hds}
theorem hands_ok (hx : t.ex = none) (O : ∀ a pn e, Ok (X.suite a pn) { t with ex := e } W0) (k : HC X t g hds hs) : ∃ l, HdsAny X hds l ∧ ∀ (ρ : List Addr) (h : Heap) (H : Hp) (s : Sl) (σ : L2.St) (D : Ends) (W : L2.WX) (c : Nat) (fs : List (Str × Val)) (C d : Addr) (ys : List (Str × V)),
    HR t ρ h H → SR t ρ s σ → t.ga c = some C → H d = some (.xd ys) → FRs t ρ fs ys → Post t ρ H (hands g hs c fs s h) (KFl t W D) E0' → wAny X.K W D l (.ref C) (some d) σ H := by
  induction k with
  | nil => exact ⟨[], .nil, fun ρ h H s σ D W c fs C d ys x sr hc hd hf p => by unfold hands at p; exact Post.ok x p C d ys σ hc hd hf sr⟩
  | @plain x' ids b₀ suite np pos' hds nss hs hE hg hdb hsu r ih =>
    obtain ⟨l, hl, ih⟩ := ih
    obtain ⟨T, hT, hm⟩ := hE.ex
    refine ⟨(.ref T, none, fun a cls d => fun D σ H => ∃ fs, tS t W0 (exes { g with ex := some fs } nss) D σ H) :: l, .plain ⟨hg, hdb, .inl hT⟩ (fun a oe cls d pn z1 z2 => ⟨fun pins s σ H D I ⟨fs, q⟩ => (hsu a ((a, oe) :: pn) fs (by have := O a ((a, oe) :: pn) t.ex; exact this)).run pins s σ H D I q⟩) hl, fun ρ h H s σ D W c fs C d ys x sr hc hd hf p => ⟨_, hm c C hc, fun e a ha => ?_, fun e => ih ρ h H s σ D W c fs C d ys x sr hc hd hf ?_⟩⟩
    · have e := of_decide_eq_true e
      unfold hands at p
      rw [if_pos e] at p
      refine ⟨fs, ρ, h, s, x, sr, (Post.bind p).imp fun fl h1 ρ1 H1 e1 x1 p1 => ?_⟩
      cases fl with
      | nx s' => exact Post.ok (E := E0') x1 p1
      | rt v => exact Post.ok (E := E0') x1 p1
      | ex c' fs' s' => exact p1.elim
    · have e := of_decide_eq_false e
      unfold hands at p
      rw [if_neg e] at p
      exact p
  | @named x' nm ids i b₀ suite np pos' hds nss hs hE hg hdb hi hln hsu r ih =>
    obtain ⟨l, hl, ih⟩ := ih
    obtain ⟨T, hT, hm⟩ := hE.ex
    refine ⟨(.ref T, some i, fun a cls d => fun D σ H => ∃ fs C d', cls = .ref C ∧ d = some d' ∧ (∃ k ∈ ids, t.ga k = some C) ∧ tS (t.hot i a d' fs) W0 (exes { g with ex := some fs } nss) D σ H) :: l,
      .named ⟨hg, hdb, .inl hT⟩ hi hln (fun a oe cls d pn z1 z2 => ⟨fun pins s σ H D I ⟨fs, C, d', e1, e2, ⟨k, hk, hga⟩, q⟩ => by subst e1; subst e2; exact (hsu a oe pn fs C d' k hk hga z1 z2 (O a ((a, oe) :: pn) _)).run pins s σ H D I q⟩) hl, fun ρ h H s σ D W c fs C d ys x sr hc hd hf p => ⟨_, hm c C hc, fun e a ha => ?_, fun e => ih ρ h H s σ D W c fs C d ys x sr hc hd hf ?_⟩⟩
    · have e := of_decide_eq_true e
      unfold hands at p
      rw [if_pos e] at p
      have xo : XOk (t.hot i a d fs) ρ H := fun i' a' d' fs' z => by
        cases z
        exact ⟨ys, hd, pr_mono (fun _ _ w => ⟨w.1, by rw [VR_ex]; exact w.2⟩) hf⟩
      have xh : HR (t.hot i a d fs) ρ h H := x.warm xo
      have srh : SR (t.hot i a d fs) ρ (goneS (some i) s) (σ.set i (some (.ref a))) := by
        refine ⟨?_, fun i' a' d' fs' z e2 => ?_⟩
        · rw [SO_ex]
          exact pr_set (show SO t ρ none (some (.ref a)) from trivial) i sr.pr
        · cases z
          have hl : i < s.length := by
            have := (List.getElem?_eq_some_iff.mp e2).1
            rw [show (goneS (some i) s).length = s.length from List.length_set] at this
            exact this
          rw [List.getElem?_set_self (by rw [← sr.pr.length]; exact hl)]
      refine ⟨fs, C, d, rfl, rfl, ⟨c, e, hc⟩, ρ, h, goneS (some i) s, xh, srh, ?_⟩
      generalize exes { g with ex := some fs } nss (goneS (some i) s) h = z at p ⊢
      cases z with
      | bad => exact p
      | exc c' fs' h1 => exact fun _ _ _ _ _ e2 y _ _ _ => (p _ _ _ _ _ e2 (y.cold hx) (by assumption) (by assumption) (by rename_i q; exact pr_mono (fun _ _ w => ⟨w.1, by have := w.2; rw [VR_ex] at this; exact this⟩) q)).elim
      | ok fl h1 =>
        cases fl with
        | nx s' => exact fun ρ1 H1 e1 x1 σ' sr' => p ρ1 H1 e1 (x1.cold hx) (σ'.set i none) (by
            have q := SR.cold hx sr'
            exact ⟨pr_set (show SO t ρ1 none none from trivial) i q.pr, fun _ _ _ _ z => by rw [hx] at z; cases z⟩)
        | rt v => exact fun ρ1 H1 e1 x1 y ry => p ρ1 H1 e1 (x1.cold hx) y (by rw [VR_ex] at ry; exact ry)
        | ex c' fs' s' => exact p.elim
    · have e := of_decide_eq_false e
      unfold hands at p
      rw [if_neg e] at p
      exact p
theorem s_tri {body : List Stmt} {h₀ : ExceptHandler} {nss : Sts} (O : OkC X t W) (hb : ∀ (W' : L2.WX) (pn : List (Addr × PySem.Obj)) (xe : Value → Shared → Prop), OkC (X.tr pn xe) t W' → PSs (X.tr pn xe) body (tS t W' (exes g nss))) (hh : HC X t g (h₀ :: hds) hs)
    (hst : X.stack = X.env :: X.outer := by rfl) (hf : X.env.frame = some X.env.locals := by rfl) : PS X (.Try body (h₀ :: hds) [] [] pos) (tS t W (exe g (.tri nss hs))) := by
  obtain ⟨l, hl, ih⟩ := hands_ok O.px (fun a pn e => O.su a pn e) hh
  refine PSi (ps_try_any hst hf O.nd O.tk (tb := fun W' => tS t W' (exes g nss)) (fun W' pn xe tk own => hb W' pn xe (O.tr tk own)) hl) fun D σ H ⟨ρ, h, s, x, sr, p⟩ => ⟨ρ, h, s, x, sr, ?_⟩
  unfold exe at p
  refine (Post.bind p).imp fun fl h1 ρ1 H1 e1 x1 p1 => ?_
  cases fl with
  | nx s' => exact Post.ok (E := E0') x1 p1
  | rt v => exact Post.ok (E := E0') x1 p1
  | ex c fs s' => exact fun C d ys σ' hc hd hf sr' => ih ρ1 h1 H1 s' σ' D W c fs C d ys x1 sr' hc hd hf p1
end
/-! ## x in range(..) -/
def rRng (neg : Bool) : R2 := fun x y H Q => ∃ i a lo hi, x = V.int i ∧ y = V.ref a ∧ H a = some (.rng lo hi) ∧ Q (.bl (xor neg (decide (lo ≤ i ∧ i < hi)))) H
def rRgs : List V → Hp → VK → Prop := fun vs H Q => (∃ j, vs = [V.int j] ∧ ∀ p, H p = none → Q (.ref p) (upd H p (.rng 0 j))) ∨ ∃ i j, vs = [V.int i, V.int j] ∧ ∀ p, H p = none → Q (.ref p) (upd H p (.rng i j))
section
variable {X : Cx} {t : Th} {W : L2.WX} {g : G} {a b : Expr} {bs : List Expr} {ma : Ex} {ms : Exs} {pos : Pos}
theorem rg_in : OpR X (compareOp .In) (rRng false) := by
  intro pins s σ H x y v u Q I rx ry ⟨i, a, lo, hi, e1, e2, e3, q⟩
  exact op_in_rng pins s σ H x y v u Q I rx ry ⟨i, a, lo, hi, e1, e2, e3, by rw [Bool.false_xor] at q; exact q⟩
theorem rg_notin : OpR X (compareOp .NotIn) (rRng true) := by
  intro pins s σ H x y v u Q I rx ry h
  obtain ⟨i, a, lo, hi, rfl, rfl, ha, q⟩ := h
  obtain ⟨k, rfl⟩ := rx
  obtain rfl : u = Value.ref a := ry
  obtain ⟨t1, t2, t3, ho⟩ := I.hok a _ ha
  show wpAny _ _ (do return Value.bool (!(← contains (Value.ref a) (Value.int i k)))) _ _ s
  refine wpAny_bind (wpAny_contains_slot (T := "range") ⟨_, ho, rfl⟩ F.slot_range_contains (call_meets F.slot_range_contains ⟨_, ho, rfl⟩ F.entry_range_contains (F.args_range_contains_2 _ _) (q_contains a lo hi i t1 t2 t3 k)
    ⟨ho, wpAny_truthy_bool (wpAny_pure ⟨.bl _, H, I, rfl, ?_⟩)⟩))
  rw [place1]
  rw [Bool.true_xor] at q
  exact q
theorem cr_rgs : CallR X (.type "range") rRgs := by
  intro pins s σ H vs us Q I r h
  rcases h with ⟨j, rfl, q⟩ | ⟨i, j, rfl, q⟩
  · match us, r with
    | [_], .cons ⟨u, e⟩ .nil =>
      subst e
      refine call_range_1 ⟨.ref s.heap.objs.size, upd H s.heap.objs.size (.rng 0 j), I.laid (t' := s.toks + 1 + 1) (fun b o e => Heap.get?_push_of_some _ e) (Nat.le_refl _) ?_, rfl, q _ (I.hok.fresh (Nat.le_refl _))⟩
      exact ⟨s.toks, u, s.toks + 1, Heap.get?_push_size _ rfl⟩
  · exact cr_range2 pins s σ H _ us Q I r ⟨i, j, rfl, q⟩
theorem rg_imp {op : CmpOp} {neg : Bool} {σ : L2.St} {H : Hp} {Q : VK} (q : tE t W (den g (.inr neg ma ms)) σ H Q) : tOp (rRng neg) (tE t W (den g ma)) (tCB rRgs (tA t W (dens g ms))) σ H Q := by
  obtain ⟨ρ, h, s, x, sr, p⟩ := q
  unfold den at p
  refine ⟨ρ, h, s, x, sr, (Post.bind p).imp fun v h1 ρ1 H1 e1 x1 p1 y ry => ⟨ρ1, h1, s, x1, SR.ext e1 sr, (Post.bind p1).imp fun vs h2 ρ2 H2 e2 x2 p2 zs rz => ?_⟩⟩
  have fin : ∀ (i lo hi : Int), y = .int i → Post t ρ2 H2 (.ok (.bl (xor neg (decide (lo ≤ i ∧ i < hi)))) h2) (KV1 t Q) (EW W σ) → ∀ p, H2 p = none → rRng neg y (.ref p) (upd H2 p (.rng lo hi)) Q := by
    intro i lo hi ey p3 p hp
    have nd : p ∉ ρ2 := x2.free hp
    exact ⟨i, p, lo, hi, ey, rfl, upd_same, p3 ρ2 _ ((Ext.refl _ _).aside hp) (x2.aside nd (by rw [hp]; exact fun _ _ => nofun) (by rw [hp]; exact fun _ => nofun)) _ rfl⟩
  unfold inrV at p2
  split at p2
  · rename_i i
    have ey : y = .int i := ry
    split at p2
    · obtain ⟨z, rfl, r1⟩ := vrs1 rz
      cases r1
      exact .inl ⟨_, rfl, fin _ _ _ ey p2⟩
    · obtain ⟨z1, z2, rfl, r1, r2⟩ := vrs2 rz
      cases r1; cases r2
      exact .inr ⟨_, _, rfl, fin _ _ _ ey p2⟩
    · exact p2.elim
  · exact p2.elim
theorem e_inr {op : CmpOp} {neg : Bool} {p p2 : Pos} (ho : OpR X (compareOp op) (rRng neg)) (ha : PE X a (tE t W (den g ma))) (hm : X.mg "range" = none) (hb : PA X (b :: bs) (tA t W (dens g ms))) (hg : Gl X "range" := by rfl)
    (he : starEach (b :: bs) X.env = (false, eval b X.env) :: starEach bs X.env := by rfl) (hpl : (backTo p2 (starEach bs X.env)).any (·.1) = false := by rfl) (hmk : behindInMarks op (.Call (.Name "range" p) (b :: bs) [] p2) = false := by rfl) :
    PE X (.Compare a [op] [.Call (.Name "range" p) (b :: bs) [] p2] pos) (tE t W (den g (.inr neg ma ms))) :=
  PEi (pe_cmpR ho ha (pe_callTy cr_rgs hg hm (by decide +kernel) hb (by decide) (by decide) he hpl) hmk) fun σ H Q q => rg_imp (op := op) q
theorem t_inr {op : CmpOp} {neg : Bool} {p p2 : Pos} (ho : OpR X (compareOp op) (rRng neg)) (ha : PE X a (tE t W (den g ma))) (hm : X.mg "range" = none) (hb : PA X (b :: bs) (tA t W (dens g ms))) (hg : Gl X "range" := by rfl)
    (he : starEach (b :: bs) X.env = (false, eval b X.env) :: starEach bs X.env := by rfl) (hpl : (backTo p2 (starEach bs X.env)).any (·.1) = false := by rfl) (hmk : behindInMarks op (.Call (.Name "range" p) (b :: bs) [] p2) = false := by rfl) :
    PT X (.Compare a [op] [.Call (.Name "range" p) (b :: bs) [] p2] pos) (tT t W (denT g (.inr neg ma ms))) := by
  refine PTi (pt_cmpR ho ha (pe_callTy cr_rgs hg hm (by decide +kernel) hb (by decide) (by decide) he hpl) hmk) fun σ H Q ⟨ρ, h, s, hr, sr, q⟩ => ?_
  refine rg_imp (op := op) (Q := fun v H' => ∃ k, v = .bl k ∧ Q k H') ⟨ρ, h, s, hr, sr, ?_⟩
  unfold denT at q
  unfold den at q ⊢
  have q1 := Post.bind q
  have q2 := Post.bind q1
  refine (show Post t ρ H ((den g ma s h).bind fun x h => (dens g ms s h).bind fun vs h => inrV neg x vs h) _ _ from ?_)
  generalize he : ((den g ma s h).bind fun x h => (dens g ms s h).bind fun vs h => inrV neg x vs h) = r at q1 ⊢
  cases r with
  | bad => exact q1
  | exc c fs h1 => exact q1
  | ok v h1 =>
    have hv : ∃ k, v = .bl k := by
      cases hx : den g ma s h with
      | ok x1 h1' =>
        rw [hx] at he
        cases hy : dens g ms s h1' with
        | ok y1 h2' =>
          simp only [Res.bind_ok, hy] at he
          unfold inrV at he
          repeat' split at he
          all_goals cases he
          all_goals exact ⟨_, rfl⟩
        | exc _ _ _ => simp only [Res.bind_ok, hy, Res.bind_exc] at he; cases he
        | bad => simp only [Res.bind_ok, hy, Res.bind_bad] at he; cases he
      | exc _ _ _ => rw [hx] at he; cases he
      | bad => rw [hx] at he; cases he
    obtain ⟨k, rfl⟩ := hv
    intro ρ2 H2 e2 x2 z rz
    cases rz
    exact ⟨k, rfl, (q1 ρ2 H2 e2 x2).ok x2⟩
end
end Mi


/-! # Mi9: how a text of Mi is reckoned: what must hold at its end; heaps that grow; the script's numbers -/
namespace Mi
open PySem (Str PyData)

/-- an equation that simp shall not take for one by unfolding -/
theorem nrfl {α : Sort _} {a b : α} (h : a = b) : a = b := h
abbrev RQ (α : Type) := α → Heap → Prop
abbrev RE := Nat → List (Str × Val) → Heap → Prop
def Res.sat {α : Type} (r : Res α) (Q : RQ α) (E : RE) : Prop :=
  match r with
  | .ok a h => Q a h
  | .exc c fs h => E c fs h
  | .bad => False
abbrev nox : RE := fun _ _ _ => False
theorem Res.sat.imp {α : Type} {r : Res α} {Q Q' : RQ α} {E E' : RE} (s : r.sat Q E) (hq : ∀ a h, Q a h → Q' a h) (he : ∀ c fs h, E c fs h → E' c fs h) : r.sat Q' E' := by
  cases r with
  | ok a h => exact hq _ _ s
  | exc c fs h => exact he _ _ _ s
  | bad => exact s
theorem Res.sat.on {α : Type} {r : Res α} {Q Q' : RQ α} {E : RE} (s : r.sat Q nox) (hq : ∀ a h, Q a h → Q' a h) : r.sat Q' E := s.imp hq fun _ _ _ z => z.elim
@[simp] theorem sat_ok {α : Type} {a : α} {h : Heap} {Q : RQ α} {E : RE} : (Res.ok a h).sat Q E = Q a h := nrfl rfl
@[simp] theorem sat_exc {α : Type} {c : Nat} {fs : List (Str × Val)} {h : Heap} {Q : RQ α} {E : RE} : (Res.exc c fs h).sat Q E = E c fs h := nrfl rfl
@[simp] theorem sat_bad {α : Type} {Q : RQ α} {E : RE} : (Res.bad : Res α).sat Q E = False := nrfl rfl
@[simp] theorem sat_bind {α β : Type} {r : Res α} {f : α → Heap → Res β} {Q : RQ β} {E : RE} : (r.bind f).sat Q E = r.sat (fun a h => (f a h).sat Q E) E := by cases r <;> rfl
@[simp] theorem sat_sb {α : Type} {σ : Sl} {r : Res α} {f : α → Heap → Res Fl} {Q : RQ Fl} {E : RE} : (r.sb σ f).sat Q E = r.sat (fun a h => (f a h).sat Q E) (fun c fs h => Q (.ex c fs σ) h) := by cases r <;> rfl
@[simp] theorem sat_fin {r : Res Fl} {Q : RQ Val} {E : RE} : r.fin.sat Q E = r.sat (fun f h => (f.out h).sat Q E) nox := by
  cases r with
  | ok f h => rfl
  | exc => rfl
  | bad => rfl
@[simp] theorem sat_ite_bad {α : Type} {c : Prop} [Decidable c] {r : Res α} {Q : RQ α} {E : RE} : (if c then r else .bad).sat Q E = (c ∧ r.sat Q E) := by
  by_cases h : c <;> simp [h]
theorem sat_ite {α : Type} {c : Prop} [Decidable c] {r r' : Res α} {Q : RQ α} {E : RE} (h1 : c → r.sat Q E) (h2 : ¬ c → r'.sat Q E) : (if c then r else r').sat Q E := by
  by_cases h : c
  · rw [if_pos h]; exact h1 h
  · rw [if_neg h]; exact h2 h

/-- to the clauses, where it is raised -/
def Fl.tri (f : Fl) (h : Heap) (k : Nat → List (Str × Val) → Sl → Heap → Res Fl) : Res Fl :=
  match f with
  | .ex c fs σ => k c fs σ h
  | .nx σ => .ok (.nx σ) h
  | .rt v => .ok (.rt v) h
@[simp] theorem Fl.tri_nx {σ : Sl} {h : Heap} {k : Nat → List (Str × Val) → Sl → Heap → Res Fl} : (Fl.nx σ).tri h k = .ok (.nx σ) h := nrfl rfl
@[simp] theorem Fl.tri_rt {v : Val} {h : Heap} {k : Nat → List (Str × Val) → Sl → Heap → Res Fl} : (Fl.rt v).tri h k = .ok (.rt v) h := nrfl rfl
@[simp] theorem Fl.tri_ex {c : Nat} {fs : List (Str × Val)} {σ : Sl} {h : Heap} {k : Nat → List (Str × Val) → Sl → Heap → Res Fl} : (Fl.ex c fs σ).tri h k = k c fs σ h := nrfl rfl
/-! ## the equations -/
@[simp] theorem SL_is : SL = 16777216 := nrfl rfl
section
variable {g : G} {σ : Sl} {h : Heap}
@[simp] theorem den_var {i : Nat} : den g (.var i) σ h = (match σ[i]? with | some (some v) => .ok v h | _ => .bad) := by rw [den] <;> rfl
@[simp] theorem den_cst {v : Val} : den g (.cst v) σ h = .ok v h := by rw [den] <;> rfl
@[simp] theorem den_glb {x : Nat} : den g (.glb x) σ h = (match g.glob x with | some v => .ok v h | none => .bad) := by rw [den] <;> rfl
@[simp] theorem den_bin {o : Op} {a b : Ex} : den g (.bin o a b) σ h = (den g a σ h).bind fun x h => (den g b σ h).bind fun y h => bop o x y h := by rw [den] <;> rfl
@[simp] theorem den_neg {a : Ex} : den g (.neg a) σ h = (den g a σ h).bind fun x h => (match x with | .int i => .ok (.int (-i)) h | _ => .bad) := by rw [den] <;> rfl
@[simp] theorem den_not {a : Ex} : den g (.not a) σ h = (den g a σ h).bind fun x h => (truB x h).bind fun b h => .ok (.bl (!b)) h := by rw [den] <;> rfl
@[simp] theorem den_and {a b : Ex} : den g (.and a b) σ h = (den g a σ h).bind fun x h => (truB x h).bind fun t h => if t then den g b σ h else .ok x h := by rw [den] <;> rfl
@[simp] theorem den_or {a b : Ex} : den g (.or a b) σ h = (den g a σ h).bind fun x h => (truB x h).bind fun t h => if t then .ok x h else den g b σ h := by rw [den] <;> rfl
@[simp] theorem den_chn {o p : Op} {a b c : Ex} : den g (.chn o p a b c) σ h = (den g a σ h).bind fun x h => (den g b σ h).bind fun y h => (bop o x y h).bind fun k h =>
    (match k with
    | .bl true => (den g c σ h).bind fun z h => bop p y z h
    | .bl false => .ok (.bl false) h
    | _ => .bad) := by rw [den] <;> rfl
@[simp] theorem den_ch3 {o p q : Op} {a b c d : Ex} : den g (.ch3 o p q a b c d) σ h = (den g a σ h).bind fun x h => (den g b σ h).bind fun y h => (bop o x y h).bind fun k h => chK k h fun h =>
    (den g c σ h).bind fun z h => (bop p y z h).bind fun k h => chK k h fun h => (den g d σ h).bind fun w h => bop q z w h := by rw [den] <;> rfl
@[simp] theorem chK_bl {b : Bool} {f : Heap → Res Val} : chK (.bl b) h f = if b then f h else .ok (.bl false) h := by cases b <;> rfl
@[simp] theorem den_ite {c a b : Ex} : den g (.ite c a b) σ h = (den g c σ h).bind fun x h => (truB x h).bind fun t h => if t then den g a σ h else den g b σ h := by rw [den] <;> rfl
@[simp] theorem den_lst {es : Exs} : den g (.lst es) σ h = (dens g es σ h).bind fun vs h => if vs.length ≤ SL then new (.lst vs) h else .bad := by rw [den] <;> rfl
@[simp] theorem den_tup {es : Exs} : den g (.tup es) σ h = (dens g es σ h).bind fun vs h => if vs.length ≤ SL then new (.tup vs) h else .bad := by rw [den] <;> rfl
@[simp] theorem den_dnew : den g .dnew σ h = new (.dic []) h := by rw [den] <;> rfl
@[simp] theorem den_dic {es : Exs} : den g (.dic es) σ h = (dens g es σ h).bind fun vs h => (match kvsO vs with
    | some kvs => if kvs.length ≤ 15 then new (.dic (kvs.foldl (fun acc kv => putK acc kv.1 kv.2) [])) h else .bad
    | none => .bad) := by rw [den] <;> rfl
@[simp] theorem den_idx {a i : Ex} : den g (.idx a i) σ h = (den g a σ h).bind fun x h => (den g i σ h).bind fun y h => idxV g x y h := by rw [den] <;> rfl
@[simp] theorem den_slc {a : Ex} {lo hi : Exo} : den g (.slc a lo hi) σ h = (den g a σ h).bind fun x h => (deno g lo σ h).bind fun l h => (deno g hi σ h).bind fun u h => slcV x l u h := by rw [den] <;> rfl
@[simp] theorem den_rev {a : Ex} : den g (.rev a) σ h = (den g a σ h).bind fun x h => revV x h := by rw [den] <;> rfl
@[simp] theorem den_cal {f : Nat} {es : Exs} : den g (.cal f es) σ h = (dens g es σ h).bind fun vs h => g.call f vs h := by rw [den] <;> rfl
@[simp] theorem den_pri {p : Pr} {es : Exs} : den g (.pri p es) σ h = (dens g es σ h).bind fun vs h => Mi.pri g p vs h := by rw [den] <;> rfl
@[simp] theorem den_met {m : Me} {o : Ex} {es : Exs} : den g (.met m o es) σ h = (den g o σ h).bind fun x h => if rcv m x h then (dens g es σ h).bind fun vs h => Mi.met m x vs h else .bad := by rw [den] <;> rfl
@[simp] theorem den_lc {e : Ex} {t : Tg} {s : Src} {es : Exs} {own : List Nat} {c : Exo} : den g (.lc e t s es own c) σ h = ((dens g es σ h).bind fun vs h => srcR s vs h).bind fun w h => (lcF w t (denc g c) (den g e) (wipe σ own) w.items [] h).bind fun vs h => new (.lst vs) h := by rw [den] <;> rfl
@[simp] theorem den_lz {es : Exs} : den g (.lz es) σ h = (dens g es σ h).bind fun vs h => lzO vs h := by rw [den] <;> rfl
@[simp] theorem dens_nil : dens g .nil σ h = .ok [] h := by rw [dens] <;> rfl
@[simp] theorem dens_cons {e : Ex} {es : Exs} : dens g (.cons e es) σ h = (den g e σ h).bind fun v h => (dens g es σ h).bind fun vs h => .ok (v :: vs) h := by rw [dens] <;> rfl
@[simp] theorem deno_none : deno g .none σ h = .ok none h := by rw [deno] <;> rfl
@[simp] theorem deno_some {e : Ex} : deno g (.some e) σ h = (den g e σ h).bind intO := by rw [deno] <;> rfl
@[simp] theorem denc_none : denc g .none σ h = .ok true h := by rw [denc] <;> rfl
@[simp] theorem denc_some {e : Ex} : denc g (.some e) σ h = (den g e σ h).bind truB := by rw [denc] <;> rfl
@[simp] theorem denT_eq {e : Ex} : denT g e σ h = (den g e σ h).bind truB := nrfl rfl
@[simp] theorem exe_pass : exe g .pass σ h = .ok (.nx σ) h := by rw [exe] <;> rfl
@[simp] theorem exe_nvr : exe g .nvr σ h = .bad := by rw [exe] <;> rfl
@[simp] theorem exe_exp {e : Ex} : exe g (.exp e) σ h = (den g e σ h).sb σ fun _ h => .ok (.nx σ) h := by rw [exe] <;> rfl
@[simp] theorem exe_ret {e : Ex} : exe g (.ret e) σ h = (den g e σ h).sb σ fun v h => .ok (.rt v) h := by rw [exe] <;> rfl
@[simp] theorem exe_asg {t : Tg} {e : Ex} : exe g (.asg t e) σ h = (den g e σ h).sb σ fun v h => setT t v σ h := by rw [exe] <;> rfl
@[simp] theorem exe_par {is : List Nat} {es : Exs} : exe g (.par is es) σ h = (dens g es σ h).sb σ fun vs h => setP is vs σ h := by rw [exe] <;> rfl
@[simp] theorem exe_sti {o i e : Ex} : exe g (.sti o i e) σ h = (den g e σ h).sb σ fun v h => (den g o σ h).sb σ fun x h => (den g i σ h).sb σ fun y h => (setV x y v h).sb σ fun _ h => .ok (.nx σ) h := by rw [exe] <;> rfl
@[simp] theorem exe_sw2 {o i p j e : Ex} : exe g (.sw2 o i p j e) σ h = (den g e σ h).sb σ fun v h => (twoV v h).sb σ fun xy h => (den g o σ h).sb σ fun x h => (den g i σ h).sb σ fun y h => (setV x y xy.1 h).sb σ fun _ h =>
    (den g p σ h).sb σ fun x h => (den g j σ h).sb σ fun y h => (setV x y xy.2 h).sb σ fun _ h => .ok (.nx σ) h := by rw [exe] <;> rfl
@[simp] theorem exe_aug {o : Op} {i : Nat} {e : Ex} : exe g (.aug o i e) σ h = (den g (.var i) σ h).sb σ fun x h => (den g e σ h).sb σ fun y h => (aop o x y h).sb σ fun v h => .ok (.nx (σ.set i (some v))) h := by rw [exe] <;> rfl
@[simp] theorem exe_ite {c : Ex} {a b : Sts} : exe g (.ite c a b) σ h = (denT g c σ h).sb σ fun t h => if t then exes g a σ h else exes g b σ h := by rw [exe] <;> rfl
@[simp] theorem exe_whl {c : Ex} {b : Sts} : exe g (.whl c b) σ h = loopW (denT g c) (exes g b) turns σ h := by rw [exe] <;> rfl
@[simp] theorem exe_frr {t : Tg} {s : Src} {es : Exs} {b : Sts} : exe g (.frr t s es b) σ h = ((dens g es σ h).bind fun vs h => srcR s vs h).sb σ fun w h => loopF w t (exes g b) w.items σ h := by rw [exe] <;> rfl
@[simp] theorem den_efl {i : Nat} {f : Str} : den g (.efl i f) σ h = (match σ[i]? with | some none => (match g.ex with | some fs => (match fs.lookup f with | some v => .ok v h | none => .bad) | none => .bad) | _ => .bad) := by rw [den] <;> rfl
@[simp] theorem den_inr {neg : Bool} {a : Ex} {es : Exs} : den g (.inr neg a es) σ h = (den g a σ h).bind fun x h => (dens g es σ h).bind fun vs h => inrV neg x vs h := by rw [den] <;> rfl
@[simp] theorem inrV_1 {neg : Bool} {i j : Int} : inrV neg (.int i) [.int j] h = .ok (.bl (xor neg (decide (0 ≤ i ∧ i < j)))) h := nrfl rfl
@[simp] theorem inrV_2 {neg : Bool} {i l j : Int} : inrV neg (.int i) [.int l, .int j] h = .ok (.bl (xor neg (decide (l ≤ i ∧ i < j)))) h := nrfl rfl
@[simp] theorem exe_rse {c : Nat} {fs : List Str} {es : Exs} : exe g (.rse c fs es) σ h = (dens g es σ h).sb σ fun vs h => if vs.length = fs.length then .ok (.ex c (fs.zip vs).reverse σ) h else .bad := by rw [exe] <;> rfl
@[simp] theorem exe_tri {b : Sts} {hs : Hds} : exe g (.tri b hs) σ h = (exes g b σ h).bind fun f h => f.tri h (fun c fs σ h => hands g hs c fs σ h) := by
  rw [exe]
  all_goals first | rfl | (congr 1; funext f h; cases f <;> rfl)
@[simp] theorem hands_nil {c : Nat} {fs : List (Str × Val)} : hands g .nil c fs σ h = .ok (.ex c fs σ) h := by rw [hands] <;> rfl
@[simp] theorem hands_cons {c : Nat} {fs : List (Str × Val)} {ids : List Nat} {sl : Option Nat} {b : Sts} {r : Hds} : hands g (.cons ids sl b r) c fs σ h = if c ∈ ids then (exes { g with ex := some fs } b (goneS sl σ) h).bind fun f h => unx sl f h else hands g r c fs σ h := by rw [hands] <;> rfl
@[simp] theorem goneS_none : goneS none σ = σ := nrfl rfl
@[simp] theorem goneS_some {i : Nat} : goneS (some i) σ = σ.set i none := nrfl rfl
@[simp] theorem unx_nx {sl : Option Nat} : unx sl (.nx σ) h = .ok (.nx (goneS sl σ)) h := nrfl rfl
@[simp] theorem unx_rt {sl : Option Nat} {v : Val} : unx sl (.rt v) h = .ok (.rt v) h := nrfl rfl
@[simp] theorem unx_ex {sl : Option Nat} {c : Nat} {fs : List (Str × Val)} : unx sl (.ex c fs σ) h = .bad := nrfl rfl
@[simp] theorem exes_nil : exes g .nil σ h = .ok (.nx σ) h := by rw [exes] <;> rfl
@[simp] theorem exes_cons {s : St} {ss : Sts} : exes g (.cons s ss) σ h = (exe g s σ h).bind fun f h => f.go h (exes g ss) := by rw [exes] <;> rfl
end
section
variable {g : G} {h : Heap}
/-- str(i) -/
def istr (i : Int) : Str := Str.ofString (toString i)
@[simp] theorem tgV_nm {i : Nat} {v : Val} {σ : Sl} : tgV (.nm i) v σ h = some (σ.set i (some v)) := nrfl rfl
@[simp] theorem wipe_nil {σ : Sl} : wipe σ [] = σ := nrfl rfl
@[simp] theorem wipe_cons {σ : Sl} {i : Nat} {is : List Nat} : wipe σ (i :: is) = (wipe σ is).set i none := nrfl rfl
@[simp] theorem bop_in1 {c : Nat} {z : Str} : bop .in_ (.str ⟨#[c]⟩) (.str z) h = .ok (.bl (decide (c ∈ z.cps.toList))) h := nrfl rfl
@[simp] theorem bop_notin1 {c : Nat} {z : Str} : bop .notin (.str ⟨#[c]⟩) (.str z) h = .ok (.bl (!decide (c ∈ z.cps.toList))) h := nrfl rfl
@[simp] theorem rcv_join {a : Str} : rcv .join (.str a) h = true := nrfl rfl
@[simp] theorem rcv_split {a : Str} : rcv .split (.str a) h = true := nrfl rfl
@[simp] theorem rcv_sindex {a : Str} : rcv .sindex (.str a) h = true := nrfl rfl
@[simp] theorem slc_str {z : Str} {lo hi : Option Int} : slcV (.str z) lo hi h = if z.length ≤ SL then .ok (.str (L2.cutS z lo hi)) h else .bad := nrfl rfl
@[simp] theorem pri_len_str {z : Str} : Mi.pri g .len [.str z] h = if z.length ≤ SL then .ok (.int z.length) h else .bad := by
  unfold pri lenV
  by_cases c : z.length ≤ SL
  · simp only [if_pos c]
  · simp only [if_neg c]
@[simp] theorem is_a_str {x : Str} {t : String} : Mi.pri g .isinst [.str x, .ty t] h = if okTy t = true then .ok (.bl (isTy "str" t)) h else .bad := nrfl rfl
@[simp] theorem is_a_int {x : Int} {t : String} : Mi.pri g .isinst [.int x, .ty t] h = if okTy t = true then .ok (.bl (isTy "int" t)) h else .bad := nrfl rfl
@[simp] theorem is_a_bl {x : Bool} {t : String} : Mi.pri g .isinst [.bl x, .ty t] h = if okTy t = true then .ok (.bl (isTy "bool" t)) h else .bad := nrfl rfl
@[simp] theorem is_a_non {t : String} : Mi.pri g .isinst [.non, .ty t] h = if okTy t = true then .ok (.bl (isTy "NoneType" t)) h else .bad := nrfl rfl
theorem is_a_lst {p : Nat} {xs : List Val} (e : h[p]? = some (.lst xs)) {t : String} : Mi.pri g .isinst [.ref p, .ty t] h = if okTy t = true then .ok (.bl (isTy "list" t)) h else .bad := by simp [Mi.pri, tyO, e]
theorem is_a_tup {p : Nat} {xs : List Val} (e : h[p]? = some (.tup xs)) {t : String} : Mi.pri g .isinst [.ref p, .ty t] h = if okTy t = true then .ok (.bl (isTy "tuple" t)) h else .bad := by simp [Mi.pri, tyO, e]
theorem is_a_dic {p : Nat} {xs : List (Key × Val)} (e : h[p]? = some (.dic xs)) {t : String} : Mi.pri g .isinst [.ref p, .ty t] h = if okTy t = true then .ok (.bl (isTy "dict" t)) h else .bad := by simp [Mi.pri, tyO, e]
theorem len_lst {p : Nat} {xs : List Val} (e : h[p]? = some (.lst xs)) : Mi.pri g .len [.ref p] h = .ok (.int xs.length) h := by simp [Mi.pri, lenV, e]
theorem len_tup {p : Nat} {xs : List Val} (e : h[p]? = some (.tup xs)) : Mi.pri g .len [.ref p] h = .ok (.int xs.length) h := by simp [Mi.pri, lenV, e]
@[simp] theorem pri_str_int {i : Int} : Mi.pri g .str [.int i] h = if i.natAbs.log2 < 1920 then .ok (.str (istr i)) h else .bad := nrfl rfl
@[simp] theorem pri_str_str {x : Str} : Mi.pri g .str [.str x] h = .ok (.str x) h := nrfl rfl
@[simp] theorem pri_int_int {i : Int} : Mi.pri g .int [.int i] h = .ok (.int i) h := nrfl rfl
@[simp] theorem pri_int_bl {b : Bool} : Mi.pri g .int [.bl b] h = .ok (.int (if b then 1 else 0)) h := nrfl rfl
theorem pri_int_str {x : Str} {n : Int} (e : PySem.intText? x = some n) (hl : x.length ≤ 640) : Mi.pri g .int [.str x] h = .ok (.int n) h := by
  unfold Mi.pri
  simp [e, hl]
theorem log2_small {i : Int} (h : i.natAbs < 10 ^ 500) : i.natAbs.log2 < 1920 := by
  by_cases z : i.natAbs = 0
  · rw [z]; decide
  · rw [Nat.log2_lt z]
    exact Nat.lt_of_lt_of_le h (by decide +kernel)
@[simp] theorem setT_nm {i : Nat} {v : Val} {σ : Sl} : setT (.nm i) v σ h = .ok (.nx (σ.set i (some v))) h := nrfl rfl
@[simp] theorem truB_bl {b : Bool} : truB (.bl b) h = .ok b h := nrfl rfl
@[simp] theorem truB_int {i : Int} : truB (.int i) h = .ok (i != 0) h := nrfl rfl
@[simp] theorem truB_non : truB .non h = .ok false h := nrfl rfl
@[simp] theorem intO_int {i : Int} : intO (.int i) h = .ok (some i) h := nrfl rfl
@[simp] theorem bop_add {i j : Int} : bop .add (.int i) (.int j) h = .ok (.int (i + j)) h := nrfl rfl
@[simp] theorem bop_adds {a b : Str} : bop .add (.str a) (.str b) h = if a.length + b.length ≤ SL then .ok (.str (a ++ b)) h else .bad := nrfl rfl
@[simp] theorem bop_sub {i j : Int} : bop .sub (.int i) (.int j) h = .ok (.int (i - j)) h := nrfl rfl
@[simp] theorem bop_mul {i j : Int} : bop .mul (.int i) (.int j) h = if (-18446744073709551616 < i ∧ i < 18446744073709551616) ∨ (-18446744073709551616 < j ∧ j < 18446744073709551616) then .ok (.int (i * j)) h else .bad := nrfl rfl
@[simp] theorem bop_fdiv {i j : Int} : bop .fdiv (.int i) (.int j) h = if 0 < j ∧ j < 1073741824 then .ok (.int (i / j)) h else .bad := nrfl rfl
@[simp] theorem bop_mod {i j : Int} : bop .mod (.int i) (.int j) h = if 0 < j then .ok (.int (i % j)) h else .bad := nrfl rfl
@[simp] theorem bop_pow {i j : Int} : bop .pow (.int i) (.int j) h = if 0 ≤ j ∧ j ≤ 1000000 ∧ i.natAbs < 18446744073709551616 then .ok (.int (i ^ j.toNat)) h else .bad := nrfl rfl
@[simp] theorem bop_eq {i j : Int} : bop .eq (.int i) (.int j) h = .ok (.bl (decide (i = j))) h := nrfl rfl
@[simp] theorem bop_eqs {i j : Str} : bop .eq (.str i) (.str j) h = .ok (.bl (decide (i = j))) h := nrfl rfl
@[simp] theorem bop_eqb {i j : Bool} : bop .eq (.bl i) (.bl j) h = .ok (.bl (decide (i = j))) h := nrfl rfl
@[simp] theorem bop_ne {i j : Int} : bop .ne (.int i) (.int j) h = .ok (.bl (!decide (i = j))) h := nrfl rfl
@[simp] theorem bop_nes {i j : Str} : bop .ne (.str i) (.str j) h = .ok (.bl (!decide (i = j))) h := nrfl rfl
@[simp] theorem bop_neb {i j : Bool} : bop .ne (.bl i) (.bl j) h = .ok (.bl (!decide (i = j))) h := nrfl rfl
@[simp] theorem bop_lt {i j : Int} : bop .lt (.int i) (.int j) h = .ok (.bl (decide (i < j))) h := nrfl rfl
@[simp] theorem bop_le {i j : Int} : bop .le (.int i) (.int j) h = .ok (.bl (decide (i ≤ j))) h := nrfl rfl
@[simp] theorem bop_gt {i j : Int} : bop .gt (.int i) (.int j) h = .ok (.bl (decide (j < i))) h := nrfl rfl
@[simp] theorem bop_ge {i j : Int} : bop .ge (.int i) (.int j) h = .ok (.bl (decide (j ≤ i))) h := nrfl rfl
@[simp] theorem bop_is_non {x : Val} : bop .is x .non h = .ok (.bl (decide (x = .non))) h := nrfl rfl
@[simp] theorem bop_isnot_non {x : Val} : bop .isnot x .non h = .ok (.bl (!decide (x = .non))) h := nrfl rfl
@[simp] theorem aop_add {i j : Int} : aop .add (.int i) (.int j) h = .ok (.int (i + j)) h := nrfl rfl
@[simp] theorem aop_sub {i j : Int} : aop .sub (.int i) (.int j) h = .ok (.int (i - j)) h := nrfl rfl
@[simp] theorem aop_adds {a b : Str} : aop .add (.str a) (.str b) h = if a.length + b.length ≤ SL then .ok (.str (a ++ b)) h else .bad := nrfl rfl
@[simp] theorem pri_max {i j : Int} : Mi.pri g .max [.int i, .int j] h = .ok (.int (max i j)) h := by
  show Res.ok (Val.int (if j > i then j else i)) h = _
  congr 2
  split <;> omega
@[simp] theorem pri_min {i j : Int} : Mi.pri g .min [.int i, .int j] h = .ok (.int (min i j)) h := by
  show Res.ok (Val.int (if j < i then j else i)) h = _
  congr 2
  split <;> omega
@[simp] theorem pri_len_scr : Mi.pri g .len [.scr] h = .ok (.int g.scr.length) h := nrfl rfl
end

/-! ## heaps that grow; n of them is written -/
structure Fr (h h' : Heap) : Prop where
  len : h.length ≤ h'.length
  get : ∀ m : Nat, m < h.length → h'[m]? = h[m]?
structure Fx1 (n : Nat) (h h' : Heap) : Prop where
  len : h.length ≤ h'.length
  get : ∀ m : Nat, m < h.length → m ≠ n → h'[m]? = h[m]?
theorem Fr.refl (h : Heap) : Fr h h := ⟨Nat.le_refl _, fun _ _ => rfl⟩
theorem Fr.trans {h h' h'' : Heap} (a : Fr h h') (b : Fr h' h'') : Fr h h'' := ⟨Nat.le_trans a.len b.len, fun m hm => (b.get m (Nat.lt_of_lt_of_le hm a.len)).trans (a.get m hm)⟩
theorem Fr.one {h h' : Heap} (a : Fr h h') (n : Nat) : Fx1 n h h' := ⟨a.len, fun m hm _ => a.get m hm⟩
theorem Fx1.refl (n : Nat) (h : Heap) : Fx1 n h h := (Fr.refl h).one n
theorem Fx1.trans {n : Nat} {h h' h'' : Heap} (a : Fx1 n h h') (b : Fx1 n h' h'') : Fx1 n h h'' := ⟨Nat.le_trans a.len b.len, fun m hm z => (b.get m (Nat.lt_of_lt_of_le hm a.len) z).trans (a.get m hm z)⟩
/-- n was not yet there -/
theorem Fx1.fresh {n : Nat} {h h' : Heap} (a : Fx1 n h h') (hn : h.length ≤ n) : Fr h h' := ⟨a.len, fun m hm => a.get m hm (by omega)⟩
theorem lt_of_get {h : Heap} {n : Nat} {o : Ob} (e : h[n]? = some o) : n < h.length := by
  rcases Nat.lt_or_ge n h.length with z | z
  · exact z
  · rw [List.getElem?_eq_none z] at e; cases e
theorem Fr.at {h h' : Heap} (a : Fr h h') {n : Nat} {o : Ob} (e : h[n]? = some o) : h'[n]? = some o := (a.get n (lt_of_get e)).trans e
theorem Fx1.at {m : Nat} {h h' : Heap} (a : Fx1 m h h') {n : Nat} {o : Ob} (e : h[n]? = some o) (hn : n ≠ m) : h'[n]? = some o := (a.get n (lt_of_get e) hn).trans e
theorem Fr.push (h : Heap) (o : Ob) : Fr h (h ++ [o]) := ⟨by simp, fun m hm => List.getElem?_append_left hm⟩
theorem Fx1.put (h : Heap) (n : Nat) (o : Ob) : Fx1 n h (h.set n o) := ⟨by simp, fun m hm z => by simp [List.getElem?_set, Ne.symm z]⟩
/-- a new object: the heap after it is left open -/
theorem sat_new {o : Ob} {h : Heap} {Q : RQ Val} {E : RE} (hq : ∀ (n : Nat) (h' : Heap), h'[n]? = some o → n = h.length → h'.length = h.length + 1 → Fr h h' → Q (.ref n) h') : (new o h).sat Q E :=
  hq h.length (h ++ [o]) (by simp) rfl (by simp) (Fr.push h o)
theorem sat_set {h : Heap} {n j : Nat} {xs : List Val} {k : Int} {v : Val} {Q : RQ Unit} {E : RE} (hn : h[n]? = some (.lst xs)) (hj : L2.ixN xs.length k = some j)
    (hp : ∀ h', h'[n]? = some (.lst (xs.set j v)) → h'.length = h.length → Fx1 n h h' → Q () h') : (setV (.ref n) (.int k) v h).sat Q E := by
  unfold setV
  dsimp only
  rw [hn]
  dsimp only
  rw [hj]
  exact hp _ (by simp [lt_of_get hn]) (by simp) (Fx1.put h n _)
theorem sat_setD {h : Heap} {n : Nat} {xs : List (Key × Val)} {i v : Val} {k : Key} {Q : RQ Unit} {E : RE} (hn : h[n]? = some (.dic xs)) (hj : keyV i = some k) (hl : xs.length < SL)
    (hp : ∀ h', h'[n]? = some (.dic (putK xs k v)) → h'.length = h.length → Fx1 n h h' → Q () h') : (setV (.ref n) i v h).sat Q E := by
  unfold setV
  dsimp only
  rw [hn]
  dsimp only
  rw [hj]
  dsimp only
  rw [if_pos hl]
  exact hp _ (by simp [lt_of_get hn]) (by simp) (Fx1.put h n _)
theorem sat_app {h : Heap} {n : Nat} {xs : List Val} {v : Val} {Q : RQ Val} {E : RE} (hn : h[n]? = some (.lst xs)) (hl : xs.length < SL)
    (hp : ∀ h', h'[n]? = some (.lst (xs ++ [v])) → h'.length = h.length → Fx1 n h h' → Q .non h') : (met .append (.ref n) [v] h).sat Q E := by
  unfold met
  dsimp only
  rw [hn]
  dsimp only
  rw [if_pos hl]
  exact hp _ (by simp [lt_of_get hn]) (by simp) (Fx1.put h n _)
theorem sat_clear {h : Heap} {n : Nat} {xs : List Val} {Q : RQ Val} {E : RE} (hn : h[n]? = some (.lst xs))
    (hp : ∀ h', h'[n]? = some (.lst []) → h'.length = h.length → Fx1 n h h' → Q .non h') : (met .clear (.ref n) [] h).sat Q E := by
  unfold met
  dsimp only
  rw [hn]
  exact hp _ (by simp [lt_of_get hn]) (by simp) (Fx1.put h n _)
theorem rc_clear {h : Heap} {n : Nat} {xs : List Val} (e : h[n]? = some (.lst xs)) : rcv .clear (.ref n) h = true := by
  unfold rcv lstO
  simp [e]
theorem rc_pop {h : Heap} {n : Nat} {xs : List Val} (e : h[n]? = some (.lst xs)) : rcv .pop (.ref n) h = true := by
  unfold rcv lstO
  simp [e]
def lstAt (xs : List Val) (i : Int) (h : Heap) : Res Val := match L2.atI xs i with | some v => .ok v h | none => .bad
theorem ix_lst {h : Heap} {n : Nat} {xs : List Val} (e : h[n]? = some (.lst xs)) (g : G) (i : Int) : idxV g (.ref n) (.int i) h = lstAt xs i h := by
  unfold idxV
  dsimp only
  rw [e]
  rfl
theorem ix_tup {h : Heap} {n : Nat} {xs : List Val} (e : h[n]? = some (.tup xs)) (g : G) (i : Int) : idxV g (.ref n) (.int i) h = lstAt xs i h := by
  unfold idxV
  dsimp only
  rw [e]
  rfl
theorem rc_app {h : Heap} {n : Nat} {xs : List Val} (e : h[n]? = some (.lst xs)) : rcv .append (.ref n) h = true := by
  unfold rcv lstO
  simp [e]

/-! ## loops -/
theorem loopF_inv {w : Walk} {t : Tg} {b : Sl → Heap → Res Fl} {Q : RQ Fl} {E : RE} (I : List It → Sl → Heap → Prop)
    (hw : ∀ r σ h, I r σ h → w.ok h = true)
    (step : ∀ i r σ h, I (i :: r) σ h → ∃ σ', tgV t (yieldI i h).1 σ (yieldI i h).2 = some σ' ∧ (b σ' (yieldI i h).2).sat (fun f h' => (match f with | .nx σ'' => I r σ'' h' | .rt v => Q (.rt v) h' | .ex c fs σ => Q (.ex c fs σ) h')) E)
    (done : ∀ σ h, I [] σ h → Q (.nx σ) h) : ∀ (is : List It) (σ : Sl) (h : Heap), I is σ h → (loopF w t b is σ h).sat Q E
  | [], σ, h, i => by
    unfold loopF
    rw [if_pos (hw _ _ _ i)]
    exact done _ _ i
  | x :: is, σ, h, i => by
    unfold loopF
    rw [if_pos (hw _ _ _ i)]
    obtain ⟨σ', e, s⟩ := step _ _ _ _ i
    rw [e]
    dsimp only
    rw [sat_bind]
    refine s.imp (fun f h' z => ?_) fun _ _ _ z => z
    cases f with
    | nx σ'' => exact loopF_inv I hw step done is σ'' h' z
    | rt v => exact z
    | ex c fs σ => exact z
theorem lcF_inv {w : Walk} {t : Tg} {c : Sl → Heap → Res Bool} {e : Sl → Heap → Res Val} {σ : Sl} {Q : RQ (List Val)} {E : RE} (I : List It → List Val → Heap → Prop)
    (hw : ∀ r a h, I r a h → w.ok h = true) (ha : ∀ i r a h, I (i :: r) a h → a.length < SL)
    (step : ∀ i r a h, I (i :: r) a h → ∃ σ', tgV t (yieldI i h).1 σ (yieldI i h).2 = some σ' ∧ (c σ' (yieldI i h).2).sat (fun b h1 => if b then (e σ' h1).sat (fun v h2 => I r (a ++ [v]) h2) nox else I r a h1) nox)
    (done : ∀ a h, I [] a h → Q a h) : ∀ (is : List It) (a : List Val) (h : Heap), I is a h → (lcF w t c e σ is a h).sat Q E
  | [], a, h, i => by
    unfold lcF
    rw [if_pos (hw _ _ _ i)]
    exact done _ _ i
  | x :: is, a, h, i => by
    unfold lcF
    rw [if_pos (hw _ _ _ i)]
    have hl := ha _ _ _ _ i
    obtain ⟨σ', e1, s⟩ := step _ _ _ _ i
    rw [e1]
    dsimp only
    generalize c σ' (yieldI x h).2 = rc at s
    match rc, s with
    | .ok true h1, s =>
      have s : (e σ' h1).sat (fun v h2 => I is (a ++ [v]) h2) nox := s
      dsimp only
      generalize e σ' h1 = re at s
      match re, s with
      | .ok v h2, s => dsimp only; rw [if_pos hl]; exact lcF_inv I hw ha step done is _ h2 s
    | .ok false h1, s => exact lcF_inv I hw ha step done is a h1 s
theorem loopW_inv {c : Sl → Heap → Res Bool} {b : Sl → Heap → Res Fl} {Q : RQ Fl} {E : RE} (I : Nat → Sl → Heap → Prop)
    (step : ∀ n σ h, I n σ h → (c σ h).sat (fun t h1 => if t then ∃ m, n = m + 1 ∧ (b σ h1).sat (fun f h' => (match f with | .nx σ'' => I m σ'' h' | .rt v => Q (.rt v) h' | .ex c fs σ => Q (.ex c fs σ) h')) E else Q (.nx σ) h1) (fun c fs h => Q (.ex c fs σ) h)) :
    ∀ (k n : Nat) (σ : Sl) (h : Heap), n < k → I n σ h → (loopW c b k σ h).sat Q E
  | 0, n, _, _, hk, _ => by omega
  | k + 1, n, σ, h, hk, i => by
    unfold loopW
    rw [sat_sb]
    refine (step _ _ _ i).imp (fun t h1 z => ?_) fun _ _ _ z => z
    cases t with
    | false => exact z
    | true =>
      obtain ⟨m, e, s⟩ := z
      rw [if_pos rfl, sat_bind]
      refine s.imp (fun f h' z => ?_) fun _ _ _ z => z
      cases f with
      | nx σ'' => exact loopW_inv I step k m σ'' h' (by omega) z
      | rt v => exact z
      | ex c fs σ => exact z

/-! ## texts -/
theorem len_tl (x : Str) : x.length = (TL.tl x).length := by simp [Str.length, TL.tl]
theorem len_cat (a b : Str) : (a ++ b).length = a.length + b.length := by rw [len_tl, TL.tl_append, List.length_append, ← len_tl, ← len_tl]
theorem len_cut (z : Str) (lo hi : Option Int) : (L2.cutS z lo hi).length ≤ z.length := by
  rw [len_tl, len_tl]
  show (List.take _ (List.drop _ _)).length ≤ _
  rw [List.length_take, List.length_drop]
  exact Nat.le_trans (Nat.min_le_right _ _) (Nat.sub_le _ _)
theorem joinL_nil : ∀ l : List (List Nat), TL.joinL [] l = l.flatten
  | [] => rfl
  | [p] => by simp [TL.joinL]
  | p :: q :: r => by
    show p ++ ([] ++ TL.joinL [] (q :: r)) = _
    rw [joinL_nil (q :: r)]
    simp
theorem tl_join0 {a : Str} (ha : TL.tl a = []) (ys : List Str) : TL.tl (PySem.Txt.join a ys) = (ys.map TL.tl).flatten := by
  rw [TL.join_eq, TL.tl_join, ha]
  exact joinL_nil _
theorem len_join0 {k : Nat} {a : Str} (ha : TL.tl a = []) : ∀ {ys : List Str}, (∀ y ∈ ys, y.length ≤ k) → (PySem.Txt.join a ys).length ≤ ys.length * k := by
  intro ys
  rw [len_tl, tl_join0 ha]
  induction ys with
  | nil => intro _; simp
  | cons y r ih =>
    intro h
    have h1 := ih fun z hz => h z (List.mem_cons_of_mem _ hz)
    have h2 := h y (List.mem_cons_self ..)
    rw [len_tl] at h2
    simp only [List.map_cons, List.flatten_cons, List.length_append, List.length_cons, Nat.succ_mul]
    omega
/-- its signs are signs -/
def Okt (x : Str) : Prop := ∀ c ∈ TL.tl x, c < 1114112
theorem Okt.cat {x y : Str} (a : Okt x) (b : Okt y) : Okt (x ++ y) := fun c hc => by
  rw [TL.tl_append] at hc
  rcases List.mem_append.mp hc with z | z
  · exact a c z
  · exact b c z
theorem Okt.one {c : Nat} (h : c < 1114112) : Okt ⟨#[c]⟩ := fun d hd => by
  simp [TL.tl] at hd
  subst hd
  exact h
theorem Okt.cut {z : Str} (a : Okt z) {lo hi : Option Int} : Okt (L2.cutS z lo hi) := fun c hc => a c (List.mem_of_mem_drop (List.mem_of_mem_take (show c ∈ List.take _ (List.drop _ z.cps.toList) from hc)))
theorem Okt.join0 {a : Str} (ha : TL.tl a = []) {ys : List Str} (h : ∀ y ∈ ys, Okt y) : Okt (PySem.Txt.join a ys) := fun c hc => by
  rw [tl_join0 ha] at hc
  obtain ⟨l, hl, h2⟩ := List.mem_flatten.mp hc
  obtain ⟨y, hy, rfl⟩ := List.mem_map.mp hl
  exact h y hy c h2
theorem okt_of {x : Str} (h : (x.cps.all fun c => decide (c < 1114112)) = true) : Okt x := fun c hc => by
  rw [← Array.all_toList] at h
  exact of_decide_eq_true (List.all_eq_true.mp h c hc)
@[simp] theorem len_one {c : Nat} : (⟨#[c]⟩ : Str).length = 1 := nrfl rfl
theorem sum_len {k : Nat} : ∀ {ys : List Str}, (∀ y ∈ ys, y.length ≤ k) → (ys.map (·.length)).sum ≤ ys.length * k
  | [], _ => by simp
  | y :: r, h => by
    have h1 := sum_len fun z hz => h z (List.mem_cons_of_mem _ hz)
    have h2 := h y (List.mem_cons_self ..)
    simp only [List.map_cons, List.sum_cons, List.length_cons, Nat.succ_mul]
    omega
theorem strsO_map : ∀ ys : List Str, strsO (ys.map .str) = some ys
  | [] => rfl
  | y :: r => by show (strsO (r.map .str)).map _ = _; rw [strsO_map r]; rfl
theorem blsO_map : ∀ ys : List Bool, blsO (ys.map .bl) = some ys
  | [] => rfl
  | y :: r => by show (blsO (r.map .bl)).map _ = _; rw [blsO_map r]; rfl
theorem intsO_map : ∀ ys : List Int, intsO (ys.map .int) = some ys
  | [] => rfl
  | y :: r => by show (intsO (r.map .int)).map _ = _; rw [intsO_map r]; rfl
@[simp] theorem pri_repr_bl {g : G} {b : Bool} {h : Heap} : Mi.pri g .repr [.bl b] h = .ok (.str (PyData.shown (.bool b))) h := by cases b <;> rfl
theorem pri_all {g : G} {n : Nat} {bs : List Bool} {h : Heap} (e : h[n]? = some (.lst (bs.map .bl))) : Mi.pri g .all [.ref n] h = .ok (.bl (bs.all id)) h := by
  simp [pri, lstO, e, blsO_map]
theorem pri_any {g : G} {n : Nat} {bs : List Bool} {h : Heap} (e : h[n]? = some (.lst (bs.map .bl))) : Mi.pri g .any [.ref n] h = .ok (.bl (bs.any id)) h := by
  simp [pri, lstO, e, blsO_map]
theorem pri_sum {g : G} {n : Nat} {bs : List Int} {h : Heap} (e : h[n]? = some (.lst (bs.map .int))) : Mi.pri g .sum [.ref n] h = .ok (.int bs.sum) h := by
  simp [pri, seqO, e, intsO_map]
theorem met_join {n : Nat} {a : Str} {ys : List Str} {h : Heap} (e : h[n]? = some (.lst (ys.map .str))) (hl : (ys.map (·.length)).sum + ys.length * a.length ≤ SL) : met .join (.str a) [.ref n] h = .ok (.str (PySem.Txt.join a ys)) h := by
  unfold met
  simp only [seqO, e, Option.bind_some, strsO_map]
  rw [if_pos hl]
theorem ok_lst (w : Walk) (h : Heap) {n : Nat} {o : Ob} (hw : w.stands = [(n, o)]) (e : h[n]? = some o) : w.ok h = true := by
  unfold Walk.ok
  rw [hw]
  simp [e]
theorem ok_nil (w : Walk) (h : Heap) (hw : w.stands = []) : w.ok h = true := by
  unfold Walk.ok
  rw [hw]
  rfl

/-- a comprehension that changes nothing -/
theorem lcF_pure {β : Type} {k : β → Val} {w : Walk} {t : Tg} {c : Sl → Heap → Res Bool} {e : Sl → Heap → Res Val} {σ : Sl} {h : Heap} {p : β → Bool} {f : β → Val} (hw : w.ok h = true) :
    ∀ {xs : List β} {acc : List Val}, (∀ x ∈ xs, ∃ σ', tgV t (k x) σ h = some σ' ∧ c σ' h = .ok (p x) h ∧ (p x = true → e σ' h = .ok (f x) h)) → acc.length + xs.length ≤ SL →
      lcF w t c e σ (xs.map fun x => .v (k x)) acc h = .ok (acc ++ (xs.filter p).map f) h
  | [], acc, _, _ => by
    show lcF w t c e σ [] acc h = _
    unfold lcF
    rw [if_pos hw]
    simp
  | x :: xs, acc, hs, hl => by
    show lcF w t c e σ (.v (k x) :: xs.map fun x => .v (k x)) acc h = _
    unfold lcF
    rw [if_pos hw]
    obtain ⟨σ', h1, h2, h3⟩ := hs x (List.mem_cons_self ..)
    have hs' := fun y hy => hs y (List.mem_cons_of_mem _ hy)
    simp only [List.length_cons] at hl
    rw [show (yieldI (.v (k x)) h).1 = k x from rfl, show (yieldI (.v (k x)) h).2 = h from rfl, h1]
    dsimp only
    rw [h2]
    cases hp : p x with
    | false =>
      dsimp only
      rw [lcF_pure hw hs' (by omega), List.filter_cons_of_neg (by simp [hp])]
    | true =>
      dsimp only
      rw [h3 hp]
      dsimp only
      rw [if_pos (by omega), lcF_pure hw hs' (by simp only [List.length_append, List.length_singleton]; omega), List.filter_cons_of_pos hp]
      simp
theorem lcF_map {β : Type} {k : β → Val} {w : Walk} {t : Tg} {c : Sl → Heap → Res Bool} {e : Sl → Heap → Res Val} {σ : Sl} {h : Heap} {f : β → Val} (hw : w.ok h = true)
    {xs : List β} {acc : List Val} (hs : ∀ x ∈ xs, ∃ σ', tgV t (k x) σ h = some σ' ∧ c σ' h = .ok true h ∧ e σ' h = .ok (f x) h) (hl : acc.length + xs.length ≤ SL) :
      lcF w t c e σ (xs.map fun x => .v (k x)) acc h = .ok (acc ++ xs.map f) h := by
  rw [lcF_pure (p := fun _ => true) hw (fun x hx => by obtain ⟨σ', h1, h2, h3⟩ := hs x hx; exact ⟨σ', h1, h2, fun _ => h3⟩) hl, List.filter_eq_self.mpr fun _ _ => rfl]
theorem filt_all {β : Type} (q : β → Bool) : ∀ l : List β, (l.filter fun c => !q c).isEmpty = l.all q
  | [] => rfl
  | x :: r => by
    cases hq : q x <;> simp [hq, filt_all q r]
@[simp] theorem sat_rng1 {j : Int} {h : Heap} {Q : RQ Walk} {E : RE} : (srcR .rng1 [.int j] h).sat Q E = ((-4611686018427387904 ≤ j ∧ j < 4611686018427387904) ∧ Q ⟨intItems 0 j.toNat, []⟩ h) := by
  unfold srcR srcV
  by_cases c : -4611686018427387904 ≤ j ∧ j < 4611686018427387904
  · simp only [show (-(2 ^ 62) ≤ j ∧ j < 2 ^ 62) = (-4611686018427387904 ≤ j ∧ j < 4611686018427387904) from rfl, if_pos c, c, true_and, sat_ok, and_self, if_true]
  · simp only [show (-(2 ^ 62) ≤ j ∧ j < 2 ^ 62) = (-4611686018427387904 ≤ j ∧ j < 4611686018427387904) from rfl, if_neg c, c, false_and, sat_bad, if_false]
@[simp] theorem sat_rng2 {i j : Int} {h : Heap} {Q : RQ Walk} {E : RE} : (srcR .rng2 [.int i, .int j] h).sat Q E = ((-4611686018427387904 ≤ i ∧ i < 4611686018427387904 ∧ -4611686018427387904 ≤ j ∧ j < 4611686018427387904) ∧ Q ⟨intItems i (j - i).toNat, []⟩ h) := by
  unfold srcR srcV
  by_cases c : -4611686018427387904 ≤ i ∧ i < 4611686018427387904 ∧ -4611686018427387904 ≤ j ∧ j < 4611686018427387904
  · simp only [show (-(2 ^ 62) ≤ i ∧ i < 2 ^ 62 ∧ -(2 ^ 62) ≤ j ∧ j < 2 ^ 62) = (-4611686018427387904 ≤ i ∧ i < 4611686018427387904 ∧ -4611686018427387904 ≤ j ∧ j < 4611686018427387904) from rfl, if_pos c, c, true_and, sat_ok, and_self, if_true]
  · simp only [show (-(2 ^ 62) ≤ i ∧ i < 2 ^ 62 ∧ -(2 ^ 62) ≤ j ∧ j < 2 ^ 62) = (-4611686018427387904 ≤ i ∧ i < 4611686018427387904 ∧ -4611686018427387904 ≤ j ∧ j < 4611686018427387904) from rfl, if_neg c, c, false_and, sat_bad, if_false]
theorem srcR_lst {n : Nat} {xs : List Val} {h : Heap} (e : h[n]? = some (.lst xs)) : srcR .val [.ref n] h = .ok ⟨xs.map .v, [(n, .lst xs)]⟩ h := by
  unfold srcR srcV walkV
  simp [e]
theorem srcR_tup {n : Nat} {xs : List Val} {h : Heap} (e : h[n]? = some (.tup xs)) : srcR .val [.ref n] h = .ok ⟨xs.map .v, [(n, .tup xs)]⟩ h := by
  unfold srcR srcV walkV
  simp [e]
@[simp] theorem srcR_str {z : Str} {h : Heap} : srcR .val [.str z] h = .ok ⟨z.cps.toList.map fun c => .v (.str ⟨#[c]⟩), []⟩ h := nrfl rfl
@[simp] theorem yield_v {x : Val} {h : Heap} : yieldI (.v x) h = (x, h) := nrfl rfl
@[simp] theorem yield_tr {x y z : Val} {h : Heap} : yieldI (.tr x y z) h = (.ref h.length, h ++ [.tup [x, y, z]]) := nrfl rfl
@[simp] theorem yield_pr {x y : Val} {h : Heap} : yieldI (.pr x y) h = (.ref h.length, h ++ [.tup [x, y]]) := nrfl rfl
/-- a loop over numbers -/
theorem loopF_rng {w : Walk} {t : Tg} {b : Sl → Heap → Res Fl} {Q : RQ Fl} {E : RE} {lo : Int} {N : Nat} (I : Nat → Sl → Heap → Prop) (hw : w.stands = [])
    (step : ∀ k σ h, k < N → I k σ h → ∃ σ', tgV t (.int (lo + k)) σ h = some σ' ∧ (b σ' h).sat (fun f h' => (match f with | .nx σ'' => I (k + 1) σ'' h' | .rt v => Q (.rt v) h' | .ex c fs σ => Q (.ex c fs σ) h')) E)
    (done : ∀ σ h, I N σ h → Q (.nx σ) h) {σ : Sl} {h : Heap} (start : I 0 σ h) : (loopF w t b (intItems lo N) σ h).sat Q E := by
  refine loopF_inv (fun r σ h => ∃ k, k ≤ N ∧ r = intItems (lo + k) (N - k) ∧ I k σ h) (fun _ _ h _ => ok_nil w h hw) ?_ ?_ _ _ _ ⟨0, by omega, by simp, start⟩
  · rintro i r σ h ⟨k, hk, er, hi⟩
    obtain ⟨m, hm⟩ | hm : (∃ m, N - k = m + 1) ∨ N - k = 0 := by
      rcases Nat.eq_zero_or_pos (N - k) with z | z
      · exact .inr z
      · exact .inl ⟨N - k - 1, by omega⟩
    · rw [hm] at er
      unfold intItems at er
      cases er
      obtain ⟨σ', h1, h2⟩ := step k σ h (by omega) hi
      refine ⟨σ', h1, h2.imp (fun f h' z => ?_) fun _ _ _ z => z⟩
      cases f with
      | nx σ'' => exact ⟨k + 1, by omega, by rw [show N - (k + 1) = m by omega]; congr 1; omega, z⟩
      | rt v => exact z
      | ex c fs σ => exact z
    · rw [hm] at er
      unfold intItems at er
      cases er
  · rintro σ h ⟨k, hk, er, hi⟩
    obtain rfl : k = N := by
      rcases Nat.eq_zero_or_pos (N - k) with z | z
      · omega
      · rw [show N - k = (N - k - 1) + 1 by omega] at er
        unfold intItems at er
        cases er
    exact done σ h hi
theorem lcF_rng {w : Walk} {t : Tg} {c : Sl → Heap → Res Bool} {e : Sl → Heap → Res Val} {σ : Sl} {Q : RQ (List Val)} {E : RE} {lo : Int} {N : Nat} (I : Nat → List Val → Heap → Prop) (hw : w.stands = [])
    (ha : ∀ k a h, k < N → I k a h → a.length < SL)
    (step : ∀ k a h, k < N → I k a h → ∃ σ', tgV t (.int (lo + k)) σ h = some σ' ∧ (c σ' h).sat (fun b h1 => if b then (e σ' h1).sat (fun v h2 => I (k + 1) (a ++ [v]) h2) nox else I (k + 1) a h1) nox)
    (done : ∀ a h, I N a h → Q a h) {h : Heap} (start : I 0 [] h) : (lcF w t c e σ (intItems lo N) [] h).sat Q E := by
  refine lcF_inv (fun r a h => ∃ k, k ≤ N ∧ r = intItems (lo + k) (N - k) ∧ I k a h) (fun _ _ h _ => ok_nil w h hw) ?_ ?_ ?_ _ _ _ ⟨0, by omega, by simp, start⟩
  · rintro i r a h ⟨k, hk, er, hi⟩
    refine ha k a h ?_ hi
    rcases Nat.lt_or_ge k N with z | z
    · exact z
    · rw [show N - k = 0 by omega] at er
      unfold intItems at er
      cases er
  · rintro i r a h ⟨k, hk, er, hi⟩
    obtain ⟨m, hm⟩ | hm : (∃ m, N - k = m + 1) ∨ N - k = 0 := by
      rcases Nat.eq_zero_or_pos (N - k) with z | z
      · exact .inr z
      · exact .inl ⟨N - k - 1, by omega⟩
    · rw [hm] at er
      unfold intItems at er
      cases er
      obtain ⟨σ', h1, h2⟩ := step k a h (by omega) hi
      have nx : ∀ a h, I (k + 1) a h → ∃ k', k' ≤ N ∧ intItems (lo + k + 1) m = intItems (lo + k') (N - k') ∧ I k' a h := fun a h z => ⟨k + 1, by omega, by rw [show N - (k + 1) = m by omega]; congr 1; omega, z⟩
      refine ⟨σ', h1, h2.imp (fun b h' z => ?_) fun _ _ _ z => z⟩
      cases b with
      | false => exact nx _ _ z
      | true => exact Res.sat.imp z (fun v h2 y => nx _ _ y) fun _ _ _ z => z
    · rw [hm] at er
      unfold intItems at er
      cases er
  · rintro a h ⟨k, hk, er, hi⟩
    obtain rfl : k = N := by
      rcases Nat.eq_zero_or_pos (N - k) with z | z
      · omega
      · rw [show N - k = (N - k - 1) + 1 by omega] at er
        unfold intItems at er
        cases er
    exact done a h hi
/-- a loop over values, each made of something -/
theorem loopF_each {β : Type} {k : β → Val} {w : Walk} {t : Tg} {b : Sl → Heap → Res Fl} {Q : RQ Fl} {E : RE} (I : List β → Sl → Heap → Prop) (hw : ∀ r σ h, I r σ h → w.ok h = true)
    (step : ∀ x r σ h, I (x :: r) σ h → ∃ σ', tgV t (k x) σ h = some σ' ∧ (b σ' h).sat (fun f h' => (match f with | .nx σ'' => I r σ'' h' | .rt v => Q (.rt v) h' | .ex c fs σ => Q (.ex c fs σ) h')) E)
    (done : ∀ σ h, I [] σ h → Q (.nx σ) h) {xs : List β} {σ : Sl} {h : Heap} (start : I xs σ h) : (loopF w t b (xs.map fun x => .v (k x)) σ h).sat Q E := by
  refine loopF_inv (fun r σ h => ∃ ys : List β, r = ys.map (fun x => It.v (k x)) ∧ I ys σ h) (fun _ _ h z => by obtain ⟨ys, _, z⟩ := z; exact hw _ _ _ z) ?_ ?_ _ _ _ ⟨xs, rfl, start⟩
  · rintro i r σ h ⟨ys, er, hi⟩
    cases ys with
    | nil => cases er
    | cons x ys =>
      cases er
      obtain ⟨σ', h1, h2⟩ := step x ys σ h hi
      refine ⟨σ', h1, h2.imp (fun f h' z => ?_) fun _ _ _ z => z⟩
      cases f with
      | nx σ'' => exact ⟨ys, rfl, z⟩
      | rt v => exact z
      | ex c fs σ => exact z
  · rintro σ h ⟨ys, er, hi⟩
    cases ys with
    | nil => exact done σ h hi
    | cons x ys => cases er
/-- a loop over values -/
theorem loopF_vals {w : Walk} {t : Tg} {b : Sl → Heap → Res Fl} {Q : RQ Fl} {E : RE} (I : List Val → Sl → Heap → Prop) (hw : ∀ r σ h, I r σ h → w.ok h = true)
    (step : ∀ x r σ h, I (x :: r) σ h → ∃ σ', tgV t x σ h = some σ' ∧ (b σ' h).sat (fun f h' => (match f with | .nx σ'' => I r σ'' h' | .rt v => Q (.rt v) h' | .ex c fs σ => Q (.ex c fs σ) h')) E)
    (done : ∀ σ h, I [] σ h → Q (.nx σ) h) {xs : List Val} {σ : Sl} {h : Heap} (start : I xs σ h) : (loopF w t b (xs.map .v) σ h).sat Q E := by
  refine loopF_inv (fun r σ h => ∃ ys, r = ys.map .v ∧ I ys σ h) (fun _ _ h z => by obtain ⟨ys, _, z⟩ := z; exact hw _ _ _ z) ?_ ?_ _ _ _ ⟨xs, rfl, start⟩
  · rintro i r σ h ⟨ys, er, hi⟩
    cases ys with
    | nil => cases er
    | cons x ys =>
      cases er
      obtain ⟨σ', h1, h2⟩ := step x ys σ h hi
      refine ⟨σ', h1, h2.imp (fun f h' z => ?_) fun _ _ _ z => z⟩
      cases f with
      | nx σ'' => exact ⟨ys, rfl, z⟩
      | rt v => exact z
      | ex c fs σ => exact z
  · rintro σ h ⟨ys, er, hi⟩
    cases ys with
    | nil => exact done σ h hi
    | cons x ys => cases er
/-- a list of texts, read -/
theorem mapO_str (n : Nat) (h : Heap) : ∀ ys : List Str, mapO (rd n h) (ys.map .str) = some (ys.map PyData.str)
  | [] => rfl
  | y :: r => by
    rw [List.map_cons, mapO, mapO_str n h r]
    cases n <;> simp [rd]
theorem lay_strs : ∀ {ys : List Str}, (∀ y ∈ ys, Okt y) → PyData.canLayAll0 (ys.map PyData.str) = true
  | [], _ => rfl
  | y :: r, hy => by
    show (PyData.canLay0 (.str y) && PyData.canLayAll0 (r.map PyData.str)) = true
    rw [lay_strs fun z hz => hy z (List.mem_cons_of_mem _ hz), Bool.and_true]
    show PyData.strOk y = true
    unfold PyData.strOk
    rw [← Array.all_toList, List.all_eq_true]
    exact fun c hc => decide_eq_true (hy y (List.mem_cons_self ..) c hc)
theorem depth_strs : ∀ ys : List Str, PyData.depthAll (ys.map PyData.str) = 0
  | [] => rfl
  | y :: r => by
    show max (PyData.depth (.str y)) (PyData.depthAll (r.map PyData.str)) = 0
    rw [depth_strs r]
    rfl
/-- a list of texts against [] -/
theorem eq_none {h : Heap} {p q : Nat} {ys : List Str} (e1 : h[p]? = some (.lst (ys.map .str))) (e2 : h[q]? = some (.lst [])) (hy : ∀ y ∈ ys, Okt y) : bop .eq (.ref p) (.ref q) h = .ok (.bl ys.isEmpty) h := by
  show ofB (eqO h (.ref p) (.ref q)) h = _
  have h1 : rd 60 h (.ref p) = some (.list (ys.map PyData.str)) := by
    unfold rd
    rw [e1]
    dsimp only
    rw [mapO_str]
    rfl
  have h2 : rd 60 h (.ref q) = some (.list []) := by
    unfold rd
    rw [e2]
    rfl
  unfold eqO
  rw [h1, h2]
  dsimp only
  rw [if_pos]
  · cases ys <;> rfl
  · refine ⟨?_, by decide⟩
    unfold PySem.SeqAt.shaped
    rw [show PyData.canLay0 (.list (ys.map PyData.str)) = true from lay_strs hy, show PyData.depth (.list (ys.map PyData.str)) = 1 by (show PyData.depthAll _ + 1 = 1; rw [depth_strs])]
    decide

/-! ## the numbers that the script gives -/
def cellB (p q : Int) : Sts := .cons (.ite (.bin .lt (.var 1) (.pri .len (.cons (.var 0) (.nil)))) (.cons (.ret (.idx (.var 0) (.var 1))) (.nil)) (.nil)) (.cons (.ret (.bin .add (.bin .mul (.cst (.int p)) (.var 1)) (.cst (.int q)))) (.nil))
def boxB : Sts := .cons (.ret (.lst (.cons (.pri .max (.cons (.cst (.int 0)) (.cons (.bin .sub (.var 0) (.bin .pow (.cst (.int 10)) (.cst (.int 18)))) (.nil)))) (.cons (.bin .mod (.var 0) (.cst (.int 2147483629))) (.cons (.cst (.int 0)) (.nil)))))) (.nil)
def takeB (p q r : Int) : Sts := .cons (.ite (.bin .gt (.idx (.var 0) (.cst (.int 0))) (.cst (.int 0))) (.cons (.asg (.nm 2) (.bin .mod (.idx (.var 0) (.cst (.int 0))) (.var 1))) (.cons (.sti (.var 0) (.cst (.int 0)) (.bin .fdiv (.idx (.var 0) (.cst (.int 0))) (.var 1))) (.cons (.ret (.var 2)) (.nil)))) (.nil)) (.cons (.sti (.var 0) (.cst (.int 2)) (.bin .add (.idx (.var 0) (.cst (.int 2))) (.cst (.int 1)))) (.cons (.asg (.nm 3) (.bin .mod (.bin .pow (.bin .add (.bin .add (.idx (.var 0) (.cst (.int 1))) (.bin .mul (.cst (.int p)) (.idx (.var 0) (.cst (.int 2))))) (.cst (.int q))) (.cst (.int 5))) (.cst (.int 2147483647)))) (.cons (.asg (.nm 3) (.bin .mod (.bin .pow (.bin .add (.var 3) (.bin .mul (.cst (.int r)) (.idx (.var 0) (.cst (.int 2))))) (.cst (.int 3))) (.cst (.int 2147483587)))) (.cons (.ret (.bin .mod (.bin .fdiv (.var 3) (.cst (.int 16))) (.var 1))) (.nil)))))
/-- n is a box, after at most c takes -/
def Bx (n : Nat) (c : Nat) (h : Heap) : Prop := ∃ x y z : Int, h[n]? = some (.lst [.int x, .int y, .int z]) ∧ 0 ≤ x ∧ 0 ≤ y ∧ y < 2147483629 ∧ 0 ≤ z ∧ z ≤ c
theorem Bx.lt {n c : Nat} {h : Heap} (b : Bx n c h) : n < h.length := by obtain ⟨x, y, z, e, _⟩ := b; exact lt_of_get e
theorem Bx.fr {n c : Nat} {h h' : Heap} (b : Bx n c h) (f : Fr h h') : Bx n c h' := by obtain ⟨x, y, z, e, r⟩ := b; exact ⟨x, y, z, f.at e, r⟩
theorem Bx.up {n c d : Nat} {h : Heap} (b : Bx n c h) (l : c ≤ d) : Bx n d h := by obtain ⟨x, y, z, e, r⟩ := b; exact ⟨x, y, z, e, r.1, r.2.1, r.2.2.1, r.2.2.2.1, by omega⟩
theorem atI_of {α : Type} {xs : List α} {k : Int} (h0 : 0 ≤ k) (h1 : k < xs.length) : ∃ x, L2.atI xs k = some x ∧ x ∈ xs ∧ xs[k.toNat]? = some x := by
  have hn : k.toNat < xs.length := by omega
  refine ⟨xs[k.toNat], ?_, List.getElem_mem _, by simp [hn]⟩
  unfold L2.atI L2.ixN
  rw [if_pos h0, if_pos h1]
  simp [hn]
theorem sat_at {xs : List Val} {k : Int} {h : Heap} {Q : RQ Val} {E : RE} (h0 : 0 ≤ k) (h1 : k < xs.length) (hq : ∀ v ∈ xs, xs[k.toNat]? = some v → Q v h) : (lstAt xs k h).sat Q E := by
  obtain ⟨x, e, m, e2⟩ := atI_of h0 h1
  unfold lstAt
  rw [e]
  exact hq x m e2
theorem sat_atL {g : G} {n : Nat} {xs : List Val} {k : Int} {h : Heap} {Q : RQ Val} {E : RE} (e : h[n]? = some (.lst xs)) (h0 : 0 ≤ k) (h1 : k < xs.length) (hq : ∀ v ∈ xs, xs[k.toNat]? = some v → Q v h) : (idxV g (.ref n) (.int k) h).sat Q E := by
  rw [ix_lst e]
  exact sat_at h0 h1 hq
theorem sat_atT {g : G} {n : Nat} {xs : List Val} {k : Int} {h : Heap} {Q : RQ Val} {E : RE} (e : h[n]? = some (.tup xs)) (h0 : 0 ≤ k) (h1 : k < xs.length) (hq : ∀ v ∈ xs, xs[k.toNat]? = some v → Q v h) : (idxV g (.ref n) (.int k) h).sat Q E := by
  rw [ix_tup e]
  exact sat_at h0 h1 hq
theorem sat_atS {g : G} {z : Str} {k : Int} {h : Heap} {Q : RQ Val} {E : RE} (hz : z.length ≤ SL) (h0 : 0 ≤ k) (h1 : k < z.length) (hq : ∀ c ∈ z.cps.toList, z.cps.toList[k.toNat]? = some c → Q (.str ⟨#[c]⟩) h) : (idxV g (.str z) (.int k) h).sat Q E := by
  obtain ⟨x, e, m, e2⟩ := atI_of (xs := z.cps.toList) h0 (by simpa [Str.length] using h1)
  unfold idxV
  dsimp only
  rw [if_pos hz, e]
  exact hq x m e2
def isI : Val → Bool
  | .int _ => true
  | _ => false
def isS : Val → Bool
  | .str _ => true
  | _ => false
theorem sat_atI {g : G} {n : Nat} {xs : List Val} {k : Int} {h : Heap} {Q : RQ Val} {E : RE} (e : h[n]? = some (.lst xs)) (h0 : 0 ≤ k) (h1 : k < xs.length) (hi : xs.all isI = true) (hq : ∀ i : Int, Val.int i ∈ xs → Q (.int i) h) : (idxV g (.ref n) (.int k) h).sat Q E := by
  refine sat_atL e h0 h1 fun v hv _ => ?_
  have := List.all_eq_true.mp hi v hv
  cases v <;> first | exact hq _ hv | cases this
theorem sat_atSt {g : G} {n : Nat} {xs : List Val} {k : Int} {h : Heap} {Q : RQ Val} {E : RE} (e : h[n]? = some (.lst xs)) (h0 : 0 ≤ k) (h1 : k < xs.length) (hi : xs.all isS = true) (hq : ∀ i : Str, Val.str i ∈ xs → Q (.str i) h) : (idxV g (.ref n) (.int k) h).sat Q E := by
  refine sat_atL e h0 h1 fun v hv _ => ?_
  have := List.all_eq_true.mp hi v hv
  cases v <;> first | exact hq _ hv | cases this
theorem Fx1.fr {n : Nat} {h h' h'' : Heap} (a : Fx1 n h h') (b : Fr h' h'') : Fx1 n h h'' := a.trans (b.one n)
theorem Fr.fx {n : Nat} {h h' h'' : Heap} (a : Fr h h') (b : Fx1 n h' h'') : Fx1 n h h'' := (a.one n).trans b
theorem ok_cell {p q : Int} {g : G} {k : Int} {h : Heap} {d : Def} {Q : RQ Val} {E : RE} (hb : d.body = cellB p q) (hp : d.params = 2) (hs : d.slots = 2) (hq : -1000000 < p ∧ p < 1000000) (h0 : 0 ≤ k) (h1 : k < 1000) (Z : ∀ c : Int, Q (.int c) h) :
    (runDef g d [.scr, .int k] h).sat Q E := by
  unfold runDef startV cellB at *
  rw [hb, hp, hs]
  simp
  refine sat_ite (fun c => ?_) fun c => ?_
  · obtain ⟨x, e, _⟩ := atI_of (xs := g.scr) h0 (by simpa using c)
    simp [idxV, e]
    exact Z _
  · simp
    exact ⟨by omega, Z _⟩
theorem ok_box {g : G} {c : Int} {h : Heap} {d : Def} {Q : RQ Val} {E : RE} (hb : d.body = boxB) (hp : d.params = 1) (hs : d.slots = 1) (Z : ∀ (n : Nat) (h' : Heap), n = h.length → Bx n 0 h' → Fr h h' → h'.length = h.length + 1 → Q (.ref n) h') :
    (runDef g d [.int c] h).sat Q E := by
  unfold runDef startV boxB at *
  rw [hb, hp, hs]
  simp
  refine sat_new fun n h' e l e2 f => Z n h' l ⟨_, _, _, e, ?_⟩ f e2
  omega
theorem ok_take {p q r : Int} {g : G} {n c : Nat} {m : Int} {h : Heap} {d : Def} {Q : RQ Val} {E : RE} (hb : d.body = takeB p q r) (hp : d.params = 2) (hs : d.slots = 4) (hpq : 0 ≤ p ∧ p < 100000 ∧ 0 ≤ q ∧ q < 1000 ∧ 0 ≤ r ∧ r < 100000000) (B : Bx n c h) (hc : c < 100000000) (hm : 0 < m ∧ m < 1073741824)
    (Z : ∀ (x : Int) (h' : Heap), 0 ≤ x → x < m → Bx n (c + 1) h' → Fx1 n h h' → h'.length = h.length → Q (.int x) h') :
    (runDef g d [.ref n, .int m] h).sat Q E := by
  obtain ⟨x, y, z, e, hx, hy0, hy, hz0, hz⟩ := B
  unfold runDef startV takeB at *
  rw [hb, hp, hs]
  simp [ix_lst e, lstAt, L2.atI, L2.ixN]
  refine sat_ite (fun c => ?_) fun c => ?_
  · simp [ix_lst e, lstAt, L2.atI, L2.ixN, hm]
    refine sat_set e rfl fun h' e' l' f => ?_
    try simp at e'
    try simp
    exact Z _ _ (Int.emod_nonneg _ (by omega)) (Int.emod_lt_of_pos _ hm.1) ⟨_, _, _, e', Int.ediv_nonneg hx (by omega), hy0, hy, hz0, by omega⟩ f l'
  · simp [ix_lst e, lstAt, L2.atI, L2.ixN, hm]
    refine sat_set e rfl fun h' e' l' f => ?_
    try simp at e'
    simp [ix_lst e', lstAt, L2.atI, L2.ixN, hm]
    have h1 : 0 ≤ p * (z + 1) := Int.mul_nonneg hpq.1 (by omega)
    have h2 : p * (z + 1) ≤ 100000 * 100000001 := Int.mul_le_mul (by omega) (by omega) (by omega) (by omega)
    have h3 : 0 ≤ r * (z + 1) := Int.mul_nonneg hpq.2.2.2.2.1 (by omega)
    have h4 : r * (z + 1) ≤ 100000000 * 100000001 := Int.mul_le_mul (by omega) (by omega) (by omega) (by omega)
    generalize p * (z + 1) = u at *
    generalize r * (z + 1) = v at *
    have h5 : 0 ≤ (y + u + q) ^ 5 % 2147483647 := Int.emod_nonneg _ (by omega)
    have h6 : (y + u + q) ^ 5 % 2147483647 < 2147483647 := Int.emod_lt_of_pos _ (by omega)
    generalize (y + u + q) ^ 5 % 2147483647 = s at *
    refine ⟨by omega, by omega, by omega, by omega, ?_⟩
    exact Z _ _ (Int.emod_nonneg _ (by omega)) (Int.emod_lt_of_pos _ hm.1) ⟨_, _, _, e', hx, hy0, hy, by omega, by omega⟩ f l'
theorem law_of {r : Res Val} (s : r.sat (fun v _ => v = .bl true) nox) : ∃ h', r = .ok (.bl true) h' := by
  cases r with
  | ok v h => cases (show v = .bl true from s); exact ⟨h, rfl⟩
  | exc => exact s.elim
  | bad => exact s.elim
theorem mul_lst {m : Nat} {xs : List Val} {h : Heap} {k : Int} (e : h[m]? = some (.lst xs)) : bop .mul (.ref m) (.int k) h = if -9223372036854775808 ≤ k ∧ k < 9223372036854775808 ∧ xs.length * k.toNat ≤ SL then new (.lst (List.replicate k.toNat xs).flatten) h else .bad := by
  show mulV (.ref m) (.int k) h = _
  unfold mulV
  simp [e]
theorem add_lst {m n : Nat} {xs ys : List Val} {h : Heap} (e : h[m]? = some (.lst xs)) (e2 : h[n]? = some (.lst ys)) : bop .add (.ref m) (.ref n) h = if xs.length + ys.length ≤ SL then new (.lst (xs ++ ys)) h else .bad := by
  show addV (.ref m) (.ref n) h = _
  unfold addV
  simp [e, e2]
@[simp] theorem mul_str {a : Str} {k : Int} {h : Heap} : bop .mul (.str a) (.int k) h = if -9223372036854775808 ≤ k ∧ k < 9223372036854775808 ∧ a.length * k.toNat ≤ SL then .ok (.str (repS a k)) h else .bad := nrfl rfl
theorem repS_len (a : Str) (k : Int) : (repS a k).length = k.toNat * a.length := by simp [repS, Str.length]
theorem tg_pair {i j p : Nat} {x y : Val} {σ : Sl} {h : Heap} (e : h[p]? = some (.tup [x, y])) : tgV (.tp [i, j]) (.ref p) σ h = some ((σ.set i (some x)).set j (some y)) := by
  unfold tgV
  simp [e, setAll]
theorem tg_three {i j k p : Nat} {x y z : Val} {σ : Sl} {h : Heap} (e : h[p]? = some (.tup [x, y, z])) : tgV (.tp [i, j, k]) (.ref p) σ h = some (((σ.set i (some x)).set j (some y)).set k (some z)) := by
  unfold tgV
  simp [e, setAll]
theorem set_two {i j p : Nat} {x y : Val} {σ : Sl} {h : Heap} (e : h[p]? = some (.tup [x, y])) : setT (.tp [i, j]) (.ref p) σ h = .ok (.nx ((σ.set i (some x)).set j (some y))) h := by
  unfold setT tgV
  simp [e, setAll]
theorem set_twoL {i j p : Nat} {x y : Val} {σ : Sl} {h : Heap} (e : h[p]? = some (.lst [x, y])) : setT (.tp [i, j]) (.ref p) σ h = .ok (.nx ((σ.set i (some x)).set j (some y))) h := by
  unfold setT tgV
  simp [e, setAll]
theorem set_three {i j k p : Nat} {x y z : Val} {σ : Sl} {h : Heap} (e : h[p]? = some (.tup [x, y, z])) : setT (.tp [i, j, k]) (.ref p) σ h = .ok (.nx (((σ.set i (some x)).set j (some y)).set k (some z))) h := by
  unfold setT tgV
  simp [e, setAll]
theorem set_threeL {i j k p : Nat} {x y z : Val} {σ : Sl} {h : Heap} (e : h[p]? = some (.lst [x, y, z])) : setT (.tp [i, j, k]) (.ref p) σ h = .ok (.nx (((σ.set i (some x)).set j (some y)).set k (some z))) h := by
  unfold setT tgV
  simp [e, setAll]
theorem set_four {i j k l p : Nat} {x y z u : Val} {σ : Sl} {h : Heap} (e : h[p]? = some (.tup [x, y, z, u])) : setT (.tp [i, j, k, l]) (.ref p) σ h = .ok (.nx ((((σ.set i (some x)).set j (some y)).set k (some z)).set l (some u))) h := by
  unfold setT tgV
  simp [e, setAll]
theorem set_fourL {i j k l p : Nat} {x y z u : Val} {σ : Sl} {h : Heap} (e : h[p]? = some (.lst [x, y, z, u])) : setT (.tp [i, j, k, l]) (.ref p) σ h = .ok (.nx ((((σ.set i (some x)).set j (some y)).set k (some z)).set l (some u))) h := by
  unfold setT tgV
  simp [e, setAll]
@[simp] theorem bop_isnot_bl {a b : Bool} {h : Heap} : bop .isnot (.bl a) (.bl b) h = .ok (.bl (!decide (a = b))) h := nrfl rfl
@[simp] theorem bop_is_bl {a b : Bool} {h : Heap} : bop .is (.bl a) (.bl b) h = .ok (.bl (decide (a = b))) h := nrfl rfl
theorem rc_ext {h : Heap} {n : Nat} {xs : List Val} (e : h[n]? = some (.lst xs)) : rcv .extend (.ref n) h = true := by
  unfold rcv lstO
  simp [e]
theorem sat_ext {h : Heap} {n m : Nat} {xs ys : List Val} {Q : RQ Val} {E : RE} (hn : h[n]? = some (.lst xs)) (hm : h[m]? = some (.lst ys)) (hl : xs.length + ys.length ≤ SL)
    (hp : ∀ h', h'[n]? = some (.lst (xs ++ ys)) → h'.length = h.length → Fx1 n h h' → Q .non h') : (met .extend (.ref n) [.ref m] h).sat Q E := by
  unfold met
  dsimp only
  rw [hn, hm]
  dsimp only
  rw [if_pos hl]
  exact hp _ (by simp [lt_of_get hn]) (by simp) (Fx1.put h n _)
theorem rc_ins {h : Heap} {n : Nat} {xs : List Val} (e : h[n]? = some (.lst xs)) : rcv .insert (.ref n) h = true := by
  unfold rcv lstO
  simp [e]
theorem rep_one {α : Type} (x : α) : ∀ k : Nat, (List.replicate k [x]).flatten = List.replicate k x
  | 0 => rfl
  | k + 1 => by rw [List.replicate_succ, List.flatten_cons, rep_one x k]; rfl
theorem mul_tup {m : Nat} {xs : List Val} {h : Heap} {k : Int} (e : h[m]? = some (.tup xs)) : bop .mul (.ref m) (.int k) h = if xs ≠ [] ∧ 2 ≤ k ∧ k ≤ 1000 ∧ xs.length ≤ 1000 then new (.tup (List.replicate k.toNat xs).flatten) h else .bad := by
  show mulV (.ref m) (.int k) h = _
  unfold mulV
  simp [e]
end Mi


/-! # Mi10: data in a heap (trees), what stands though some addresses change -/
namespace Mi
open PySem (Str PyData)

/-- outside X nothing that was there changes -/
structure Fo (X : List Nat) (h h' : Heap) : Prop where
  len : h.length ≤ h'.length
  get : ∀ m : Nat, m < h.length → m ∉ X → h'[m]? = h[m]?
theorem Fo.refl (X : List Nat) (h : Heap) : Fo X h h := ⟨Nat.le_refl _, fun _ _ _ => rfl⟩
theorem Fo.trans {X : List Nat} {h h' h'' : Heap} (a : Fo X h h') (b : Fo X h' h'') : Fo X h h'' := ⟨Nat.le_trans a.len b.len, fun m hm z => (b.get m (Nat.lt_of_lt_of_le hm a.len) z).trans (a.get m hm z)⟩
theorem Fo.of {X : List Nat} {h h' : Heap} (a : Fr h h') : Fo X h h' := ⟨a.len, fun m hm _ => a.get m hm⟩
theorem Fo.one {n : Nat} {X : List Nat} {h h' : Heap} (a : Fx1 n h h') (hn : n ∈ X) : Fo X h h' := ⟨a.len, fun m hm z => a.get m hm fun e => z (e ▸ hn)⟩
theorem Fo.sub {X Y : List Nat} {h h' : Heap} (a : Fo X h h') (s : ∀ n ∈ X, n ∈ Y) : Fo Y h h' := ⟨a.len, fun m hm z => a.get m hm fun e => z (s m e)⟩
theorem Fo.fr {h h' : Heap} (a : Fo [] h h') : Fr h h' := ⟨a.len, fun m hm => a.get m hm (by simp)⟩
theorem Fo.fx {n : Nat} {h h' : Heap} (a : Fo [n] h h') : Fx1 n h h' := ⟨a.len, fun m hm z => a.get m hm (by simpa using z)⟩
/-- what is not yet there may change -/
theorem Fo.drop {n : Nat} {X : List Nat} {h h' : Heap} (a : Fo (n :: X) h h') (hn : h.length ≤ n) : Fo X h h' := ⟨a.len, fun m hm z => a.get m hm fun e => by
  rcases List.mem_cons.mp e with rfl | e
  · omega
  · exact z e⟩
theorem Fo.at {X : List Nat} {h h' : Heap} (a : Fo X h h') {n : Nat} {o : Ob} (e : h[n]? = some o) (hn : n ∉ X) : h'[n]? = some o := (a.get n (lt_of_get e) hn).trans e

mutual
/-- the value v is the data d; nothing in X is read -/
def Is (X : List Nat) (h : Heap) : PyData → Val → Prop
  | .none, v => v = .non
  | .bool b, v => v = .bl b
  | .int i, v => v = .int i
  | .str x, v => v = .str x
  | .list ds, v => ∃ p xs, v = .ref p ∧ p ∉ X ∧ h[p]? = some (.lst xs) ∧ IsAll X h ds xs
  | .tuple ds, v => ∃ p xs, v = .ref p ∧ p ∉ X ∧ h[p]? = some (.tup xs) ∧ IsAll X h ds xs
  | .dict kvs, v => ∃ p xs, v = .ref p ∧ p ∉ X ∧ h[p]? = some (.dic xs) ∧ IsKv X h kvs xs
def IsAll (X : List Nat) (h : Heap) : List PyData → List Val → Prop
  | [], xs => xs = []
  | d :: ds, xs => ∃ y ys, xs = y :: ys ∧ Is X h d y ∧ IsAll X h ds ys
def IsKv (X : List Nat) (h : Heap) : List (PyData × PyData) → List (Key × Val) → Prop
  | [], xs => xs = []
  | (k, d) :: ds, xs => ∃ q y ys, xs = (q, y) :: ys ∧ k = keyD q ∧ Is X h d y ∧ IsKv X h ds ys
end
mutual
theorem Is.mono {X Y : List Nat} {h h' : Heap} (f : ∀ n o, n ∉ X → h[n]? = some o → n ∉ Y ∧ h'[n]? = some o) : ∀ {d : PyData} {v : Val}, Is X h d v → Is Y h' d v
  | .none, v, i => by unfold Is at *; exact i
  | .bool b, v, i => by unfold Is at *; exact i
  | .int b, v, i => by unfold Is at *; exact i
  | .str b, v, i => by unfold Is at *; exact i
  | .list ds, v, i => by unfold Is at *; obtain ⟨p, xs, e, n, g, a⟩ := i; exact ⟨p, xs, e, (f _ _ n g).1, (f _ _ n g).2, IsAll.mono f a⟩
  | .tuple ds, v, i => by unfold Is at *; obtain ⟨p, xs, e, n, g, a⟩ := i; exact ⟨p, xs, e, (f _ _ n g).1, (f _ _ n g).2, IsAll.mono f a⟩
  | .dict ds, v, i => by unfold Is at *; obtain ⟨p, xs, e, n, g, a⟩ := i; exact ⟨p, xs, e, (f _ _ n g).1, (f _ _ n g).2, IsKv.mono f a⟩
theorem IsAll.mono {X Y : List Nat} {h h' : Heap} (f : ∀ n o, n ∉ X → h[n]? = some o → n ∉ Y ∧ h'[n]? = some o) : ∀ {ds : List PyData} {v : List Val}, IsAll X h ds v → IsAll Y h' ds v
  | [], v, i => by unfold IsAll at *; exact i
  | d :: ds, v, i => by unfold IsAll at *; obtain ⟨y, ys, e, a, b⟩ := i; exact ⟨y, ys, e, Is.mono f a, IsAll.mono f b⟩
theorem IsKv.mono {X Y : List Nat} {h h' : Heap} (f : ∀ n o, n ∉ X → h[n]? = some o → n ∉ Y ∧ h'[n]? = some o) : ∀ {ds : List (PyData × PyData)} {v : List (Key × Val)}, IsKv X h ds v → IsKv Y h' ds v
  | [], v, i => by unfold IsKv at *; exact i
  | (k, d) :: ds, v, i => by unfold IsKv at *; obtain ⟨q, y, ys, e, z, a, b⟩ := i; exact ⟨q, y, ys, e, z, Is.mono f a, IsKv.mono f b⟩
end
theorem Is.fo {X : List Nat} {h h' : Heap} {d : PyData} {v : Val} (i : Is X h d v) (f : Fo X h h') : Is X h' d v := i.mono fun n o hn e => ⟨hn, f.at e hn⟩
theorem Is.fr {X : List Nat} {h h' : Heap} {d : PyData} {v : Val} (i : Is X h d v) (f : Fr h h') : Is X h' d v := i.fo (Fo.of f)
theorem Is.fx {n : Nat} {h h' : Heap} {d : PyData} {v : Val} (i : Is [n] h d v) (f : Fx1 n h h') : Is [n] h' d v := i.fo (Fo.one f (by simp))
theorem Is.sub {X Y : List Nat} {h : Heap} {d : PyData} {v : Val} (i : Is X h d v) (s : ∀ n ∈ Y, n ∈ X) : Is Y h d v := i.mono fun n o hn e => ⟨fun z => hn (s n z), e⟩
theorem IsAll.fo {X : List Nat} {h h' : Heap} {d : List PyData} {v : List Val} (i : IsAll X h d v) (f : Fo X h h') : IsAll X h' d v := i.mono fun n o hn e => ⟨hn, f.at e hn⟩
theorem IsAll.fr {X : List Nat} {h h' : Heap} {d : List PyData} {v : List Val} (i : IsAll X h d v) (f : Fr h h') : IsAll X h' d v := i.fo (Fo.of f)
theorem IsAll.sub {X Y : List Nat} {h : Heap} {d : List PyData} {v : List Val} (i : IsAll X h d v) (s : ∀ n ∈ Y, n ∈ X) : IsAll Y h d v := i.mono fun n o hn e => ⟨fun z => hn (s n z), e⟩
/-- what is new may be in X as well -/
theorem Is.more {X : List Nat} {m : Nat} {h : Heap} {d : PyData} {v : Val} (i : Is X h d v) (hm : h.length ≤ m) : Is (m :: X) h d v := i.mono fun n o hn e => ⟨fun z => by
  have := lt_of_get e
  rcases List.mem_cons.mp z with rfl | z
  · omega
  · exact hn z, e⟩
theorem IsAll.more {X : List Nat} {m : Nat} {h : Heap} {d : List PyData} {v : List Val} (i : IsAll X h d v) (hm : h.length ≤ m) : IsAll (m :: X) h d v := i.mono fun n o hn e => ⟨fun z => by
  have := lt_of_get e
  rcases List.mem_cons.mp z with rfl | z
  · omega
  · exact hn z, e⟩
section
variable {X : List Nat} {h : Heap}
theorem is_lst {p : Nat} {xs : List Val} {ds : List PyData} (hp : p ∉ X) (e : h[p]? = some (.lst xs)) (a : IsAll X h ds xs) : Is X h (.list ds) (.ref p) := by unfold Is; exact ⟨p, xs, rfl, hp, e, a⟩
theorem is_tup {p : Nat} {xs : List Val} {ds : List PyData} (hp : p ∉ X) (e : h[p]? = some (.tup xs)) (a : IsAll X h ds xs) : Is X h (.tuple ds) (.ref p) := by unfold Is; exact ⟨p, xs, rfl, hp, e, a⟩
theorem Is.lst {v : Val} {ds : List PyData} (i : Is X h (.list ds) v) : ∃ p xs, v = .ref p ∧ p ∉ X ∧ h[p]? = some (.lst xs) ∧ IsAll X h ds xs := by unfold Is at i; exact i
theorem Is.tup {v : Val} {ds : List PyData} (i : Is X h (.tuple ds) v) : ∃ p xs, v = .ref p ∧ p ∉ X ∧ h[p]? = some (.tup xs) ∧ IsAll X h ds xs := by unfold Is at i; exact i
theorem Is.int {v : Val} {n : Int} (i : Is X h (.int n) v) : v = .int n := by unfold Is at i; exact i
theorem Is.str {v : Val} {n : Str} (i : Is X h (.str n) v) : v = .str n := by unfold Is at i; exact i
theorem Is.bl {v : Val} {n : Bool} (i : Is X h (.bool n) v) : v = .bl n := by unfold Is at i; exact i
@[simp] theorem is_int {n : Int} : Is X h (.int n) (.int n) := by unfold Is; rfl
@[simp] theorem is_str {n : Str} : Is X h (.str n) (.str n) := by unfold Is; rfl
@[simp] theorem is_bl {n : Bool} : Is X h (.bool n) (.bl n) := by unfold Is; rfl
@[simp] theorem is_non : Is X h .none .non := by unfold Is; rfl
@[simp] theorem isall_nil : IsAll X h [] [] := by unfold IsAll; rfl
theorem IsAll.nil {xs : List Val} (i : IsAll X h [] xs) : xs = [] := by unfold IsAll at i; exact i
theorem IsAll.cons {d : PyData} {ds : List PyData} {xs : List Val} (i : IsAll X h (d :: ds) xs) : ∃ y ys, xs = y :: ys ∧ Is X h d y ∧ IsAll X h ds ys := by unfold IsAll at i; exact i
theorem isall_cons {d : PyData} {ds : List PyData} {x : Val} {xs : List Val} (a : Is X h d x) (b : IsAll X h ds xs) : IsAll X h (d :: ds) (x :: xs) := by unfold IsAll; exact ⟨x, xs, rfl, a, b⟩
@[simp] theorem isall_cc {d : PyData} {ds : List PyData} {x : Val} {xs : List Val} : IsAll X h (d :: ds) (x :: xs) = (Is X h d x ∧ IsAll X h ds xs) := by
  apply propext
  constructor
  · intro i
    obtain ⟨y, ys, e, a, b⟩ := i.cons
    cases e
    exact ⟨a, b⟩
  · exact fun ⟨a, b⟩ => isall_cons a b
theorem IsAll.length : ∀ {ds : List PyData} {xs : List Val}, IsAll X h ds xs → xs.length = ds.length
  | [], xs, i => by rw [i.nil]; rfl
  | d :: ds, xs, i => by
    obtain ⟨y, ys, e, a, b⟩ := i.cons
    rw [e, List.length_cons, List.length_cons, IsAll.length b]
theorem IsAll.app : ∀ {ds es : List PyData} {xs ys : List Val}, IsAll X h ds xs → IsAll X h es ys → IsAll X h (ds ++ es) (xs ++ ys)
  | [], es, xs, ys, i, j => by rw [i.nil]; exact j
  | d :: ds, es, xs, ys, i, j => by
    obtain ⟨y, zs, e, a, b⟩ := i.cons
    rw [e]
    exact isall_cons a (IsAll.app b j)
theorem isall_map {α : Type} {k : α → PyData} {f : α → Val} (hk : ∀ a, Is X h (k a) (f a)) : ∀ l : List α, IsAll X h (l.map k) (l.map f)
  | [] => isall_nil
  | a :: l => isall_cons (hk a) (isall_map hk l)
theorem IsAll.of_map {α : Type} {k : α → PyData} {f : α → Val} (hk : ∀ a v, Is X h (k a) v → v = f a) : ∀ {l : List α} {xs : List Val}, IsAll X h (l.map k) xs → xs = l.map f
  | [], xs, i => i.nil
  | a :: l, xs, i => by
    obtain ⟨y, ys, e, b, c⟩ := IsAll.cons i
    rw [e, hk _ _ b, IsAll.of_map hk c]
    rfl
theorem isall_ints {ws : List Int} {xs : List Val} : IsAll X h (ws.map PyData.int) xs ↔ xs = ws.map Val.int := ⟨fun i => i.of_map (fun _ _ z => z.int), fun e => e ▸ isall_map (fun _ => is_int) ws⟩
theorem IsAll.get : ∀ {ds : List PyData} {xs : List Val} {k : Nat} {x : Val}, IsAll X h ds xs → xs[k]? = some x → ∃ d, ds[k]? = some d ∧ Is X h d x
  | [], xs, k, x, i, e => by rw [i.nil] at e; simp at e
  | d :: ds, xs, k, x, i, e => by
    obtain ⟨y, ys, e2, a, b⟩ := i.cons
    rw [e2] at e
    cases k with
    | zero => simp at e; subst e; exact ⟨d, rfl, a⟩
    | succ k => simp at e; obtain ⟨d', h1, h2⟩ := IsAll.get b e; exact ⟨d', by simpa using h1, h2⟩
end
/-! ## reading -/
theorem mapO_len {α β : Type} {f : α → Option β} : ∀ {l : List α} {r : List β}, mapO f l = some r → r.length = l.length
  | [], r, e => by cases e; rfl
  | x :: l, r, e => by
    unfold mapO at e
    split at e
    · rename_i y ys h1 h2
      cases e
      rw [List.length_cons, List.length_cons, mapO_len h2]
    · cases e
mutual
theorem Is.rd {X : List Nat} {h : Heap} : ∀ {d : PyData} {v : Val} {k : Nat}, Is X h d v → d.depth ≤ k → Mi.rd k h v = some d
  | .none, v, k, i, hd => by unfold Is at i; subst i; cases k <;> rfl
  | .bool b, v, k, i, hd => by unfold Is at i; subst i; cases k <;> rfl
  | .int b, v, k, i, hd => by unfold Is at i; subst i; cases k <;> rfl
  | .str b, v, k, i, hd => by unfold Is at i; subst i; cases k <;> rfl
  | .list ds, v, k, i, hd => by
    obtain ⟨p, xs, rfl, _, e, a⟩ := i.lst
    have hd : PyData.depthAll ds + 1 ≤ k := hd
    obtain ⟨k, rfl⟩ : ∃ j, k = j + 1 := ⟨k - 1, by omega⟩
    unfold Mi.rd
    rw [e]
    dsimp only
    rw [IsAll.rd a (by omega)]
    rfl
  | .tuple ds, v, k, i, hd => by
    obtain ⟨p, xs, rfl, _, e, a⟩ := i.tup
    have hd : PyData.depthAll ds + 1 ≤ k := hd
    obtain ⟨k, rfl⟩ : ∃ j, k = j + 1 := ⟨k - 1, by omega⟩
    unfold Mi.rd
    rw [e]
    dsimp only
    rw [IsAll.rd a (by omega)]
    rfl
  | .dict ds, v, k, i, hd => by
    unfold Is at i
    obtain ⟨p, xs, rfl, _, e, a⟩ := i
    have hd : PyData.depthKv ds + 1 ≤ k := hd
    obtain ⟨k, rfl⟩ : ∃ j, k = j + 1 := ⟨k - 1, by omega⟩
    unfold Mi.rd
    rw [e]
    dsimp only
    rw [IsKv.rd a (by omega)]
    rfl
theorem IsAll.rd {X : List Nat} {h : Heap} : ∀ {ds : List PyData} {xs : List Val} {k : Nat}, IsAll X h ds xs → PyData.depthAll ds ≤ k → mapO (Mi.rd k h) xs = some ds
  | [], xs, k, i, hd => by rw [i.nil]; rfl
  | d :: ds, xs, k, i, hd => by
    obtain ⟨y, ys, rfl, a, b⟩ := i.cons
    have hd : max (PyData.depth d) (PyData.depthAll ds) ≤ k := hd
    unfold mapO
    rw [Is.rd a (by omega), IsAll.rd b (by omega)]
theorem IsKv.rd {X : List Nat} {h : Heap} : ∀ {ds : List (PyData × PyData)} {xs : List (Key × Val)} {k : Nat}, IsKv X h ds xs → PyData.depthKv ds ≤ k → mapO (fun p : Key × Val => (Mi.rd k h p.2).map fun d => (keyD p.1, d)) xs = some ds
  | [], xs, k, i, hd => by unfold IsKv at i; rw [i]; rfl
  | (q, d) :: ds, xs, k, i, hd => by
    unfold IsKv at i
    obtain ⟨q', y, ys, rfl, rfl, a, b⟩ := i
    have hd : max (max (PyData.depth (keyD q')) (PyData.depth d)) (PyData.depthKv ds) ≤ k := hd
    unfold mapO
    rw [Is.rd a (by omega), IsKv.rd b (by omega)]
    rfl
end
/-! ## repr, == -/
structure Okd (d : PyData) (n w : Nat) : Prop where
  lay : d.canLay0 = true
  shb : d.showable = true
  dep : d.depth ≤ n
  len : d.shown.length ≤ w
theorem Okd.up {d : PyData} {n w m v : Nat} (o : Okd d n w) (h1 : n ≤ m) (h2 : w ≤ v) : Okd d m v := ⟨o.lay, o.shb, Nat.le_trans o.dep h1, Nat.le_trans o.len h2⟩
theorem okd_non : Okd .none 0 5 := ⟨rfl, rfl, Nat.le_refl _, by decide +kernel⟩
theorem okd_bl (b : Bool) : Okd (.bool b) 0 5 := ⟨rfl, rfl, Nat.le_refl _, by cases b <;> decide +kernel⟩
theorem okd_int {i : Int} {k : Nat} (hk : 0 < k) (h : i.natAbs < 10 ^ k) (h2 : k ≤ 500) : Okd (.int i) 0 (k + 1) := by
  refine ⟨rfl, ?_, Nat.le_refl _, ?_⟩
  · show decide (i.natAbs.log2 < 1920) = true
    refine decide_eq_true ?_
    by_cases z : i.natAbs = 0
    · rw [z]; decide
    · rw [Nat.log2_lt z]
      refine Nat.lt_of_lt_of_le h (Nat.le_trans (Nat.pow_le_pow_right (by decide) h2) ?_)
      decide +kernel
  · show (Str.ofString (toString i)).length ≤ k + 1
    rw [PySem.ofString_length]
    exact PySem.int_text_length_le10 hk h
theorem piled_le {b : Nat} : ∀ {ts : List Str}, (∀ t ∈ ts, t.length ≤ b) → PySem.piled ts ≤ ts.length * (b + 2)
  | [], _ => by simp [PySem.piled]
  | t :: r, h => by
    have h1 := piled_le fun z hz => h z (List.mem_cons_of_mem _ hz)
    have h2 := h t (List.mem_cons_self ..)
    simp only [PySem.piled_cons, List.length_cons, Nat.succ_mul] at *
    omega
theorem listText_le : ∀ ts : List Str, (PySem.listText ts).length ≤ PySem.piled ts + 2
  | [] => by decide +kernel
  | t :: r => by
    unfold PySem.listText
    rw [len_cat]
    have e : (PySem.textFrom 0 "[" (t :: r)).length = (PySem.textFrom 1 (("[" : Str) ++ (if 0 > 0 then ", " else "" : String) ++ t) r).length := rfl
    rw [e, PySem.textFrom_length_pos _ _ _ (by decide), len_cat, len_cat, PySem.piled_cons]
    have e1 : ("[" : Str).length = 1 := by decide +kernel
    have e2 : ("]" : Str).length = 1 := by decide +kernel
    have e3 : (((if 0 > 0 then ", " else "" : String) : Str)).length = 0 := by decide +kernel
    omega
theorem tupleText_le : ∀ ts : List Str, (PySem.tupleText ts).length ≤ PySem.piled ts + 3
  | [] => by decide +kernel
  | t :: r => by
    unfold PySem.tupleText
    rw [len_cat, len_cat]
    have := PySem.join_length_add (t :: r) (by simp)
    have e1 : ("(" : Str).length = 1 := by decide +kernel
    have e2 : (((if (t :: r).length == 1 then ",)" else ")" : String) : Str)).length ≤ 2 := by split <;> decide +kernel
    omega
theorem shownAll_map : ∀ ds : List PyData, PyData.shownAll ds = ds.map PyData.shown
  | [] => rfl
  | d :: ds => by rw [PyData.shownAll, shownAll_map ds]; rfl
theorem canLayAll_of : ∀ {ds : List PyData}, (∀ d ∈ ds, d.canLay0 = true) → PyData.canLayAll0 ds = true
  | [], _ => rfl
  | d :: ds, h => by rw [PyData.canLayAll0, h d (List.mem_cons_self ..), canLayAll_of fun z hz => h z (List.mem_cons_of_mem _ hz)]; rfl
theorem showableAll_of : ∀ {ds : List PyData}, (∀ d ∈ ds, d.showable = true) → PyData.showableAll ds = true
  | [], _ => rfl
  | d :: ds, h => by rw [PyData.showableAll, h d (List.mem_cons_self ..), showableAll_of fun z hz => h z (List.mem_cons_of_mem _ hz)]; rfl
theorem depthAll_of {n : Nat} : ∀ {ds : List PyData}, (∀ d ∈ ds, d.depth ≤ n) → PyData.depthAll ds ≤ n
  | [], _ => Nat.zero_le _
  | d :: ds, h => by
    have h1 := h d (List.mem_cons_self ..)
    have h2 := depthAll_of fun z hz => h z (List.mem_cons_of_mem _ hz)
    show max (PyData.depth d) (PyData.depthAll ds) ≤ n
    omega
theorem okd_list {ds : List PyData} {n w : Nat} (h : ∀ d ∈ ds, Okd d n w) : Okd (.list ds) (n + 1) (ds.length * (w + 2) + 2) := by
  refine ⟨canLayAll_of fun d hd => (h d hd).lay, showableAll_of fun d hd => (h d hd).shb, Nat.succ_le_succ (depthAll_of fun d hd => (h d hd).dep), ?_⟩
  show (PySem.listText (PyData.shownAll ds)).length ≤ _
  rw [shownAll_map]
  have h1 := listText_le (ds.map PyData.shown)
  have h2 : PySem.piled (ds.map PyData.shown) ≤ (ds.map PyData.shown).length * (w + 2) := piled_le fun t ht => by
    obtain ⟨d, hd, rfl⟩ := List.mem_map.mp ht
    exact (h d hd).len
  rw [List.length_map] at h2
  omega
theorem okd_tuple {ds : List PyData} {n w : Nat} (h : ∀ d ∈ ds, Okd d n w) : Okd (.tuple ds) (n + 1) (ds.length * (w + 2) + 3) := by
  refine ⟨canLayAll_of fun d hd => (h d hd).lay, showableAll_of fun d hd => (h d hd).shb, Nat.succ_le_succ (depthAll_of fun d hd => (h d hd).dep), ?_⟩
  show (PySem.tupleText (PyData.shownAll ds)).length ≤ _
  rw [shownAll_map]
  have h1 := tupleText_le (ds.map PyData.shown)
  have h2 : PySem.piled (ds.map PyData.shown) ≤ (ds.map PyData.shown).length * (w + 2) := piled_le fun t ht => by
    obtain ⟨d, hd, rfl⟩ := List.mem_map.mp ht
    exact (h d hd).len
  rw [List.length_map] at h2
  omega
/-- data that repr can show, dicts too -/
structure Okr (d : PyData) (n w : Nat) : Prop where
  shb : d.showable = true
  dep : d.depth ≤ n
  len : d.shown.length ≤ w
theorem Okd.r {d : PyData} {n w : Nat} (o : Okd d n w) : Okr d n w := ⟨o.shb, o.dep, o.len⟩
theorem Okr.up {d : PyData} {n w m v : Nat} (o : Okr d n w) (h1 : n ≤ m) (h2 : w ≤ v) : Okr d m v := ⟨o.shb, Nat.le_trans o.dep h1, Nat.le_trans o.len h2⟩
theorem okr_list {ds : List PyData} {n w : Nat} (h : ∀ d ∈ ds, Okr d n w) : Okr (.list ds) (n + 1) (ds.length * (w + 2) + 2) := by
  refine ⟨showableAll_of fun d hd => (h d hd).shb, Nat.succ_le_succ (depthAll_of fun d hd => (h d hd).dep), ?_⟩
  show (PySem.listText (PyData.shownAll ds)).length ≤ _
  rw [shownAll_map]
  have h1 := listText_le (ds.map PyData.shown)
  have h2 : PySem.piled (ds.map PyData.shown) ≤ (ds.map PyData.shown).length * (w + 2) := piled_le fun t ht => by
    obtain ⟨d, hd, rfl⟩ := List.mem_map.mp ht
    exact (h d hd).len
  rw [List.length_map] at h2
  omega
theorem okr_tuple {ds : List PyData} {n w : Nat} (h : ∀ d ∈ ds, Okr d n w) : Okr (.tuple ds) (n + 1) (ds.length * (w + 2) + 3) := by
  refine ⟨showableAll_of fun d hd => (h d hd).shb, Nat.succ_le_succ (depthAll_of fun d hd => (h d hd).dep), ?_⟩
  show (PySem.tupleText (PyData.shownAll ds)).length ≤ _
  rw [shownAll_map]
  have h1 := tupleText_le (ds.map PyData.shown)
  have h2 : PySem.piled (ds.map PyData.shown) ≤ (ds.map PyData.shown).length * (w + 2) := piled_le fun t ht => by
    obtain ⟨d, hd, rfl⟩ := List.mem_map.mp ht
    exact (h d hd).len
  rw [List.length_map] at h2
  omega
theorem okr_dnew : Okr (.dict []) 1 2 := ⟨rfl, by decide, by decide +kernel⟩
theorem sat_reprR {g : G} {X : List Nat} {h : Heap} {d : PyData} {v : Val} {n w : Nat} (i : Is X h d v) (o : Okr d n w) (hn : n ≤ 60) (hw : w ≤ 16777216) : Mi.pri g .repr [v] h = .ok (.str d.shown) h := by
  unfold pri
  dsimp only
  rw [i.rd (Nat.le_trans o.dep hn)]
  dsimp only
  rw [if_pos ⟨o.shb, Nat.le_trans o.dep hn, Nat.le_trans o.len hw⟩]
theorem sat_repr {g : G} {X : List Nat} {h : Heap} {d : PyData} {v : Val} {n w : Nat} (i : Is X h d v) (o : Okd d n w) (hn : n ≤ 60) (hw : w ≤ 16777216) : Mi.pri g .repr [v] h = .ok (.str d.shown) h := by
  unfold pri
  dsimp only
  rw [i.rd (Nat.le_trans o.dep hn)]
  dsimp only
  rw [if_pos ⟨o.shb, Nat.le_trans o.dep hn, Nat.le_trans o.len hw⟩]
theorem Okd.shaped {d : PyData} {n w : Nat} (o : Okd d n w) (hn : n ≤ 60) : PySem.SeqAt.shaped d = true := by
  unfold PySem.SeqAt.shaped
  rw [o.lay, Bool.true_and]
  exact decide_eq_true (Nat.le_trans (Nat.le_trans o.dep hn) (by decide))
theorem eqO_is {X Y : List Nat} {h : Heap} {d e : PyData} {x y : Val} {n w m v : Nat} (i : Is X h d x) (j : Is Y h e y) (o : Okd d n w) (o' : Okd e m v) (hn : n ≤ 60) (hm : m ≤ 60) : eqO h x y = some (PyData.eqv d e) := by
  have r1 := i.rd (Nat.le_trans o.dep hn)
  have r2 := j.rd (Nat.le_trans o'.dep hm)
  have hs := And.intro (o.shaped hn) (o'.shaped hm)
  unfold eqO
  split
  · cases r1; cases r2; simp [PyData.eqv]; rw [Bool.eq_iff_iff]; simp
  · cases r1; cases r2; simp [PyData.eqv]; rw [Bool.eq_iff_iff]; simp
  · cases r1; cases r2; simp [PyData.eqv]; rw [Bool.eq_iff_iff]; simp
  · rw [r1, r2]
    dsimp only
    rw [if_pos hs]
theorem bop_eq_is {X Y : List Nat} {h : Heap} {d e : PyData} {x y : Val} {n w m v : Nat} (i : Is X h d x) (j : Is Y h e y) (o : Okd d n w) (o' : Okd e m v) (hn : n ≤ 60) (hm : m ≤ 60) : bop .eq x y h = .ok (.bl (PyData.eqv d e)) h := by
  show ofB (eqO h x y) h = _
  rw [eqO_is i j o o' hn hm]
  rfl
theorem bop_ne_is {X Y : List Nat} {h : Heap} {d e : PyData} {x y : Val} {n w m v : Nat} (i : Is X h d x) (j : Is Y h e y) (o : Okd d n w) (o' : Okd e m v) (hn : n ≤ 60) (hm : m ≤ 60) : bop .ne x y h = .ok (.bl (!PyData.eqv d e)) h := by
  show ofB ((eqO h x y).map (!·)) h = _
  rw [eqO_is i j o o' hn hm]
  rfl
mutual
theorem eqv_refl : ∀ {d : PyData}, d.canLay0 = true → PyData.eqv d d = true
  | .none, _ => rfl
  | .bool b, _ => by simp [PyData.eqv]
  | .int b, _ => by simp [PyData.eqv]
  | .str b, _ => by simp [PyData.eqv]
  | .list ds, h => by
    have h : PyData.canLayAll0 ds = true := h
    show PyData.eqvAll ds ds = true
    exact eqvAll_refl h
  | .tuple ds, h => by
    have h : PyData.canLayAll0 ds = true := h
    show PyData.eqvAll ds ds = true
    exact eqvAll_refl h
  | .dict ds, h => by cases h
theorem eqvAll_refl : ∀ {ds : List PyData}, PyData.canLayAll0 ds = true → PyData.eqvAll ds ds = true
  | [], _ => rfl
  | d :: ds, h => by
    have h : (PyData.canLay0 d && PyData.canLayAll0 ds) = true := h
    rw [Bool.and_eq_true] at h
    show (PyData.eqv d d && PyData.eqvAll ds ds) = true
    rw [eqv_refl h.1, eqvAll_refl h.2]
    rfl
end
theorem eqv_ints {a b : List Int} : PyData.eqv (.list (a.map .int)) (.list (b.map .int)) = decide (a = b) := by
  show PyData.eqvAll (a.map .int) (b.map .int) = _
  induction a generalizing b with
  | nil => cases b <;> rfl
  | cons x r ih =>
    cases b with
    | nil => rfl
    | cons y q =>
      show (PyData.eqv (.int x) (.int y) && PyData.eqvAll (r.map .int) (q.map .int)) = _
      rw [ih]
      simp [PyData.eqv]
      rw [Bool.eq_iff_iff]; simp
end Mi


/-! # Mi11: lists and tuples of ints -/
namespace Mi
open PySem (Str PyData)
/-- v is a list or a tuple of these ints -/
def Sq (h : Heap) (v : Val) (ns : List Int) : Prop := ∃ p o, v = .ref p ∧ h[p]? = some o ∧ (o = .lst (ns.map .int) ∨ o = .tup (ns.map .int))
/-- the number at i -/
def nth (ns : List Int) (i : Nat) : Int := ns.getD i 0
theorem nth_get {ns : List Int} {i : Nat} (hi : i < ns.length) : nth ns i = ns[i] := by simp [nth, List.getD, List.getElem?_eq_getElem hi]
theorem Sq.fr {h h' : Heap} {v : Val} {ns : List Int} (s : Sq h v ns) (f : Fr h h') : Sq h' v ns := by
  obtain ⟨p, o, e, g, z⟩ := s
  exact ⟨p, o, e, f.at g, z⟩
theorem Sq.fx {n : Nat} {h h' : Heap} {v : Val} {ns : List Int} (s : Sq h v ns) (f : Fx1 n h h') (hn : v ≠ .ref n) : Sq h' v ns := by
  obtain ⟨p, o, e, g, z⟩ := s
  exact ⟨p, o, e, f.at g (fun y => hn (by rw [e, y])), z⟩
theorem Sq.fo {X : List Nat} {h h' : Heap} {v : Val} {ns : List Int} (s : Sq h v ns) (f : Fo X h h') (hn : ∀ n ∈ X, v ≠ .ref n) : Sq h' v ns := by
  obtain ⟨p, o, e, g, z⟩ := s
  exact ⟨p, o, e, f.at g (fun y => hn p y e), z⟩
theorem Sq.lt {h : Heap} {v : Val} {ns : List Int} (s : Sq h v ns) {n : Nat} (hn : h.length ≤ n) : v ≠ .ref n := by
  obtain ⟨p, o, e, g, z⟩ := s
  intro y
  rw [e] at y
  cases y
  have := lt_of_get g
  omega
theorem sq_lst {h : Heap} {p : Nat} {ns : List Int} (e : h[p]? = some (.lst (ns.map .int))) : Sq h (.ref p) ns := ⟨p, _, rfl, e, .inl rfl⟩
theorem sq_tup {h : Heap} {p : Nat} {ns : List Int} (e : h[p]? = some (.tup (ns.map .int))) : Sq h (.ref p) ns := ⟨p, _, rfl, e, .inr rfl⟩
section
variable {g : G} {h : Heap} {v : Val} {ns : List Int} {Q : RQ Val} {E : RE}
theorem Sq.len (s : Sq h v ns) : Mi.pri g .len [v] h = .ok (.int ns.length) h := by
  obtain ⟨p, o, rfl, e, rfl | rfl⟩ := s
  · rw [len_lst e, List.length_map]
  · rw [len_tup e, List.length_map]
theorem Sq.sum (s : Sq h v ns) : Mi.pri g .sum [v] h = .ok (.int ns.sum) h := by
  obtain ⟨p, o, rfl, e, rfl | rfl⟩ := s <;> simp [pri, seqO, e, intsO_map]
theorem Sq.ix (s : Sq h v ns) {i : Int} (h0 : 0 ≤ i) (h1 : i < ns.length) : idxV g v (.int i) h = .ok (.int (nth ns i.toNat)) h := by
  have key : lstAt (ns.map Val.int) i h = .ok (.int (nth ns i.toNat)) h := by
    obtain ⟨x, e, _, e2⟩ := atI_of (xs := ns.map Val.int) h0 (by simpa using h1)
    unfold lstAt
    rw [e]
    rw [List.getElem?_map] at e2
    have hn : i.toNat < ns.length := by omega
    rw [List.getElem?_eq_getElem hn] at e2
    simp at e2
    simp [nth, List.getD, List.getElem?_eq_getElem hn, e2]
  obtain ⟨p, o, rfl, e, rfl | rfl⟩ := s
  · rw [ix_lst e, key]
  · rw [ix_tup e, key]
theorem Sq.src (s : Sq h v ns) : ∃ st, (∀ h', Fr h h' → srcR .val [v] h' = .ok ⟨ns.map (fun n => .v (.int n)), st⟩ h') ∧ ∀ h' its, Fr h h' → Walk.ok ⟨its, st⟩ h' = true := by
  obtain ⟨p, o, rfl, e, rfl | rfl⟩ := s
  · exact ⟨_, fun h' F => by rw [srcR_lst (F.at e), List.map_map]; rfl, fun h' its F => ok_lst _ _ rfl (F.at e)⟩
  · exact ⟨_, fun h' F => by rw [srcR_tup (F.at e), List.map_map]; rfl, fun h' its F => ok_lst _ _ rfl (F.at e)⟩
theorem last_ix {q : Nat} (e : h[q]? = some (.lst (ns.map .int))) (hn : 0 < ns.length) : idxV g (.ref q) (.int (-1)) h = .ok (.int (nth ns (ns.length - 1))) h := by
  rw [ix_lst e]
  unfold lstAt L2.atI L2.ixN
  rw [if_neg (by decide), List.length_map, if_pos (by omega)]
  have e2 : ((-1 : Int) + (ns.length : Int)).toNat = ns.length - 1 := by omega
  rw [nth_get (by omega)]
  simp only [Option.bind_some, e2, List.getElem?_map, List.getElem?_eq_getElem (show ns.length - 1 < ns.length by omega), Option.map_some]
theorem Sq.tru (s : Sq h v ns) : truB v h = .ok (!ns.isEmpty) h := by
  obtain ⟨p, o, rfl, e, rfl | rfl⟩ := s <;> simp [truB, Mi.tru, e]
/-- ns[lo:hi] -/
def cutL (ns : List Int) (lo hi : Option Int) : List Int := (ns.drop (HT.sIx ns.length 0 lo)).take (HT.sIx ns.length ns.length hi - HT.sIx ns.length 0 lo)
theorem Sq.slc (s : Sq h v ns) {lo hi : Option Int} (Z : ∀ v' h', Sq h' v' (cutL ns lo hi) → Fr h h' → Q v' h') : (slcV v lo hi h).sat Q E := by
  have em : ((ns.map Val.int).drop (HT.sIx ns.length 0 lo)).take (HT.sIx ns.length ns.length hi - HT.sIx ns.length 0 lo) = (cutL ns lo hi).map .int := by
    unfold cutL
    rw [List.map_take, List.map_drop]
  obtain ⟨p, o, rfl, e, rfl | rfl⟩ := s
  · unfold slcV
    simp only [e, List.length_map]
    rw [em]
    exact sat_new fun n h' e' _ _ F => Z _ _ (sq_lst e') F
  · unfold slcV
    simp only [e, List.length_map]
    split
    · rename_i c
      refine Z _ _ ?_ (Fr.refl _)
      have : cutL ns lo hi = ns := by
        unfold cutL
        rw [c.1, c.2]
        simp
      rw [this]
      exact sq_tup e
    · rw [em]
      exact sat_new fun n h' e' _ _ F => Z _ _ (sq_tup e') F
theorem six_nat (n d k : Nat) : HT.sIx n d (some (k : Int)) = min k n := by
  show (if (k : Int) < 0 then ((k : Int) + n).toNat else min (k : Int).toNat n) = _
  rw [if_neg (by omega)]
  simp
theorem cutL_0 (ns : List Int) (k : Nat) : cutL ns none (some (k : Int)) = ns.take k := by
  unfold cutL
  rw [six_nat]
  show List.take (min k ns.length - 0) (List.drop 0 ns) = _
  rw [List.drop_zero, List.take_eq_take_iff]
  omega
theorem cutL_b {ns : List Int} {i j : Nat} (hi : i ≤ ns.length) : cutL ns (some (i : Int)) (some (j : Int)) = (ns.drop i).take (j - i) := by
  unfold cutL
  rw [six_nat, six_nat, Nat.min_eq_left hi, List.take_eq_take_iff, List.length_drop]
  omega
theorem cutL_1 {ns : List Int} {i : Nat} (hi : i ≤ ns.length) : cutL ns (some (i : Int)) none = ns.drop i := by
  unfold cutL
  rw [six_nat, Nat.min_eq_left hi]
  show List.take (ns.length - i) _ = _
  rw [List.take_of_length_le (by rw [List.length_drop]; omega)]
theorem Sq.isseq (s : Sq h v ns) {t : Nat} (e : h[t]? = some (.tup [.ty "list", .ty "tuple"])) : Mi.pri g .isinst [v, .ref t] h = .ok (.bl true) h := by
  obtain ⟨p, o, rfl, e', rfl | rfl⟩ := s <;> simp [pri, tyO, e, e', tysO, okTy, isTy]
theorem Sq.list (s : Sq h v ns) (Z : ∀ (p : Nat) h', h'[p]? = some (.lst (ns.map .int)) → p = h.length → h'.length = h.length + 1 → Fr h h' → Q (.ref p) h') : (Mi.pri g .list [v] h).sat Q E := by
  obtain ⟨p, o, rfl, e, rfl | rfl⟩ := s <;>
  · simp only [pri, seqO, e]
    exact sat_new fun n h' e' l l' F => Z _ _ e' l l' F
theorem lst_tuple {q : Nat} {xs : List Val} (e : h[q]? = some (.lst xs)) (Z : ∀ (p : Nat) h', h'[p]? = some (.tup xs) → p = h.length → h'.length = h.length + 1 → Fr h h' → Q (.ref p) h') : (Mi.pri g .tuple [.ref q] h).sat Q E := by
  simp only [pri, e]
  exact sat_new fun n h' e' l l' F => Z _ _ e' l l' F
theorem lst_list {q : Nat} {xs : List Val} (e : h[q]? = some (.lst xs)) (Z : ∀ (p : Nat) h', h'[p]? = some (.lst xs) → p = h.length → h'.length = h.length + 1 → Fr h h' → Q (.ref p) h') : (Mi.pri g .list [.ref q] h).sat Q E := by
  simp only [pri, seqO, e]
  exact sat_new fun n h' e' l l' F => Z _ _ e' l l' F
end
/-- ints, read as data -/
theorem is_ints {X : List Nat} {h : Heap} {p : Nat} {ns : List Int} (hp : p ∉ X) (e : h[p]? = some (.lst (ns.map .int))) : Is X h (.list (ns.map .int)) (.ref p) := is_lst hp e (isall_ints.mpr rfl)
theorem okd_ints {ns : List Int} {k m : Nat} (hk : 0 < k) (h2 : k ≤ 500) (hl : ns.length ≤ m) (h : ∀ n ∈ ns, n.natAbs < 10 ^ k) : Okd (.list (ns.map .int)) 1 (m * (k + 3) + 2) := by
  have := okd_list (ds := ns.map PyData.int) (n := 0) (w := k + 1) fun d hd => by
    obtain ⟨n, hn, rfl⟩ := List.mem_map.mp hd
    exact okd_int hk (h n hn) h2
  refine this.up (by decide) ?_
  rw [List.length_map]
  have := Nat.mul_le_mul_right (k + 3) hl
  show ns.length * (k + 3) + 2 ≤ _
  omega
end Mi


/-! # Mi12: rows of rows; loops over pairs -/
namespace Mi
open PySem (Str PyData)
/-- a comprehension over items of a kind -/
theorem lcF_each {β : Type} {k : β → Val} {w : Walk} {t : Tg} {c : Sl → Heap → Res Bool} {e : Sl → Heap → Res Val} {σ : Sl} {Q : RQ (List Val)} {E : RE} (I : List β → List Val → Heap → Prop)
    (hw : ∀ r a h, I r a h → w.ok h = true) (ha : ∀ i r a h, I (i :: r) a h → a.length < SL)
    (step : ∀ x r a h, I (x :: r) a h → ∃ σ', tgV t (k x) σ h = some σ' ∧ (c σ' h).sat (fun b h1 => if b then (e σ' h1).sat (fun v h2 => I r (a ++ [v]) h2) nox else I r a h1) nox)
    (done : ∀ a h, I [] a h → Q a h) {xs : List β} {a : List Val} {h : Heap} (start : I xs a h) : (lcF w t c e σ (xs.map fun x => .v (k x)) a h).sat Q E := by
  refine lcF_inv (fun r a h => ∃ ys : List β, r = ys.map (fun x => It.v (k x)) ∧ I ys a h) (fun _ _ h z => by obtain ⟨ys, _, z⟩ := z; exact hw _ _ _ z) ?_ ?_ ?_ _ _ _ ⟨xs, rfl, start⟩
  · rintro i r a h ⟨ys, er, hi⟩
    cases ys with
    | nil => cases er
    | cons x ys => exact ha _ _ _ _ hi
  · rintro i r a h ⟨ys, er, hi⟩
    cases ys with
    | nil => cases er
    | cons x ys =>
      cases er
      obtain ⟨σ', h1, h2⟩ := step x ys a h hi
      refine ⟨σ', h1, h2.imp (fun b h' z => ?_) fun _ _ _ z => z⟩
      cases b with
      | true => exact Res.sat.imp z (fun v h2 q => ⟨ys, rfl, q⟩) fun _ _ _ z => z
      | false => exact ⟨ys, rfl, z⟩
  · rintro a h ⟨ys, er, hi⟩
    cases ys with
    | nil => exact done a h hi
    | cons x ys => cases er
/-- a comprehension over pairs -/
theorem lcF_pairs {β : Type} {k1 k2 : β → Val} {w : Walk} {i j : Nat} {c : Sl → Heap → Res Bool} {e : Sl → Heap → Res Val} {σ : Sl} {Q : RQ (List Val)} {E : RE} (I : List β → List Val → Heap → Prop)
    (hw : ∀ r a h, I r a h → w.ok h = true) (ha : ∀ i r a h, I (i :: r) a h → a.length < SL)
    (step : ∀ x r a h h0, I (x :: r) a h → Fr h h0 → h0.length = h.length + 1 → (c ((σ.set i (some (k1 x))).set j (some (k2 x))) h0).sat (fun b h1 => if b then (e ((σ.set i (some (k1 x))).set j (some (k2 x))) h1).sat (fun v h2 => I r (a ++ [v]) h2) nox else I r a h1) nox)
    (done : ∀ a h, I [] a h → Q a h) {xs : List β} {a : List Val} {h : Heap} (start : I xs a h) : (lcF w (.tp [i, j]) c e σ (xs.map fun x => .pr (k1 x) (k2 x)) a h).sat Q E := by
  refine lcF_inv (fun r a h => ∃ ys : List β, r = ys.map (fun x => It.pr (k1 x) (k2 x)) ∧ I ys a h) (fun _ _ h z => by obtain ⟨ys, _, z⟩ := z; exact hw _ _ _ z) ?_ ?_ ?_ _ _ _ ⟨xs, rfl, start⟩
  · rintro i r a h ⟨ys, er, hi⟩
    cases ys with
    | nil => cases er
    | cons x ys => exact ha _ _ _ _ hi
  · rintro it r a h ⟨ys, er, hi⟩
    cases ys with
    | nil => cases er
    | cons x ys =>
      cases er
      rw [yield_pr]
      refine ⟨_, tg_pair (x := k1 x) (y := k2 x) (by simp), (step x ys a h _ hi (Fr.push _ _) (by simp)).imp (fun b h' z => ?_) fun _ _ _ z => z⟩
      cases b with
      | true => exact Res.sat.imp z (fun v h2 q => ⟨ys, rfl, q⟩) fun _ _ _ z => z
      | false => exact ⟨ys, rfl, z⟩
  · rintro a h ⟨ys, er, hi⟩
    cases ys with
    | nil => exact done a h hi
    | cons x ys => cases er
/-- a loop over pairs -/
theorem loopF_pairs {β : Type} {k1 k2 : β → Val} {w : Walk} {i j : Nat} {b : Sl → Heap → Res Fl} {Q : RQ Fl} {E : RE} (I : List β → Sl → Heap → Prop) (hw : ∀ r σ h, I r σ h → w.ok h = true)
    (step : ∀ x r σ h h0, I (x :: r) σ h → Fr h h0 → h0.length = h.length + 1 → (b ((σ.set i (some (k1 x))).set j (some (k2 x))) h0).sat (fun f h' => (match f with | .nx σ'' => I r σ'' h' | .rt v => Q (.rt v) h' | .ex c fs σ => Q (.ex c fs σ) h')) E)
    (done : ∀ σ h, I [] σ h → Q (.nx σ) h) {xs : List β} {σ : Sl} {h : Heap} (start : I xs σ h) : (loopF w (.tp [i, j]) b (xs.map fun x => .pr (k1 x) (k2 x)) σ h).sat Q E := by
  refine loopF_inv (fun r σ h => ∃ ys : List β, r = ys.map (fun x => It.pr (k1 x) (k2 x)) ∧ I ys σ h) (fun _ _ h z => by obtain ⟨ys, _, z⟩ := z; exact hw _ _ _ z) ?_ ?_ _ _ _ ⟨xs, rfl, start⟩
  · rintro it r σ h ⟨ys, er, hi⟩
    cases ys with
    | nil => cases er
    | cons x ys =>
      cases er
      rw [yield_pr]
      refine ⟨_, tg_pair (x := k1 x) (y := k2 x) (by simp), (step x ys σ h _ hi (Fr.push _ _) (by simp)).imp (fun f h' z => ?_) fun _ _ _ z => z⟩
      cases f with
      | nx σ'' => exact ⟨ys, rfl, z⟩
      | rt v => exact z
      | ex c fs σ => exact z
  · rintro σ h ⟨ys, er, hi⟩
    cases ys with
    | nil => exact done σ h hi
    | cons x ys => cases er
theorem pairI_zip : ∀ xs ys : List Val, pairI xs ys = (xs.zip ys).map fun p => .pr p.1 p.2
  | [], ys => by cases ys <;> rfl
  | x :: xs, [] => rfl
  | x :: xs, y :: ys => by
    show It.pr x y :: pairI xs ys = _
    rw [pairI_zip xs ys]
    rfl
theorem enumI_idx : ∀ (k : Nat) (xs : List Val), enumI k xs = (xs.zipIdx k).map fun p => .pr (.int p.2) p.1
  | k, [] => rfl
  | k, x :: xs => by
    show It.pr (.int k) x :: enumI (k + 1) xs = _
    rw [enumI_idx (k + 1) xs]
    rfl
theorem zip_maps {α β γ : Type} (f : α → β) (g : α → γ) : ∀ l : List α, (l.map f).zip (l.map g) = l.map fun a => (f a, g a)
  | [] => rfl
  | a :: l => by simp [zip_maps f g l]
theorem srcR_enum {n : Nat} {xs : List Val} {h : Heap} (e : h[n]? = some (.lst xs)) : srcR .enum [.ref n] h = .ok ⟨(xs.zipIdx 0).map fun p => .pr (.int p.2) p.1, [(n, .lst xs)]⟩ h := by
  unfold srcR srcV
  simp [e, enumI_idx]
/-- a list or a tuple, with its items -/
def Sv (h : Heap) (v : Val) (xs : List Val) : Prop := ∃ p o, v = .ref p ∧ h[p]? = some o ∧ (o = .lst xs ∨ o = .tup xs)
theorem Sv.fr {h h' : Heap} {v : Val} {xs : List Val} (s : Sv h v xs) (f : Fr h h') : Sv h' v xs := by
  obtain ⟨p, o, e, e1, z⟩ := s
  exact ⟨p, o, e, f.at e1, z⟩
theorem sv_lst {h : Heap} {p : Nat} {xs : List Val} (e : h[p]? = some (.lst xs)) : Sv h (.ref p) xs := ⟨p, _, rfl, e, .inl rfl⟩
theorem sv_tup {h : Heap} {p : Nat} {xs : List Val} (e : h[p]? = some (.tup xs)) : Sv h (.ref p) xs := ⟨p, _, rfl, e, .inr rfl⟩
theorem Sv.src {h : Heap} {v : Val} {xs : List Val} (s : Sv h v xs) : ∃ st, (∀ h', Fr h h' → srcR .val [v] h' = .ok ⟨xs.map (fun x => .v x), st⟩ h') ∧ ∀ h' its, Fr h h' → Walk.ok ⟨its, st⟩ h' = true := by
  obtain ⟨p, o, rfl, e, z⟩ := s
  rcases z with rfl | rfl
  · exact ⟨_, fun h' F => srcR_lst (F.at e), fun h' its F => ok_lst _ _ rfl (F.at e)⟩
  · exact ⟨_, fun h' F => srcR_tup (F.at e), fun h' its F => ok_lst _ _ rfl (F.at e)⟩
theorem Sv.zip {h : Heap} {v v' : Val} {xs ys : List Val} (s : Sv h v xs) (s' : Sv h v' ys) : ∃ st, (∀ h', Fr h h' → srcR .zip [v, v'] h' = .ok ⟨(xs.zip ys).map (fun p => .pr p.1 p.2), st⟩ h') ∧ ∀ h' its, Fr h h' → Walk.ok ⟨its, st⟩ h' = true := by
  obtain ⟨p, o, rfl, e, z⟩ := s
  obtain ⟨p', o', rfl, e', z'⟩ := s'
  refine ⟨[(p, o), (p', o')], fun h' F => ?_, fun h' its F => ?_⟩
  · have f := F.at e
    have f' := F.at e'
    unfold srcR srcV obO
    rcases z with rfl | rfl <;> rcases z' with rfl | rfl <;> simp [f, f', pairI_zip]
  · unfold Walk.ok
    simp [F.at e, F.at e']
theorem Sv.len {g : G} {h : Heap} {v : Val} {xs : List Val} (s : Sv h v xs) : Mi.pri g .len [v] h = .ok (.int xs.length) h := by
  obtain ⟨p, o, rfl, e, z⟩ := s
  rcases z with rfl | rfl
  · exact len_lst e
  · exact len_tup e
theorem Sv.ix {g : G} {h : Heap} {v : Val} {xs : List Val} (s : Sv h v xs) (i : Int) : idxV g v (.int i) h = lstAt xs i h := by
  obtain ⟨p, o, rfl, e, z⟩ := s
  rcases z with rfl | rfl
  · exact ix_lst e g i
  · exact ix_tup e g i
theorem Sv.isseq {g : G} {h : Heap} {v : Val} {xs : List Val} (s : Sv h v xs) {t : Nat} (e : h[t]? = some (.tup [.ty "list", .ty "tuple"])) : Mi.pri g .isinst [v, .ref t] h = .ok (.bl true) h := by
  obtain ⟨p, o, rfl, e1, z⟩ := s
  rcases z with rfl | rfl <;> simp [Mi.pri, tyO, e, e1, tysO, okTy, isTy]
theorem Sq.sv {h : Heap} {v : Val} {ns : List Int} (s : Sq h v ns) : Sv h v (ns.map .int) := s
/-- a list or a tuple of rows of ints -/
def Gs (h : Heap) (v : Val) (rs : List (List Int)) : Prop := ∃ prs : List (Val × List Int), Sv h v (prs.map (·.1)) ∧ rs = prs.map (·.2) ∧ ∀ q ∈ prs, Sq h q.1 q.2
theorem Gs.fr {h h' : Heap} {v : Val} {rs : List (List Int)} (s : Gs h v rs) (f : Fr h h') : Gs h' v rs := by
  obtain ⟨prs, s1, e, q⟩ := s
  exact ⟨prs, s1.fr f, e, fun x hx => (q x hx).fr f⟩
abbrev LL (rs : List (List Int)) : PyData := .list (rs.map fun r => .list (r.map .int))
theorem isall_rows {X : List Nat} {h : Heap} : ∀ {rs : List (List Int)} {xs : List Val}, IsAll X h (rs.map fun r => PyData.list (r.map .int)) xs → ∃ prs : List (Val × List Int), xs = prs.map (·.1) ∧ rs = prs.map (·.2) ∧ ∀ q ∈ prs, Sq h q.1 q.2
  | [], xs, i => ⟨[], i.nil, rfl, fun _ hq => by cases hq⟩
  | r :: rs, xs, i => by
    obtain ⟨y, ys, rfl, i1, i2⟩ := i.cons
    obtain ⟨prs, rfl, rfl, hq⟩ := isall_rows i2
    obtain ⟨p, zs, rfl, _, e, i3⟩ := i1.lst
    rw [isall_ints] at i3
    subst i3
    refine ⟨(.ref p, r) :: prs, rfl, rfl, fun q hm => ?_⟩
    rcases List.mem_cons.mp hm with rfl | hm
    · exact sq_lst e
    · exact hq q hm
theorem Is.gs {X : List Nat} {h : Heap} {rs : List (List Int)} {v : Val} (i : Is X h (LL rs) v) : Gs h v rs := by
  obtain ⟨p, xs, rfl, _, e, i2⟩ := i.lst
  obtain ⟨prs, rfl, e2, hq⟩ := isall_rows i2
  exact ⟨prs, sv_lst e, e2, hq⟩
/-- a new list of new lists: they stand from b on, each by itself -/
structure Nst (b : Nat) (h : Heap) (p : Nat) (prs : List (Nat × List Int)) : Prop where
  at_ : h[p]? = some (.lst (prs.map fun q => .ref q.1))
  bp : b ≤ p
  own : ∀ q ∈ prs, q.1 ≠ p
  nd : (prs.map (·.1)).Nodup
  lo : ∀ q ∈ prs, b ≤ q.1
  row : ∀ q ∈ prs, h[q.1]? = some (.lst (q.2.map .int))
theorem Nst.fr {b : Nat} {h h' : Heap} {p : Nat} {prs : List (Nat × List Int)} (s : Nst b h p prs) (f : Fr h h') : Nst b h' p prs := ⟨f.at s.at_, s.bp, s.own, s.nd, s.lo, fun q hq => f.at (s.row q hq)⟩
theorem isall_nst {h : Heap} : ∀ {prs : List (Nat × List Int)}, (∀ q ∈ prs, h[q.1]? = some (.lst (q.2.map .int))) → IsAll [] h (prs.map fun q => PyData.list (q.2.map .int)) (prs.map fun q => .ref q.1)
  | [], _ => isall_nil
  | q :: prs, hr => isall_cons (is_ints (by simp) (hr q (List.mem_cons_self ..))) (isall_nst fun x hx => hr x (List.mem_cons_of_mem _ hx))
theorem Nst.is {b : Nat} {h : Heap} {p : Nat} {prs : List (Nat × List Int)} (s : Nst b h p prs) : Is [] h (LL (prs.map (·.2))) (.ref p) := by
  have := isall_nst s.row
  refine is_lst (by simp) s.at_ ?_
  rw [List.map_map]
  exact this
/-- one of the rows is written -/
theorem Nst.put {b : Nat} {h h' : Heap} {p m : Nat} {prs : List (Nat × List Int)} {r : List Int} (s : Nst b h p prs) (f : Fx1 m h h') (hm : m ≠ p) (e : h'[m]? = some (.lst (r.map .int))) :
    Nst b h' p (prs.map fun q => if q.1 = m then (q.1, r) else q) := by
  have k1 : (prs.map fun q => if q.1 = m then (q.1, r) else q).map (·.1) = prs.map (·.1) := by
    rw [List.map_map]
    refine List.map_congr_left fun q _ => ?_
    show (if q.1 = m then (q.1, r) else q).1 = q.1
    split <;> rfl
  have k2 : (prs.map fun q => if q.1 = m then (q.1, r) else q).map (fun q => Val.ref q.1) = prs.map fun q => Val.ref q.1 := by
    rw [List.map_map]
    refine List.map_congr_left fun q _ => ?_
    show Val.ref (if q.1 = m then (q.1, r) else q).1 = Val.ref q.1
    split <;> rfl
  have k3 : ∀ q ∈ prs.map (fun q => if q.1 = m then (q.1, r) else q), ∃ q0 ∈ prs, q.1 = q0.1 ∧ (if q0.1 = m then q.2 = r else q.2 = q0.2) := by
    intro q hq
    obtain ⟨q0, h0, rfl⟩ := List.mem_map.mp hq
    refine ⟨q0, h0, ?_, ?_⟩
    · split <;> rfl
    · by_cases z : q0.1 = m <;> simp [z]
  refine ⟨?_, s.bp, fun q hq => ?_, by rw [k1]; exact s.nd, fun q hq => ?_, fun q hq => ?_⟩
  · rw [k2]
    exact f.at s.at_ hm.symm
  · obtain ⟨q0, h0, e0, _⟩ := k3 q hq
    rw [e0]
    exact s.own q0 h0
  · obtain ⟨q0, h0, e0, _⟩ := k3 q hq
    rw [e0]
    exact s.lo q0 h0
  · obtain ⟨q0, h0, e0, e1⟩ := k3 q hq
    rw [e0]
    split at e1
    · rename_i z
      rw [z, e1]
      exact e
    · rename_i z
      rw [e1]
      exact f.at (s.row q0 h0) z
theorem okd_rows {rs : List (List Int)} {k m n : Nat} (hk : 0 < k) (h2 : k ≤ 500) (hl : ∀ r ∈ rs, r.length ≤ m) (hn : rs.length ≤ n) (h : ∀ r ∈ rs, ∀ x ∈ r, x.natAbs < 10 ^ k) : Okd (LL rs) 2 (n * (m * (k + 3) + 2 + 2) + 2) := by
  refine (okd_list (ds := rs.map fun r => .list (r.map .int)) (n := 1) (w := m * (k + 3) + 2) fun d hd => ?_).up (Nat.le_refl _) ?_
  · obtain ⟨r, hr, rfl⟩ := List.mem_map.mp hd
    exact okd_ints hk h2 (hl r hr) (h r hr)
  · rw [List.length_map]
    have := Nat.mul_le_mul_right (m * (k + 3) + 2 + 2) hn
    omega
end Mi


/-! # Mi13: lists of data of a kind -/
namespace Mi
open PySem (Str PyData)
/-- a list, its items data of a kind, nothing in X read -/
def Lo (X : List Nat) (h : Heap) (P : PyData → Prop) (v : Val) (xs : List Val) : Prop := ∃ p, v = .ref p ∧ p ∉ X ∧ h[p]? = some (.lst xs) ∧ ∀ x ∈ xs, ∃ d, P d ∧ Is X h d x
def Ab (X : List Nat) (h : Heap) : Prop := ∀ n ∈ X, n < h.length
section
variable {X : List Nat} {h h' : Heap} {P : PyData → Prop} {v w : Val} {xs ys : List Val} {Q : RQ Val} {E : RE}
theorem Ab.fr (a : Ab X h) (f : Fr h h') : Ab X h' := fun n hn => Nat.lt_of_lt_of_le (a n hn) f.len
theorem Ab.fo {Y : List Nat} (a : Ab X h) (f : Fo Y h h') : Ab X h' := fun n hn => Nat.lt_of_lt_of_le (a n hn) f.len
theorem Ab.no (a : Ab X h) {m : Nat} (hm : h.length ≤ m) : m ∉ X := fun z => by have := a m z; omega
theorem Lo.fo (l : Lo X h P v xs) (f : Fo X h h') : Lo X h' P v xs := by
  obtain ⟨p, e, hp, e1, hx⟩ := l
  exact ⟨p, e, hp, f.at e1 hp, fun x z => by obtain ⟨d, h1, h2⟩ := hx x z; exact ⟨d, h1, h2.fo f⟩⟩
theorem Lo.fr (l : Lo X h P v xs) (f : Fr h h') : Lo X h' P v xs := l.fo (Fo.of f)
theorem Lo.imp {P' : PyData → Prop} (l : Lo X h P v xs) (f : ∀ d, P d → P' d) : Lo X h P' v xs := by
  obtain ⟨p, e, hp, e1, hx⟩ := l
  exact ⟨p, e, hp, e1, fun x z => by obtain ⟨d, h1, h2⟩ := hx x z; exact ⟨d, f d h1, h2⟩⟩
theorem isall_some : ∀ {xs : List Val}, (∀ x ∈ xs, ∃ d, P d ∧ Is X h d x) → ∃ ds, IsAll X h ds xs ∧ ∀ d ∈ ds, P d
  | [], _ => ⟨[], isall_nil, by simp⟩
  | x :: xs, hx => by
    obtain ⟨d, h1, h2⟩ := hx x (List.mem_cons_self ..)
    obtain ⟨ds, h3, h4⟩ := isall_some (xs := xs) fun y z => hx y (List.mem_cons_of_mem _ z)
    refine ⟨d :: ds, isall_cons h2 h3, fun e he => ?_⟩
    rcases List.mem_cons.mp he with rfl | he
    · exact h1
    · exact h4 e he
theorem Lo.is (l : Lo X h P v xs) : ∃ ds, Is X h (.list ds) v ∧ ds.length = xs.length ∧ ∀ d ∈ ds, P d := by
  obtain ⟨p, rfl, hp, e1, hx⟩ := l
  obtain ⟨ds, h1, h2⟩ := isall_some hx
  exact ⟨ds, is_lst hp e1 h1, h1.length.symm, h2⟩
theorem lo_new (a : Ab X h) (hx : ∀ x ∈ xs, ∃ d, P d ∧ Is X h d x) (Z : ∀ p h', Lo X h' P (.ref p) xs → h'[p]? = some (.lst xs) → p = h.length → Fr h h' → Q (.ref p) h') : (new (.lst xs) h).sat Q E := by
  refine sat_new fun p h1 e1 el1 l1 F1 => Z p h1 ⟨p, rfl, a.no (by omega), e1, fun x z => ?_⟩ e1 el1 F1
  obtain ⟨d, h2, h3⟩ := hx x z
  exact ⟨d, h2, h3.fr F1⟩
theorem Lo.mem (l : Lo X h P v xs) {x : Val} (hx : x ∈ xs) : ∃ d, P d ∧ Is X h d x := by
  obtain ⟨p, _, _, _, h1⟩ := l
  exact h1 x hx
theorem Lo.slc (a : Ab X h) (l : Lo X h P v xs) {lo hi : Option Int} (Z : ∀ v' h', Lo X h' P v' ((xs.drop (HT.sIx xs.length 0 lo)).take (HT.sIx xs.length xs.length hi - HT.sIx xs.length 0 lo)) → Fr h h' → Q v' h') : (slcV v lo hi h).sat Q E := by
  have hm := fun x hx => l.mem (x := x) hx
  obtain ⟨p, rfl, hp, e1, hx⟩ := l
  unfold slcV
  dsimp only
  rw [e1]
  dsimp only
  exact lo_new a (fun x z => hm x (List.mem_of_mem_drop (List.mem_of_mem_take z))) fun p h' l' _ _ F => Z _ h' l' F
theorem Lo.add (a : Ab X h) (l : Lo X h P v xs) (l' : Lo X h P w ys) (hs : xs.length + ys.length ≤ 16777216) (Z : ∀ v' h', Lo X h' P v' (xs ++ ys) → Fr h h' → Q v' h') : (bop .add v w h).sat Q E := by
  have m1 := fun x hx => l.mem (x := x) hx
  have m2 := fun x hx => l'.mem (x := x) hx
  obtain ⟨p, rfl, hp, e1, hx⟩ := l
  obtain ⟨q, rfl, hq, e2, hy⟩ := l'
  rw [add_lst e1 e2, if_pos hs]
  refine lo_new a (fun x z => ?_) fun p h' l' _ _ F => Z _ h' l' F
  rcases List.mem_append.mp z with z | z
  · exact m1 x z
  · exact m2 x z
theorem Lo.len {g : G} (l : Lo X h P v xs) : Mi.pri g .len [v] h = .ok (.int xs.length) h := by
  obtain ⟨p, rfl, hp, e1, hx⟩ := l
  exact len_lst e1
theorem Lo.ix {g : G} {i : Int} (l : Lo X h P v xs) (h0 : 0 ≤ i) (h1 : i < xs.length) (Z : ∀ x d, x ∈ xs → xs[i.toNat]? = some x → P d → Is X h d x → Q x h) : (idxV g v (.int i) h).sat Q E := by
  have m1 := fun x hx => l.mem (x := x) hx
  obtain ⟨p, rfl, hp, e1, hx⟩ := l
  rw [ix_lst e1]
  refine sat_at h0 h1 fun x hx e => ?_
  obtain ⟨d, h2, h3⟩ := m1 x hx
  exact Z x d hx e h2 h3
theorem Lo.list {g : G} (a : Ab X h) (l : Lo X h P v xs) (Z : ∀ p h', Lo X h' P (.ref p) xs → h'[p]? = some (.lst xs) → p = h.length → Fr h h' → Q (.ref p) h') : (Mi.pri g .list [v] h).sat Q E := by
  have m1 := fun x hx => l.mem (x := x) hx
  obtain ⟨p, rfl, hp, e1, hx⟩ := l
  have : Mi.pri g .list [.ref p] h = new (.lst xs) h := by simp [Mi.pri, seqO, e1]
  rw [this]
  exact lo_new a m1 Z
theorem Lo.rev (a : Ab X h) (l : Lo X h P v xs) (Z : ∀ v' h', Lo X h' P v' xs.reverse → Fr h h' → Q v' h') : (revV v h).sat Q E := by
  have m1 := fun x hx => l.mem (x := x) hx
  obtain ⟨p, rfl, hp, e1, hx⟩ := l
  have : revV (.ref p) h = new (.lst xs.reverse) h := by simp [revV, lstO, e1]
  rw [this]
  exact lo_new a (fun x z => m1 x (List.mem_reverse.mp z)) fun p h' l' _ _ F => Z _ h' l' F
theorem Lo.tuple {g : G} (a : Ab X h) (l : Lo X h P v xs) (Z : ∀ v' h' ds, Is X h' (.tuple ds) v' → ds.length = xs.length → (∀ d ∈ ds, P d) → Fr h h' → Q v' h') : (Mi.pri g .tuple [v] h).sat Q E := by
  have m1 := fun x hx => l.mem (x := x) hx
  obtain ⟨p, rfl, hp, e1, hx⟩ := l
  refine lst_tuple e1 fun q h' e2 el l2 F => ?_
  obtain ⟨ds, h1, h2⟩ := isall_some m1
  exact Z _ h' ds (is_tup (a.no (by omega)) e2 (h1.fr F)) h1.length.symm h2 F
theorem eqv_nilD {ds : List PyData} : PyData.eqv (.list ds) (.list []) = ds.isEmpty := by cases ds <;> rfl
theorem Lo.isnil (l : Lo X h P v xs) {n w q : Nat} (hP : ∀ d, P d → Okd d n w) (hn : n ≤ 59) (e : h[q]? = some (.lst [])) : bop .eq v (.ref q) h = .ok (.bl xs.isEmpty) h := by
  obtain ⟨ds, i, hl, hd⟩ := l.is
  rw [bop_eq_is i (is_lst (X := []) (by simp) e isall_nil) (okd_list fun d z => hP d (hd d z)) (okd_list (ds := []) (n := 0) (w := 0) (by simp)) (by omega) (by decide), eqv_nilD]
  cases ds with
  | nil => cases xs with
    | nil => rfl
    | cons => cases hl
  | cons => cases xs with
    | nil => cases hl
    | cons => rfl
theorem Lo.nonil (l : Lo X h P v xs) {n w q : Nat} (hP : ∀ d, P d → Okd d n w) (hn : n ≤ 59) (e : h[q]? = some (.lst [])) : bop .ne v (.ref q) h = .ok (.bl (!xs.isEmpty)) h := by
  obtain ⟨ds, i, hl, hd⟩ := l.is
  rw [bop_ne_is i (is_lst (X := []) (by simp) e isall_nil) (okd_list fun d z => hP d (hd d z)) (okd_list (ds := []) (n := 0) (w := 0) (by simp)) (by omega) (by decide), eqv_nilD]
  cases ds with
  | nil => cases xs with
    | nil => rfl
    | cons => cases hl
  | cons => cases xs with
    | nil => cases hl
    | cons => rfl
theorem Nst.asLo {b p : Nat} {ps : List (Nat × List Int)} (s : Nst b h p ps) (hX : ∀ x ∈ X, x < b) (hP : ∀ q ∈ ps, P (.list (q.2.map .int))) : Lo X h P (.ref p) (ps.map fun q => .ref q.1) := by
  refine ⟨p, rfl, fun z => by have := hX p z; have := s.bp; omega, s.at_, fun x hx => ?_⟩
  obtain ⟨q, hq, rfl⟩ := List.mem_map.mp hx
  exact ⟨_, hP q hq, is_ints (fun z => by have := hX _ z; have := s.lo q hq; omega) (s.row q hq)⟩
/-- a swap of two items -/
theorem two_tup {p : Nat} {x y : Val} (e : h[p]? = some (.tup [x, y])) : twoV (.ref p) h = .ok (x, y) h := by simp [twoV, e]
end
end Mi


/-! # Mi14: the same language over data, with no heap: what a def gives that writes only into lists of its own (and into the box) -/
namespace Mi
open PySem (Str PyData)
inductive VV where
  | d (x : PyData) | box | scr
abbrev VSl := List (Option VV)
/-- the box: its numbers, and how often it was asked at most -/
structure BS where
  x : Int
  y : Int
  z : Int
  n : Nat
  hx : 0 ≤ x
  hy : 0 ≤ y ∧ y < 2147483629
  hz : 0 ≤ z ∧ z ≤ n
abbrev VS := Option BS
inductive Vr (α : Type) where
  | ok (a : α) (s : VS) | exc (c : Nat) (fs : List (Str × PyData)) (s : VS) | bad
def Vr.bind {α β : Type} (r : Vr α) (f : α → VS → Vr β) : Vr β :=
  match r with
  | .ok a s => f a s
  | .exc c fs s => .exc c fs s
  | .bad => .bad
def ofD {α : Type} (o : Option α) (s : VS) : Vr α :=
  match o with
  | some a => .ok a s
  | none => .bad
/-! ## operators -/
def cstD : Val → Option PyData
  | .non => some .none
  | .bl b => some (.bool b)
  | .int i => some (.int i)
  | .str x => some (.str x)
  | _ => none
def shd (d : PyData) : Bool := d.canLay0 && decide (d.depth ≤ 60)
def vtru : PyData → Option Bool
  | .none => some false
  | .bool b => some b
  | .int i => some (i != 0)
  | .str x => if x.length ≤ SL then some ((x.length : Int) != 0) else none
  | .list xs => some (!xs.isEmpty)
  | .tuple xs => some (!xs.isEmpty)
  | .dict xs => some (!xs.isEmpty)
def vadd : PyData → PyData → Option PyData
  | .int i, .int j => some (.int (i + j))
  | .str a, .str b => if a.length + b.length ≤ SL then some (.str (a ++ b)) else none
  | .list xs, .list ys => if xs.length + ys.length ≤ SL then some (.list (xs ++ ys)) else none
  | .tuple xs, .tuple ys => if xs.length + ys.length ≤ SL then some (.tuple (xs ++ ys)) else none
  | _, _ => none
def vsub : PyData → PyData → Option PyData
  | .int i, .int j => some (.int (i - j))
  | _, _ => none
def vmul : PyData → PyData → Option PyData
  | .int i, .int j => if (-(2 ^ 64) < i ∧ i < 2 ^ 64) ∨ (-(2 ^ 64) < j ∧ j < 2 ^ 64) then some (.int (i * j)) else none
  | .list xs, .int k => if -(2 ^ 63) ≤ k ∧ k < 2 ^ 63 ∧ xs.length * k.toNat ≤ SL then some (.list (List.replicate k.toNat xs).flatten) else none
  | .str a, .int k => if -(2 ^ 63) ≤ k ∧ k < 2 ^ 63 ∧ a.length * k.toNat ≤ SL then some (.str (repS a k)) else none
  | _, _ => none
def vfdiv : PyData → PyData → Option PyData
  | .int i, .int j => if 0 < j ∧ j < 1073741824 then some (.int (i / j)) else none
  | _, _ => none
def vmod : PyData → PyData → Option PyData
  | .int i, .int j => if 0 < j then some (.int (i % j)) else none
  | _, _ => none
def vpow : PyData → PyData → Option PyData
  | .int i, .int j => if 0 ≤ j ∧ j ≤ 1000000 ∧ i.natAbs < 2 ^ 64 then some (.int (i ^ j.toNat)) else none
  | _, _ => none
def veq (d e : PyData) : Option Bool :=
  match d, e with
  | .int i, .int j => some (decide (i = j))
  | .str a, .str b => some (decide (a = b))
  | .bool a, .bool b => some (decide (a = b))
  | d, e => if shd d = true ∧ shd e = true then some (PyData.eqv d e) else none
def vltA : PyData → PyData → Option Bool
  | .int i, .int j => some (decide (i < j))
  | .str a, .str b => some (decide (a.cps.toList < b.cps.toList))
  | _, _ => none
def vlt (d e : PyData) : Option Bool :=
  match vltA d e with
  | some b => some b
  | none => if isSqD d = true ∧ isSqD e = true ∧ shd d = true ∧ shd e = true ∧ PySem.W.alike d e = true then some (PySem.W.dataLt d e) else none
def vle : PyData → PyData → Option Bool
  | .int i, .int j => some (decide (i ≤ j))
  | .str a, .str b => some (!decide (b.cps.toList < a.cps.toList))
  | _, _ => none
def vis (d e : PyData) : Option Bool :=
  match e with
  | .none => some (match d with | .none => true | _ => false)
  | .bool b => some (match d with | .bool a => decide (a = b) | _ => false)
  | _ => none
def flatD : PyData → Bool
  | .none => true | .bool _ => true | .int _ => true | .str _ => true
  | _ => false
def keyO : PyData → Option Key
  | .int i => some (.inl i)
  | .str x => some (.inr x)
  | _ => none
def vgetK (kvs : List (PyData × PyData)) (k : Key) : Option PyData := (kvs.find? fun kv => decide (keyO kv.1 = some k)).map (·.2)
def vputK (kvs : List (PyData × PyData)) (k : Key) (v : PyData) : List (PyData × PyData) :=
  if (kvs.any fun kv => decide (keyO kv.1 = some k)) = true then kvs.map (fun kv => if keyO kv.1 = some k then (kv.1, v) else kv) else kvs ++ [(keyD k, v)]
def vin (x y : PyData) : Option Bool :=
  match y with
  | .str z => (match x with
    | .str w => (match w.cps.toList with
      | [c] => some (decide (c ∈ z.cps.toList))
      | _ => none)
    | _ => none)
  | .list xs => if (flatD x = true ∧ xs.all flatD = true) ∨ (shd x = true ∧ shd (.list xs) = true) then some (xs.any fun y => PyData.eqv y x) else none
  | .tuple xs => if flatD x = true ∧ xs.all flatD = true then some (xs.any fun y => PyData.eqv y x) else none
  | .dict kvs => (match keyO x with
    | some k => some (vgetK kvs k).isSome
    | none => none)
  | _ => none
def vop (o : Op) (x y : PyData) : Option PyData :=
  match o with
  | .add => vadd x y
  | .sub => vsub x y
  | .mul => vmul x y
  | .fdiv => vfdiv x y
  | .mod => vmod x y
  | .pow => vpow x y
  | .eq => (veq x y).map .bool
  | .ne => (veq x y).map fun b => .bool (!b)
  | .lt => (vlt x y).map .bool
  | .le => (vle x y).map .bool
  | .gt => (vltA y x).map .bool
  | .ge => (vle y x).map .bool
  | .is => (vis x y).map .bool
  | .isnot => (vis x y).map fun b => .bool (!b)
  | .in_ => (vin x y).map .bool
  | .notin => (vin x y).map fun b => .bool (!b)
def vaop (o : Op) (x y : PyData) : Option PyData :=
  match o, x, y with
  | .add, .int i, .int j => some (.int (i + j))
  | .sub, .int i, .int j => some (.int (i - j))
  | .add, .str a, .str b => if a.length + b.length ≤ SL then some (.str (a ++ b)) else none
  | _, _, _ => none
def vidx (x y : PyData) : Option PyData :=
  match x, y with
  | .str z, .int i => if z.length ≤ SL then (L2.atI z.cps.toList i).map fun c => .str ⟨#[c]⟩ else none
  | .list xs, .int i => L2.atI xs i
  | .tuple xs, .int i => L2.atI xs i
  | .dict kvs, y => (keyO y).bind (vgetK kvs)
  | _, _ => none
def cutP (xs : List PyData) (lo hi : Option Int) : List PyData := (xs.drop (HT.sIx xs.length 0 lo)).take (HT.sIx xs.length xs.length hi - HT.sIx xs.length 0 lo)
def vslc (x : PyData) (lo hi : Option Int) : Option PyData :=
  match x with
  | .str z => if z.length ≤ SL then some (.str (L2.cutS z lo hi)) else none
  | .list xs => some (.list (cutP xs lo hi))
  | .tuple xs => some (.tuple (cutP xs lo hi))
  | _ => none
/-! ## built-in functions, methods -/
def vints : List PyData → Option (List Int)
  | [] => some []
  | .int i :: r => (vints r).map (i :: ·)
  | _ => none
def vbls : List PyData → Option (List Bool)
  | [] => some []
  | .bool i :: r => (vbls r).map (i :: ·)
  | _ => none
def vstrs : List PyData → Option (List Str)
  | [] => some []
  | .str i :: r => (vstrs r).map (i :: ·)
  | _ => none
def seqD : PyData → Option (List PyData)
  | .list xs => some xs
  | .tuple xs => some xs
  | _ => none
def lstD : PyData → Option (List PyData)
  | .list xs => some xs
  | _ => none
def tyD : PyData → String
  | .none => "NoneType" | .bool _ => "bool" | .int _ => "int" | .str _ => "str" | .list _ => "list" | .tuple _ => "tuple" | .dict _ => "dict"
def vlen : PyData → Option Nat
  | .str z => if z.length ≤ SL then some z.length else none
  | .list xs => some xs.length
  | .tuple xs => some xs.length
  | .dict xs => some xs.length
  | _ => none
def vmax (f : Int → Int → Int) (fl : List Int → Int) : List PyData → Option PyData
  | [.int i, .int j] => some (.int (f i j))
  | [x] => (match (seqD x).bind vints with
    | some ns => if 0 < ns.length then some (.int (fl ns)) else none
    | none => none)
  | _ => none
def vpri (p : Pr) (vs : List PyData) : Option PyData :=
  match p with
  | .len => (match vs with
    | [x] => (vlen x).map fun (n : Nat) => PyData.int (n : Int)
    | _ => none)
  | .max => vmax (fun i j => if j > i then j else i) maxL vs
  | .min => vmax (fun i j => if j < i then j else i) minL vs
  | .sum => (match vs with
    | [x] => ((seqD x).bind vints).map fun ns => .int ns.sum
    | _ => none)
  | .all => (match vs with
    | [x] => ((lstD x).bind vbls).map fun ns => .bool (ns.all id)
    | _ => none)
  | .any => (match vs with
    | [x] => ((lstD x).bind vbls).map fun ns => .bool (ns.any id)
    | _ => none)
  | .int => (match vs with
    | [.int i] => some (.int i)
    | [.bool b] => some (.int (if b then 1 else 0))
    | [.str x] => if x.length ≤ 640 then (PySem.intText? x).map .int else none
    | _ => none)
  | .str => (match vs with
    | [.int i] => if i.natAbs.log2 < 1920 then some (.str (Str.ofString (toString i))) else none
    | [.str x] => some (.str x)
    | _ => none)
  | .bool => (match vs with
    | [.int i] => some (.bool (i != 0))
    | [.bool b] => some (.bool b)
    | _ => none)
  | .list => (match vs with
    | [x] => (seqD x).map .list
    | _ => none)
  | .tuple => (match vs with
    | [x] => (seqD x).map .tuple
    | _ => none)
  | .isinst => none
  | .divmod => (match vs with
    | [.int i, .int j] => if 0 < j ∧ j < 1073741824 then some (.tuple [.int (i / j), .int (i % j)]) else none
    | _ => none)
  | .repr => (match vs with
    | [d] => if d.showable = true ∧ d.depth ≤ 60 ∧ d.shown.length ≤ SL then some (.str d.shown) else none
    | _ => none)
def vmet (m : Me) (x : PyData) (vs : List PyData) : Option PyData :=
  match m, x, vs with
  | .join, .str a, [y] => (match (seqD y).bind vstrs with
    | some ys => if (ys.map (·.length)).sum + ys.length * a.length ≤ SL then some (.str (PySem.Txt.join a ys)) else none
    | none => none)
  | .split, .str a, [.str b] => if (b.length == 0) = false ∧ a.length + 2 ≤ SL then some (.list ((PySem.Txt.split a b).map .str)) else none
  | .sindex, .str a, [.str b] => (match PySem.Builtin.Str.occurrences a b 0 a.length 1 with
    | i :: _ => some (.int (i : Nat))
    | [] => none)
  | .count, .list xs, [.int k] => (vints xs).map fun ns => PyData.int (ns.count k : Nat)
  | _, _, _ => none
/-- a list's own change -/
def vmut (m : Me) (x : PyData) (vs : List PyData) : Option PyData :=
  match m, x, vs with
  | .append, .list xs, [y] => if xs.length < SL then some (.list (xs ++ [y])) else none
  | .insert, .list xs, [.int i, y] => if xs.length < SL ∧ 0 ≤ i ∧ i < 2 ^ 63 then some (.list (xs.take i.toNat ++ [y] ++ xs.drop i.toNat)) else none
  | .clear, .list _, [] => some (.list [])
  | .extend, .list xs, [.list ys] => if xs.length + ys.length ≤ SL then some (.list (xs ++ ys)) else none
  | _, _, _ => none
def vrcv (m : Me) (x : PyData) : Bool :=
  match m, x with
  | .join, .str _ => true
  | .split, .str _ => true
  | .sindex, .str _ => true
  | .count, .list _ => true
  | _, _ => false
def isMut : Me → Bool
  | .append => true | .insert => true | .clear => true | .extend => true
  | _ => false
def vset (o i v : PyData) : Option PyData :=
  match o, i with
  | .list xs, .int k => (L2.ixN xs.length k).map fun j => .list (xs.set j v)
  | .dict kvs, i => (match keyO i with
    | some k => if kvs.length < SL then some (.dict (vputK kvs k v)) else none
    | none => none)
  | _, _ => none
/-! ## loops' sources, targets -/
def vrng (lo : Int) : Nat → List PyData
  | 0 => []
  | n + 1 => .int lo :: vrng (lo + 1) n
def vpair : List PyData → List PyData → List PyData
  | x :: xs, y :: ys => .tuple [x, y] :: vpair xs ys
  | _, _ => []
def vtrip : List PyData → List PyData → List PyData → List PyData
  | x :: xs, y :: ys, z :: zs => .tuple [x, y, z] :: vtrip xs ys zs
  | _, _, _ => []
def vlz (vs : List PyData) : Option PyData :=
  match vs with
  | [x, y] => (match seqD x, seqD y with
    | some xs, some ys => some (.list (vpair xs ys))
    | _, _ => none)
  | _ => none
def venum : Nat → List PyData → List PyData
  | n, x :: xs => .tuple [.int n, x] :: venum (n + 1) xs
  | _, [] => []
def vsrc (s : Src) (vs : List PyData) : Option (List PyData) :=
  match s with
  | .val => (match vs with
    | [.str z] => some (z.cps.toList.map fun c => .str ⟨#[c]⟩)
    | [x] => seqD x
    | _ => none)
  | .rng1 => (match vs with
    | [.int j] => if -(2 ^ 62) ≤ j ∧ j < 2 ^ 62 then some (vrng 0 j.toNat) else none
    | _ => none)
  | .rng2 => (match vs with
    | [.int i, .int j] => if -(2 ^ 62) ≤ i ∧ i < 2 ^ 62 ∧ -(2 ^ 62) ≤ j ∧ j < 2 ^ 62 then some (vrng i (j - i).toNat) else none
    | _ => none)
  | .enum => (match vs with
    | [.list xs] => some (venum 0 xs)
    | _ => none)
  | .zip => (match vs with
    | [x, y] => (match seqD x, seqD y with
      | some xs, some ys => some (vpair xs ys)
      | _, _ => none)
    | _ => none)
  | .zip3 => (match vs with
    | [x, y, z] => (match seqD x, seqD y, seqD z with
      | some xs, some ys, some zs => some (vtrip xs ys zs)
      | _, _, _ => none)
    | _ => none)
  | .rev => (match vs with
    | [.list xs] => some xs.reverse
    | _ => none)
def vsetAll (M : List Nat) : List Nat → List PyData → VSl → Option VSl
  | [], [], τ => some τ
  | i :: is, v :: vs, τ => if i ∈ M then none else vsetAll M is vs (τ.set i (some (.d v)))
  | _, _, _ => none
def vtg (M : List Nat) (t : Tg) (v : PyData) (τ : VSl) : Option VSl :=
  match t with
  | .nm i => if i ∈ M then none else some (τ.set i (some (.d v)))
  | .tp is => (match seqD v with
    | some vs => vsetAll M is vs τ
    | none => none)
def vwipe (τ : VSl) : List Nat → VSl
  | [] => τ
  | v :: vs => (vwipe τ vs).set v none
def vlc (M : List Nat) (t : Tg) (c : VSl → VS → Vr Bool) (e : VSl → VS → Vr PyData) (τ : VSl) : List PyData → List PyData → VS → Vr (List PyData)
  | [], acc, s => .ok acc s
  | i :: is, acc, s => match vtg M t i τ with
    | none => .bad
    | some τ' => match c τ' s with
      | .ok true s1 => (match e τ' s1 with
        | .ok v s2 => if acc.length < SL then vlc M t c e τ is (acc ++ [v]) s2 else .bad
        | _ => .bad)
      | .ok false s1 => vlc M t c e τ is acc s1
      | _ => .bad
/-! ## expressions -/
def vchK (k : PyData) (s : VS) (f : VS → Vr PyData) : Vr PyData :=
  match k with
  | .bool true => f s
  | .bool false => .ok (.bool false) s
  | _ => .bad
/-- how a value may go on: kept apart from the lists that are written, read at once, or given out -/
inductive Md where
  | st | rd | es
  deriving DecidableEq
def Md.in_ : Md → Md
  | .es => .es
  | _ => .st
structure VG where
  call : Nat → List VV → VS → Vr PyData
  glob : Nat → Option Val
  M : List Nat
  fr : Nat → Bool
  fret : Bool
def boxO (τ : VSl) : Ex → Bool
  | .var i => (match τ[i]? with
    | some (some .box) => true
    | _ => false)
  | _ => false
def anyM (M : List Nat) : Exs → Bool
  | .nil => false
  | .cons (.var i) es => decide (i ∈ M) || anyM M es
  | .cons _ es => anyM M es
def tyEs : Exs → Option (List String)
  | .nil => some []
  | .cons (.cst (.ty t)) es => if okTy t then (tyEs es).map (t :: ·) else none
  | _ => none
def tyE : Ex → Option (List String)
  | .cst (.ty t) => if okTy t then some [t] else none
  | .tup es => (tyEs es).bind fun ts => if ts.length ≤ 10 then some ts else none
  | _ => none
def vkvs : List PyData → Option (List (Key × PyData))
  | [] => some []
  | k :: v :: r => match keyO k, vkvs r with
    | some k, some r => some ((k, v) :: r)
    | _, _ => none
  | _ => none
def vinr (neg : Bool) (x : PyData) (vs : List PyData) : Option PyData :=
  match x, vs with
  | .int i, [.int j] => some (.bool (xor neg (decide (0 ≤ i ∧ i < j))))
  | .int i, [.int l, .int j] => some (.bool (xor neg (decide (l ≤ i ∧ i < j))))
  | _, _ => none
def vneg : PyData → Option PyData
  | .int i => some (.int (-i))
  | _ => none
def vintO : PyData → Option (Option Int)
  | .int i => some (some i)
  | _ => none
mutual
def vden (g : VG) : Md → Ex → VSl → VS → Vr PyData
  | md, .var i, τ, s => if md = .st ∧ i ∈ g.M then .bad else (match τ[i]? with
    | some (some (.d v)) => .ok v s
    | _ => .bad)
  | _, .cst v, _, s => ofD (cstD v) s
  | _, .glb x, _, s => ofD ((g.glob x).bind cstD) s
  | _, .bin o a b, τ, s => (vden g .rd a τ s).bind fun x s => (vden g .rd b τ s).bind fun y s => ofD (vop o x y) s
  | _, .neg a, τ, s => (vden g .rd a τ s).bind fun x s => ofD (vneg x) s
  | _, .not a, τ, s => (vden g .rd a τ s).bind fun x s => (ofD (vtru x) s).bind fun b s => .ok (.bool (!b)) s
  | md, .and a b, τ, s => (vden g md a τ s).bind fun x s => (ofD (vtru x) s).bind fun t s => if t then vden g md b τ s else .ok x s
  | md, .or a b, τ, s => (vden g md a τ s).bind fun x s => (ofD (vtru x) s).bind fun t s => if t then .ok x s else vden g md b τ s
  | _, .chn o p a b c, τ, s => (vden g .rd a τ s).bind fun x s => (vden g .rd b τ s).bind fun y s => (ofD (vop o x y) s).bind fun k s =>
    (match k with
    | .bool true => (vden g .rd c τ s).bind fun z s => ofD (vop p y z) s
    | .bool false => .ok (.bool false) s
    | _ => .bad)
  | _, .ch3 o p q a b c d, τ, s => (vden g .rd a τ s).bind fun x s => (vden g .rd b τ s).bind fun y s => (ofD (vop o x y) s).bind fun k s => vchK k s fun s =>
    (vden g .rd c τ s).bind fun z s => (ofD (vop p y z) s).bind fun k s => vchK k s fun s => (vden g .rd d τ s).bind fun w s => ofD (vop q z w) s
  | md, .ite c a b, τ, s => (vden g .rd c τ s).bind fun x s => (ofD (vtru x) s).bind fun t s => if t then vden g md a τ s else vden g md b τ s
  | md, .lst es, τ, s => (vdens g md.in_ es τ s).bind fun vs s => if vs.length ≤ SL then .ok (.list vs) s else .bad
  | md, .tup es, τ, s => (vdens g md.in_ es τ s).bind fun vs s => if vs.length ≤ SL then .ok (.tuple vs) s else .bad
  | _, .dnew, _, s => .ok (.dict []) s
  | _, .dic es, τ, s => (vdens g .st es τ s).bind fun vs s => (match vkvs vs with
    | some kvs => if kvs.length ≤ 15 then .ok (.dict (kvs.foldl (fun acc kv => vputK acc kv.1 kv.2) [])) s else .bad
    | none => .bad)
  | _, .idx a i, τ, s => (vden g .rd a τ s).bind fun x s => (vden g .rd i τ s).bind fun y s => ofD (vidx x y) s
  | _, .slc a lo hi, τ, s => (vden g .rd a τ s).bind fun x s => (vdeno g lo τ s).bind fun l s => (vdeno g hi τ s).bind fun u s => ofD (vslc x l u) s
  | _, .rev a, τ, s => (vden g .rd a τ s).bind fun x s => ofD ((lstD x).map fun xs => .list xs.reverse) s
  | _, .efl _ _, _, _ => .bad
  | _, .inr neg a es, τ, s => (vden g .rd a τ s).bind fun x s => (vdens g .rd es τ s).bind fun vs s => ofD (vinr neg x vs) s
  | _, .cal f es, τ, s => if anyM g.M es then (vargs g .es es τ s).bind fun vs s => (match g.call f vs s with
      | .ok d s => if flatD d then .ok d s else .bad
      | _ => .bad)
    else (vargs g .st es τ s).bind fun vs s => g.call f vs s
  | _, .pri .isinst (.cons a (.cons t .nil)), τ, s => (match tyE t with
    | some ts => (vden g .rd a τ s).bind fun x s => .ok (.bool (ts.any (isTy (tyD x)))) s
    | none => .bad)
  | _, .pri p es, τ, s => (vdens g .rd es τ s).bind fun vs s => ofD (vpri p vs) s
  | _, .met m o es, τ, s => (vden g .rd o τ s).bind fun x s => if vrcv m x = true then (vdens g .rd es τ s).bind fun vs s => ofD (vmet m x vs) s else .bad
  | _, .lz es, τ, s => (vdens g .rd es τ s).bind fun vs s => ofD (vlz vs) s
  | md, .lc e t sr es own c, τ, s => (vdens g .rd es τ s).bind fun vs s => (ofD (vsrc sr vs) s).bind fun its s => (vlc g.M t (vdenc g c) (vden g md.in_ e) (vwipe τ own) its [] s).bind fun vs s => .ok (.list vs) s
def vdens (g : VG) : Md → Exs → VSl → VS → Vr (List PyData)
  | _, .nil, _, s => .ok [] s
  | md, .cons e es, τ, s => (vden g md e τ s).bind fun v s => (vdens g md es τ s).bind fun vs s => .ok (v :: vs) s
def vargs (g : VG) : Md → Exs → VSl → VS → Vr (List VV)
  | _, .nil, _, s => .ok [] s
  | md, .cons e es, τ, s => if boxO τ e then (vargs g md es τ s).bind fun vs s => .ok (.box :: vs) s
    else (vden g md e τ s).bind fun v s => (vargs g md es τ s).bind fun vs s => .ok (.d v :: vs) s
def vdeno (g : VG) : Exo → VSl → VS → Vr (Option Int)
  | .none, _, s => .ok none s
  | .some e, τ, s => (vden g .rd e τ s).bind fun x s => ofD (vintO x) s
def vdenc (g : VG) : Exo → VSl → VS → Vr Bool
  | .none, _, s => .ok true s
  | .some e, τ, s => (vden g .rd e τ s).bind fun x s => ofD (vtru x) s
end
/-! ## statements -/
inductive VFl where
  | nx (τ : VSl) | rt (v : PyData) | ex (c : Nat) (fs : List (Str × PyData)) (τ : VSl)
def Vr.sb {α : Type} (τ : VSl) (r : Vr α) (f : α → VS → Vr VFl) : Vr VFl :=
  match r with
  | .ok a s => f a s
  | .exc c fs s => .ok (.ex c fs τ) s
  | .bad => .bad
def VFl.go (f : VFl) (s : VS) (k : VSl → VS → Vr VFl) : Vr VFl :=
  match f with
  | .nx τ => k τ s
  | .rt v => .ok (.rt v) s
  | .ex c fs τ => .ok (.ex c fs τ) s
def vloop (M : List Nat) (t : Tg) (b : VSl → VS → Vr VFl) : List PyData → VSl → VS → Vr VFl
  | [], τ, s => .ok (.nx τ) s
  | i :: is, τ, s => match vtg M t i τ with
    | none => .bad
    | some τ' => (b τ' s).bind fun f s => f.go s (vloop M t b is)
def vloopW (c : VSl → VS → Vr Bool) (b : VSl → VS → Vr VFl) : Nat → VSl → VS → Vr VFl
  | 0, _, _ => .bad
  | n + 1, τ, s => (c τ s).sb τ fun t s => if t then (b τ s).bind fun f s => f.go s (vloopW c b n) else .ok (.nx τ) s
/-- what gives something new -/
def isFresh (fr : Nat → Bool) : Ex → Bool
  | .lst _ => true | .lc _ _ _ _ _ _ => true | .rev _ => true | .dnew => true | .dic _ => true | .slc _ _ _ => true | .lz _ => true
  | .bin .add _ _ => true | .bin .mul _ _ => true | .pri .list _ => true
  | .cal f _ => fr f
  | .ite _ a b => isFresh fr a && isFresh fr b
  | _ => false
def isLD : PyData → Bool
  | .list _ => true
  | .dict _ => true
  | _ => false
def isVarM (M : List Nat) : Ex → Bool
  | .var i => decide (i ∈ M)
  | _ => false
def vwrite (g : VG) (m : Me) (i : Nat) (es : Exs) (τ : VSl) (s : VS) : Vr VFl :=
  if i ∈ g.M then (match τ[i]? with
    | some (some (.d (.list xs))) => (vdens g (if m = .extend then .rd else .st) es τ s).sb τ fun vs s => (match vmut m (.list xs) vs with
      | some d' => .ok (.nx (τ.set i (some (.d d')))) s
      | none => .bad)
    | _ => .bad) else .bad
def mutO : Ex → Option (Me × Nat × Exs)
  | .met m (.var i) es => if isMut m = true then some (m, i, es) else none
  | _ => none
def vexp (g : VG) (e : Ex) (τ : VSl) (s : VS) : Vr VFl :=
  match mutO e with
  | some (m, i, es) => vwrite g m i es τ s
  | none => (vden g .st e τ s).sb τ fun _ s => .ok (.nx τ) s
def vsti (g : VG) (o i e : Ex) (τ : VSl) (s : VS) : Vr VFl :=
  match o with
  | .var j => if j ∈ g.M then (vden g .st e τ s).sb τ fun v s => (match τ[j]? with
    | some (some (.d d)) => (vden g .rd i τ s).sb τ fun k s => (match vset d k v with
      | some d' => .ok (.nx (τ.set j (some (.d d')))) s
      | none => .bad)
    | _ => .bad) else .bad
  | _ => .bad
def vmove (M : List Nat) : Ex → Option Nat
  | .var i => if i ∈ M then some i else none
  | _ => none
def vokO {α β : Type} (r : Vr α) (f : α → β) : Vr β :=
  match r with
  | .ok a s => .ok (f a) s
  | _ => .bad
/-- what a loop walks: a list of the def's own goes into it -/
def vfr (g : VG) : Exs → VSl → VS → Vr (List PyData × VSl)
  | .nil, τ, s => .ok ([], τ) s
  | .cons e es, τ, s => match vmove g.M e with
    | some i => (match τ[i]? with
      | some (some (.d d)) => vokO (vfr g es (τ.set i none) s) fun q => (d :: q.1, q.2)
      | _ => .bad)
    | none => (vden g .st e τ s).bind fun v s => (vfr g es τ s).bind fun q s => .ok (v :: q.1, q.2) s
def vasg (g : VG) (t : Tg) (e : Ex) (τ : VSl) (s : VS) : Vr VFl :=
  match t with
  | .nm j => if j ∈ g.M then (if isFresh g.fr e then (vden g .st e τ s).sb τ fun v s => if isLD v then .ok (.nx (τ.set j (some (.d v)))) s else .bad else .bad)
    else (match vmove g.M e with
      | some i => (match τ[i]? with
        | some (some (.d d)) => .ok (.nx ((τ.set j (some (.d d))).set i none)) s
        | _ => .bad)
      | none => (vden g .st e τ s).sb τ fun v s => .ok (.nx (τ.set j (some (.d v)))) s)
  | .tp is => (vden g .st e τ s).sb τ fun v s => (match vtg g.M (.tp is) v τ with
    | some τ' => .ok (.nx τ') s
    | none => .bad)
def vgone : Option Nat → VSl → VSl
  | none, τ => τ
  | some i, τ => τ.set i none
def vunx (sl : Option Nat) (f : VFl) (s : VS) : Vr VFl :=
  match f with
  | .nx τ => .ok (.nx (vgone sl τ)) s
  | .rt v => .ok (.rt v) s
  | .ex _ _ _ => .bad
mutual
def vexe (g : VG) : St → VSl → VS → Vr VFl
  | .pass, τ, s => .ok (.nx τ) s
  | .exp e, τ, s => vexp g e τ s
  | .ret e, τ, s => if g.fret = true ∧ (isFresh g.fr e || isVarM g.M e) = false then .bad else (vden g .es e τ s).sb τ fun v s => .ok (.rt v) s
  | .asg t e, τ, s => vasg g t e τ s
  | .par is es, τ, s => (vdens g .st es τ s).sb τ fun vs s => (match vsetAll g.M is vs τ with
    | some τ' => .ok (.nx τ') s
    | none => .bad)
  | .sti o i e, τ, s => vsti g o i e τ s
  | .sw2 _ _ _ _ _, _, _ => .bad
  | .aug o i e, τ, s => if i ∈ g.M then .bad else (vden g .st (.var i) τ s).sb τ fun x s => (vden g .rd e τ s).sb τ fun y s => (match vaop o x y with
    | some v => .ok (.nx (τ.set i (some (.d v)))) s
    | none => .bad)
  | .ite c a b, τ, s => ((vden g .rd c τ s).bind fun x s => ofD (vtru x) s).sb τ fun t s => if t then vexes g a τ s else vexes g b τ s
  | .whl c b, τ, s => vloopW (fun τ s => (vden g .rd c τ s).bind fun x s => ofD (vtru x) s) (vexes g b) turns τ s
  | .frr t sr es b, τ, s => ((vfr g es τ s).bind fun q s => (ofD (vsrc sr q.1) s).bind fun its s => .ok (its, q.2) s).sb τ fun q s => vloop g.M t (vexes g b) q.1 q.2 s
  | .nvr, _, _ => .bad
  | .rse c fs es, τ, s => (vdens g .st es τ s).sb τ fun vs s => if vs.length = fs.length then .ok (.ex c (fs.zip vs).reverse τ) s else .bad
  | .tri b hs, τ, s => (vexes g b τ s).bind fun f s => (match f with
    | .ex c fs τ' => vhands g hs c fs τ' s
    | .nx τ' => .ok (.nx τ') s
    | .rt v => .ok (.rt v) s)
def vexes (g : VG) : Sts → VSl → VS → Vr VFl
  | .nil, τ, s => .ok (.nx τ) s
  | .cons st ss, τ, s => (vexe g st τ s).bind fun f s => f.go s (vexes g ss)
def vhands (g : VG) : Hds → Nat → List (Str × PyData) → VSl → VS → Vr VFl
  | .nil, c, fs, τ, s => .ok (.ex c fs τ) s
  | .cons ids sl b r, c, fs, τ, s => if c ∈ ids then (vexes g b (vgone sl τ) s).bind fun f s => vunx sl f s else vhands g r c fs τ s
end
/-! ## defs and calls -/
def vstart (d : Def) (vs : List VV) : VSl := vs.map some ++ List.replicate (d.slots - vs.length) none
def Vr.fin (r : Vr VFl) : Vr PyData :=
  match r with
  | .ok (.nx _) s => .ok .none s
  | .ok (.rt v) s => .ok v s
  | .ok (.ex c fs _) s => .exc c fs s
  | _ => .bad
def vrun (g : VG) (d : Def) (vs : List VV) (s : VS) : Vr PyData :=
  if vs.length = d.params ∧ (g.M.all fun i => decide (d.params ≤ i)) = true then (vexes g d.body (vstart d vs) s).fin else .bad
/-- the number that a box gives, and the box then -/
def tkN (p q r : Int) (β : BS) (m : Int) : Int :=
  if 0 < β.x then β.x % m else (((β.y + p * (β.z + 1) + q) ^ 5 % 2147483647 + r * (β.z + 1)) ^ 3 % 2147483587) / 16 % m
def tkS (β : BS) (m : Int) (hm : 0 < m) : BS :=
  if c : 0 < β.x then ⟨β.x / m, β.y, β.z, β.n + 1, Int.ediv_nonneg β.hx (Int.le_of_lt hm), β.hy, ⟨β.hz.1, by have := β.hz.2; omega⟩⟩
  else ⟨β.x, β.y, β.z + 1, β.n + 1, β.hx, β.hy, ⟨by have := β.hz.1; omega, by have := β.hz.2; omega⟩⟩
structure TK where
  id : Nat
  p : Int
  q : Int
  r : Int
def vtake (k : TK) (vs : List VV) (s : VS) : Vr PyData :=
  match vs, s with
  | [.box, .d (.int m)], some β => if hm : 0 < m ∧ m < 1073741824 then (if β.n < 100000000 then .ok (.int (tkN k.p k.q k.r β m)) (some (tkS β m hm.1)) else .bad) else .bad
  | _, _ => .bad
def cstV (v : Val) : Option VV := (cstD v).map .d
structure VT where
  D : Nat → Option Def
  gl : Nat → Option Val
  M : Nat → List Nat
  fr : Nat → Bool
  tk : TK
def vcalls (T : VT) : Nat → Nat → List VV → VS → Vr PyData
  | 0, _, _, _ => .bad
  | n + 1, f, vs, s => if f = T.tk.id then vtake T.tk vs s else match T.D f with
    | some d => (match mapO cstV (d.dflt.drop (d.dflt.length + vs.length - d.params)) with
      | some ws => vrun ⟨vcalls T n, T.gl, T.M f, T.fr, T.fr f⟩ d (vs ++ ws) s
      | none => .bad)
    | none => .bad
end Mi


/-! # Mi15: data against the heap: operators, built-ins -/
namespace Mi
open PySem (Str PyData)
inductive All2 {α β : Type} (P : α → β → Prop) : List α → List β → Prop
  | nil : All2 P [] []
  | cons {a : α} {b : β} {as : List α} {bs : List β} : P a b → All2 P as bs → All2 P (a :: as) (b :: bs)
theorem All2.imp {α β : Type} {P Q : α → β → Prop} (f : ∀ a b, P a b → Q a b) : ∀ {as : List α} {bs : List β}, All2 P as bs → All2 Q as bs
  | _, _, .nil => .nil
  | _, _, .cons a b => .cons (f _ _ a) (b.imp f)
theorem All2.length {α β : Type} {P : α → β → Prop} : ∀ {as : List α} {bs : List β}, All2 P as bs → bs.length = as.length
  | _, _, .nil => rfl
  | _, _, .cons a b => by rw [List.length_cons, List.length_cons, b.length]
theorem isall2 {X : List Nat} {h : Heap} : ∀ {ds : List PyData} {xs : List Val}, IsAll X h ds xs ↔ All2 (Is X h) ds xs
  | [], xs => ⟨fun i => by rw [i.nil]; exact .nil, fun i => by cases i; exact isall_nil⟩
  | d :: ds, xs => ⟨fun i => by obtain ⟨y, ys, rfl, a, b⟩ := i.cons; exact .cons a (isall2.mp b), fun i => by cases i with | cons a b => exact isall_cons a (isall2.mpr b)⟩
/-- read: the top may be one of the lists that are written -/
def Rd (Z Y : List Nat) (h : Heap) (d : PyData) (v : Val) : Prop :=
  Is Z h d v ∨ (∃ p xs ds, d = .list ds ∧ v = .ref p ∧ p ∉ Y ∧ h[p]? = some (.lst xs) ∧ IsAll Z h ds xs) ∨ (∃ p xs ds, d = .dict ds ∧ v = .ref p ∧ p ∉ Y ∧ h[p]? = some (.dic xs) ∧ IsKv Z h ds xs)
def Nw (n : Nat) (d : PyData) (v : Val) : Prop := isLD d = true → ∀ p, v = .ref p → n ≤ p
theorem Nw.le {n m : Nat} {d : PyData} {v : Val} (w : Nw n d v) (h : m ≤ n) : Nw m d v := fun a p e => Nat.le_trans h (w a p e)
theorem IsKv.sub {X Y : List Nat} {h : Heap} {d : List (PyData × PyData)} {v : List (Key × Val)} (i : IsKv X h d v) (s : ∀ n ∈ Y, n ∈ X) : IsKv Y h d v := i.mono fun n o hn e => ⟨fun z => hn (s n z), e⟩
section
variable {Z Y : List Nat} {h : Heap} {d e : PyData} {x y v : Val}
theorem Rd.of (i : Is Z h d v) : Rd Z Y h d v := .inl i
theorem Rd.is (s : ∀ n ∈ Y, n ∈ Z) (r : Rd Z Y h d v) : Is Y h d v := by
  rcases r with i | ⟨p, xs, ds, rfl, rfl, hp, e, a⟩ | ⟨p, xs, ds, rfl, rfl, hp, e, a⟩
  · exact i.sub s
  · exact is_lst hp e (a.sub s)
  · unfold Is; exact ⟨p, xs, rfl, hp, e, a.sub s⟩
theorem Rd.lst {ds : List PyData} (s : ∀ n ∈ Y, n ∈ Z) (r : Rd Z Y h (.list ds) v) : ∃ p xs, v = .ref p ∧ p ∉ Y ∧ h[p]? = some (.lst xs) ∧ IsAll Z h ds xs := by
  rcases r with i | ⟨p, xs, ds, e, rfl, hp, e1, a⟩ | ⟨p, xs, ds, e, rfl, hp, e1, a⟩
  · obtain ⟨p, xs, e, hp, e1, a⟩ := i.lst
    exact ⟨p, xs, e, fun z => hp (s p z), e1, a⟩
  · cases e; exact ⟨p, xs, rfl, hp, e1, a⟩
  · cases e
theorem Rd.dic {ds : List (PyData × PyData)} (s : ∀ n ∈ Y, n ∈ Z) (r : Rd Z Y h (.dict ds) v) : ∃ p xs, v = .ref p ∧ p ∉ Y ∧ h[p]? = some (.dic xs) ∧ IsKv Z h ds xs := by
  rcases r with i | ⟨p, xs, ds, e, rfl, hp, e1, a⟩ | ⟨p, xs, ds, e, rfl, hp, e1, a⟩
  · unfold Is at i
    obtain ⟨p, xs, e, hp, e1, a⟩ := i
    exact ⟨p, xs, e, fun z => hp (s p z), e1, a⟩
  · cases e
  · cases e; exact ⟨p, xs, rfl, hp, e1, a⟩
theorem Rd.tup {ds : List PyData} (r : Rd Z Y h (.tuple ds) v) : ∃ p xs, v = .ref p ∧ p ∉ Z ∧ h[p]? = some (.tup xs) ∧ IsAll Z h ds xs := by
  rcases r with i | ⟨_, _, _, e, _⟩ | ⟨_, _, _, e, _⟩
  · exact i.tup
  · cases e
  · cases e
theorem Rd.tupIs {ds : List PyData} (r : Rd Z Y h (.tuple ds) v) : Is Z h (.tuple ds) v := by
  rcases r with i | ⟨_, _, _, e, _⟩ | ⟨_, _, _, e, _⟩
  · exact i
  · cases e
  · cases e
theorem Rd.int {i : Int} (r : Rd Z Y h (.int i) v) : v = .int i := by
  rcases r with i | ⟨_, _, _, e, _⟩ | ⟨_, _, _, e, _⟩
  · exact i.int
  · cases e
  · cases e
theorem Rd.str {i : Str} (r : Rd Z Y h (.str i) v) : v = .str i := by
  rcases r with i | ⟨_, _, _, e, _⟩ | ⟨_, _, _, e, _⟩
  · exact i.str
  · cases e
  · cases e
theorem Rd.bl {i : Bool} (r : Rd Z Y h (.bool i) v) : v = .bl i := by
  rcases r with i | ⟨_, _, _, e, _⟩ | ⟨_, _, _, e, _⟩
  · exact i.bl
  · cases e
  · cases e
theorem Is.non (r : Is Z h .none v) : v = .non := by unfold Is at r; exact r
theorem Rd.non (r : Rd Z Y h .none v) : v = .non := by
  rcases r with i | ⟨_, _, _, e, _⟩ | ⟨_, _, _, e, _⟩
  · exact i.non
  · cases e
  · cases e
/-- a list or a tuple, read -/
theorem Rd.seq {ds : List PyData} (s : ∀ n ∈ Y, n ∈ Z) (r : Rd Z Y h d v) (e : seqD d = some ds) : ∃ p xs, v = .ref p ∧ p ∉ Y ∧ (h[p]? = some (.lst xs) ∨ h[p]? = some (.tup xs)) ∧ IsAll Z h ds xs := by
  cases d <;> cases e
  · obtain ⟨p, xs, e, hp, e1, a⟩ := r.lst s
    exact ⟨p, xs, e, hp, .inl e1, a⟩
  · obtain ⟨p, xs, e, hp, e1, a⟩ := r.tup
    exact ⟨p, xs, e, fun z => hp (s p z), .inr e1, a⟩
theorem Is.flat_iff (i : Is Z h d v) : flat v = flatD d := by
  cases d with
  | none => rw [i.non]; rfl
  | bool => rw [i.bl]; rfl
  | int => rw [i.int]; rfl
  | str => rw [i.str]; rfl
  | list => obtain ⟨p, _, rfl, _⟩ := i.lst; rfl
  | tuple => obtain ⟨p, _, rfl, _⟩ := i.tup; rfl
  | dict => unfold Is at i; obtain ⟨p, _, rfl, _⟩ := i; rfl
theorem Is.key (i : Is Z h d v) : keyV v = keyO d := by
  cases d with
  | none => rw [i.non]; rfl
  | bool => rw [i.bl]; rfl
  | int => rw [i.int]; rfl
  | str => rw [i.str]; rfl
  | list => obtain ⟨p, _, rfl, _⟩ := i.lst; rfl
  | tuple => obtain ⟨p, _, rfl, _⟩ := i.tup; rfl
  | dict => unfold Is at i; obtain ⟨p, _, rfl, _⟩ := i; rfl
theorem all_flat : ∀ {ds : List PyData} {xs : List Val}, IsAll Z h ds xs → xs.all flat = ds.all flatD
  | [], xs, i => by rw [i.nil]; rfl
  | d :: ds, xs, i => by
    obtain ⟨y, ys, rfl, a, b⟩ := i.cons
    rw [List.all_cons, List.all_cons, a.flat_iff, all_flat b]
theorem eqF_is {Z' : List Nat} (i : Is Z h d x) (j : Is Z' h e y) (f1 : flatD d = true) (f2 : flatD e = true) : eqF x y = PyData.eqv d e := by
  cases d <;> cases f1 <;> cases e <;> cases f2 <;>
    first
    | (rw [i.non, j.non]; rfl)
    | (rw [i.non, j.bl]; rfl)
    | (rw [i.non, j.int]; rfl)
    | (rw [i.non, j.str]; rfl)
    | (rw [i.bl, j.non]; rfl)
    | (rw [i.bl, j.bl]; rfl)
    | (rw [i.bl, j.int]; rfl)
    | (rw [i.bl, j.str]; rfl)
    | (rw [i.int, j.non]; rfl)
    | (rw [i.int, j.bl]; rfl)
    | (rw [i.int, j.int]; rfl)
    | (rw [i.int, j.str]; rfl)
    | (rw [i.str, j.non]; rfl)
    | (rw [i.str, j.bl]; rfl)
    | (rw [i.str, j.int]; rfl)
    | (rw [i.str, j.str]; rfl)
theorem any_eqF {Z' : List Nat} (j : Is Z' h e y) (f2 : flatD e = true) : ∀ {ds : List PyData} {xs : List Val}, IsAll Z h ds xs → ds.all flatD = true → (xs.any fun a => eqF a y) = ds.any fun a => PyData.eqv a e
  | [], xs, i, _ => by rw [i.nil]; rfl
  | d :: ds, xs, i, f => by
    obtain ⟨x, ys, rfl, a, b⟩ := i.cons
    rw [List.all_cons, Bool.and_eq_true] at f
    rw [List.any_cons, List.any_cons, eqF_is a j f.1 f2, any_eqF j f2 b f.2]
theorem shd_lay (s : shd d = true) : d.canLay0 = true ∧ d.depth ≤ 60 := by
  unfold shd at s
  rw [Bool.and_eq_true] at s
  exact ⟨s.1, of_decide_eq_true s.2⟩
theorem shd_shaped (s : shd d = true) : PySem.SeqAt.shaped d = true := by
  obtain ⟨a, b⟩ := shd_lay s
  unfold PySem.SeqAt.shaped
  rw [a, Bool.true_and]
  exact decide_eq_true (Nat.le_trans b (by decide))
theorem eqO_v {r : Bool} {Z' : List Nat} (i : Is Z h d x) (j : Is Z' h e y) (hv : veq d e = some r) : eqO h x y = some r := by
  unfold veq at hv
  split at hv
  · rw [i.int, j.int]; exact hv
  · rw [i.str, j.str]; exact hv
  · rw [i.bl, j.bl]; exact hv
  · rename_i n1 n2 n3
    split at hv
    · rename_i c
      have r1 := i.rd (shd_lay c.1).2
      have r2 := j.rd (shd_lay c.2).2
      cases hv
      unfold eqO
      split
      · cases r1; cases r2; exact (n1 _ _ rfl rfl).elim
      · cases r1; cases r2; exact (n2 _ _ rfl rfl).elim
      · cases r1; cases r2; exact (n3 _ _ rfl rfl).elim
      · rw [r1, r2]
        dsimp only
        rw [if_pos ⟨shd_shaped c.1, shd_shaped c.2⟩]
    · cases hv
theorem ltO_v {r : Bool} {Z' : List Nat} (i : Is Z h d x) (j : Is Z' h e y) (hv : vlt d e = some r) : ltO h x y = some r := by
  unfold vlt at hv
  split at hv
  · rename_i b hb
    cases hv
    cases d <;> cases e <;> simp [vltA] at hb
    · rw [i.int, j.int]; unfold ltO; simp only [ltA, hb]
    · rw [i.str, j.str]; unfold ltO; simp only [ltA]; exact congrArg some (by simpa using hb)
  · split at hv
    · rename_i c
      obtain ⟨c1, c2, c3, c4, c5⟩ := c
      cases hv
      have r1 := i.rd (shd_lay c3).2
      have r2 := j.rd (shd_lay c4).2
      have e1 : ∃ p, x = .ref p := by
        cases d <;> cases c1
        · obtain ⟨p, _, rfl, _⟩ := i.lst; exact ⟨p, rfl⟩
        · obtain ⟨p, _, rfl, _⟩ := i.tup; exact ⟨p, rfl⟩
      have e2 : ∃ p, y = .ref p := by
        cases e <;> cases c2
        · obtain ⟨p, _, rfl, _⟩ := j.lst; exact ⟨p, rfl⟩
        · obtain ⟨p, _, rfl, _⟩ := j.tup; exact ⟨p, rfl⟩
      obtain ⟨p, rfl⟩ := e1
      obtain ⟨q, rfl⟩ := e2
      unfold ltO
      dsimp only
      rw [r1, r2]
      dsimp only
      rw [if_pos ⟨shd_shaped c3, shd_shaped c4, c5, c1, (shd_lay c3).2⟩]
    · cases hv
theorem ltA_v {r : Bool} {Z' : List Nat} (i : Is Z h d x) (j : Is Z' h e y) (hv : vltA d e = some r) : ltA x y = some r := by
  cases d <;> cases e <;> simp [vltA] at hv
  · rw [i.int, j.int]; simp only [ltA]; exact congrArg some (by simpa using hv)
  · rw [i.str, j.str]; simp only [ltA]; exact congrArg some (by simpa using hv)
theorem leO_v {r : Bool} {Z' : List Nat} (i : Is Z h d x) (j : Is Z' h e y) (hv : vle d e = some r) : leO x y = some r := by
  cases d <;> cases e <;> simp [vle] at hv
  · rw [i.int, j.int]; simp only [leO]; exact congrArg some (by simpa using hv)
  · rw [i.str, j.str]; simp only [leO]; exact congrArg some (by simpa using hv)
theorem isO_v {r : Bool} {Z' : List Nat} (i : Is Z h d x) (j : Is Z' h e y) (hv : vis d e = some r) : isO x y = some r := by
  cases e <;> simp only [vis] at hv <;> cases hv
  · rw [j.non]
    cases d with
    | none => rw [i.non]; rfl
    | bool => rw [i.bl]; rfl
    | int => rw [i.int]; rfl
    | str => rw [i.str]; rfl
    | list => obtain ⟨p, _, rfl, _⟩ := i.lst; rfl
    | tuple => obtain ⟨p, _, rfl, _⟩ := i.tup; rfl
    | dict => unfold Is at i; obtain ⟨p, _, rfl, _⟩ := i; rfl
  · rw [j.bl]
    cases d with
    | none => rw [i.non]; rfl
    | bool => rw [i.bl]; rfl
    | int => rw [i.int]; rfl
    | str => rw [i.str]; rfl
    | list => obtain ⟨p, _, rfl, _⟩ := i.lst; rfl
    | tuple => obtain ⟨p, _, rfl, _⟩ := i.tup; rfl
    | dict => unfold Is at i; obtain ⟨p, _, rfl, _⟩ := i; rfl
theorem keyO_keyD (k : Key) : keyO (keyD k) = some k := by cases k <;> rfl
theorem keyD_keyO {k : Key} (hk : keyO d = some k) : keyD k = d := by cases d <;> cases hk <;> rfl
theorem getK_v (k : Key) : ∀ {ds : List (PyData × PyData)} {xs : List (Key × Val)}, IsKv Z h ds xs → (∃ d v, vgetK ds k = some d ∧ getK xs k = some v ∧ Is Z h d v) ∨ (vgetK ds k = none ∧ getK xs k = none)
  | [], xs, i => by unfold IsKv at i; subst i; exact .inr ⟨rfl, rfl⟩
  | (kd, d) :: ds, xs, i => by
    unfold IsKv at i
    obtain ⟨q, y, ys, rfl, rfl, a, b⟩ := i
    by_cases c : q = k
    · refine .inl ⟨d, y, ?_, ?_, a⟩
      · unfold vgetK
        rw [List.find?_cons_of_pos (by simp [keyO_keyD, c])]
        rfl
      · unfold getK
        rw [List.find?_cons_of_pos (by simp [c])]
        rfl
    · have h1 : vgetK ((keyD q, d) :: ds) k = vgetK ds k := by
        unfold vgetK
        rw [List.find?_cons_of_neg (by simp [keyO_keyD, c])]
      have h2 : getK ((q, y) :: ys) k = getK ys k := by
        unfold getK
        rw [List.find?_cons_of_neg (by simp [c])]
      rw [h1, h2]
      exact getK_v k b
theorem inX_v {r : Bool} (s : ∀ n ∈ Y, n ∈ Z) (i : Rd Z Y h d x) (j : Rd Z Y h e y) (hv : vin d e = some r) : inX h x y = some r := by
  have i' := i.is s
  cases e with
  | str z =>
    rw [j.str]
    cases d <;> simp only [vin] at hv <;> try cases hv
    rw [i.str]
    rename_i w
    unfold inX inO
    dsimp only
    split at hv
    · rename_i c e1
      first
      | exact hv
      | (rw [e1]; dsimp only; exact hv)
    · cases hv
  | list ds =>
    obtain ⟨p, xs, rfl, hp, e1, a⟩ := j.lst s
    have ff := all_flat a
    simp only [vin] at hv
    split at hv
    · rename_i c
      cases hv
      by_cases f : flatD d = true ∧ ds.all flatD = true
      · have : inO h x (.ref p) = some (xs.any fun y => eqF y x) := by
          unfold inO
          dsimp only
          rw [e1]
          dsimp only
          rw [if_pos ⟨i'.flat_iff.trans f.1, ff.trans f.2⟩]
        unfold inX
        rw [this]
        dsimp only
        rw [any_eqF i' f.1 a f.2]
      · have : inO h x (.ref p) = none := by
          unfold inO
          dsimp only
          rw [e1]
          dsimp only
          rw [if_neg]
          rw [i'.flat_iff, ff]
          exact f
        unfold inX
        rw [this]
        dsimp only
        obtain ⟨c1, c2⟩ := c.resolve_left f
        unfold inD
        rw [i'.rd (shd_lay c1).2, (is_lst (X := Y) hp e1 (a.sub s)).rd (shd_lay c2).2]
        dsimp only
        rw [if_pos ⟨shd_shaped c1, shd_shaped c2⟩]
    · cases hv
  | tuple ds =>
    obtain ⟨p, xs, rfl, hp, e1, a⟩ := j.tup
    have ff := all_flat a
    simp only [vin] at hv
    split at hv
    · rename_i f
      cases hv
      have : inO h x (.ref p) = some (xs.any fun y => eqF y x) := by
        unfold inO
        dsimp only
        rw [e1]
        dsimp only
        rw [if_pos ⟨i'.flat_iff.trans f.1, ff.trans f.2⟩]
      unfold inX
      rw [this]
      dsimp only
      rw [any_eqF i' f.1 a f.2]
    · cases hv
  | dict kvs =>
    obtain ⟨p, xs, rfl, hp, e1, a⟩ := j.dic s
    simp only [vin] at hv
    split at hv
    · rename_i k hk
      cases hv
      unfold inX inO
      dsimp only
      rw [e1]
      dsimp only
      rw [i'.key, hk]
      dsimp only
      rcases getK_v k a with ⟨d1, v1, h1, h2, _⟩ | ⟨h1, h2⟩ <;> rw [h1, h2] <;> rfl
    · cases hv
  | none => cases hv
  | bool => cases hv
  | int => cases hv
/-- a new object that holds data -/
theorem new_lst {ds : List PyData} {xs : List Val} (hz : ∀ z ∈ Z, z < h.length) (a : IsAll Z h ds xs) : (new (.lst xs) h).sat (fun v h' => Fr h h' ∧ Is Z h' (.list ds) v ∧ Nw h.length (.list ds) v) nox :=
  sat_new fun n h' e l _ F => ⟨F, is_lst (fun z => by have := hz n z; omega) e (a.fr F), fun _ p e => by cases e; omega⟩
theorem new_tup {ds : List PyData} {xs : List Val} (hz : ∀ z ∈ Z, z < h.length) (a : IsAll Z h ds xs) : (new (.tup xs) h).sat (fun v h' => Fr h h' ∧ Is Z h' (.tuple ds) v ∧ Nw h.length (.tuple ds) v) nox :=
  sat_new fun n h' e l _ F => ⟨F, is_tup (fun z => by have := hz n z; omega) e (a.fr F), fun z => by cases z⟩
theorem nw_flat {n : Nat} {d : PyData} {v : Val} (f : isLD d = false) : Nw n d v := fun z => by rw [f] at z; cases z
theorem isall_rep {ds : List PyData} {xs : List Val} (a : IsAll Z h ds xs) : ∀ k : Nat, IsAll Z h (List.replicate k ds).flatten (List.replicate k xs).flatten
  | 0 => isall_nil
  | k + 1 => by
    rw [List.replicate_succ, List.replicate_succ, List.flatten_cons, List.flatten_cons]
    exact a.app (isall_rep a k)
abbrev Good (Z : List Nat) (h : Heap) (r : PyData) : RQ Val := fun v h' => Fr h h' ∧ Is Z h' r v ∧ Nw h.length r v
theorem good_i {i : Int} : Good Z h (.int i) (.int i) h := ⟨Fr.refl _, is_int, nw_flat rfl⟩
theorem good_b {i : Bool} : Good Z h (.bool i) (.bl i) h := ⟨Fr.refl _, is_bl, nw_flat rfl⟩
theorem good_s {i : Str} : Good Z h (.str i) (.str i) h := ⟨Fr.refl _, is_str, nw_flat rfl⟩
theorem ofBm_ok {o : Option Bool} {b : Option Bool} {r : PyData} (f : Bool → Bool) (hv : b.map (fun b => PyData.bool (f b)) = some r) (he : ∀ c, b = some c → o = some c) : (ofB (o.map f) h).sat (Good Z h r) nox := by
  cases b with
  | none => cases hv
  | some c =>
    cases hv
    rw [he c rfl]
    exact good_b
theorem ofBv_ok {o : Option Bool} {b : Option Bool} {r : PyData} (hv : b.map PyData.bool = some r) (he : ∀ c, b = some c → o = some c) : (ofB o h).sat (Good Z h r) nox := by
  cases b with
  | none => cases hv
  | some c =>
    cases hv
    rw [he c rfl]
    exact good_b
theorem vop_ok {o : Op} {r : PyData} (hz : ∀ z ∈ Z, z < h.length) (s : ∀ n ∈ Y, n ∈ Z) (i : Rd Z Y h d x) (j : Rd Z Y h e y) (hv : vop o d e = some r) : (bop o x y h).sat (Good Z h r) nox := by
  have i' := i.is s
  have j' := j.is s
  cases o with
  | add =>
    show (addV x y h).sat _ _
    cases d <;> cases e <;> simp only [vop, vadd] at hv <;> try cases hv
    · rw [i.int, j.int]; exact good_i
    · split at hv
      · rename_i c
        cases hv
        rw [i.str, j.str]
        unfold addV
        dsimp only
        rw [if_pos c]
        exact good_s
      · cases hv
    · split at hv
      · rename_i c
        cases hv
        obtain ⟨p, xs, rfl, _, e1, a⟩ := i.lst s
        obtain ⟨q, ys, rfl, _, e2, b⟩ := j.lst s
        unfold addV
        dsimp only
        rw [e1, e2]
        dsimp only
        rw [if_pos (by rw [a.length, b.length]; exact c)]
        exact new_lst hz (a.app b)
      · cases hv
    · split at hv
      · rename_i c
        cases hv
        obtain ⟨p, xs, rfl, _, e1, a⟩ := i.tup
        obtain ⟨q, ys, rfl, _, e2, b⟩ := j.tup
        unfold addV
        dsimp only
        rw [e1, e2]
        dsimp only
        rw [if_pos (by rw [a.length, b.length]; exact c)]
        split
        · rename_i z
          subst z
          have := List.eq_nil_of_length_eq_zero a.length.symm
          subst this
          exact ⟨Fr.refl _, j.tupIs, nw_flat rfl⟩
        · split
          · rename_i z
            subst z
            have := List.eq_nil_of_length_eq_zero b.length.symm
            subst this
            rw [List.append_nil]
            exact ⟨Fr.refl _, i.tupIs, nw_flat rfl⟩
          · exact new_tup hz (a.app b)
      · cases hv
  | sub =>
    cases d <;> cases e <;> simp only [vop, vsub] at hv <;> try cases hv
    rw [i.int, j.int]; exact good_i
  | mul =>
    show (mulV x y h).sat _ _
    cases d <;> cases e <;> simp only [vop, vmul] at hv <;> try cases hv
    · split at hv
      · rename_i c
        cases hv
        rw [i.int, j.int]
        unfold mulV
        dsimp only
        rw [if_pos c]
        exact good_i
      · cases hv
    · split at hv
      · rename_i c
        cases hv
        rw [i.str, j.int]
        unfold mulV
        dsimp only
        rw [if_pos c]
        exact good_s
      · cases hv
    · split at hv
      · rename_i c
        cases hv
        obtain ⟨p, xs, rfl, _, e1, a⟩ := i.lst s
        rw [j.int]
        unfold mulV
        dsimp only
        rw [e1]
        dsimp only
        rw [if_pos (by rw [a.length]; exact c)]
        exact new_lst hz (isall_rep a _)
      · cases hv
  | fdiv =>
    show (fdivV x y h).sat _ _
    cases d <;> cases e <;> simp only [vop, vfdiv] at hv <;> try cases hv
    split at hv
    · rename_i c
      cases hv
      rw [i.int, j.int]
      unfold fdivV
      dsimp only
      rw [if_pos c]
      exact good_i
    · cases hv
  | mod =>
    show (modV x y h).sat _ _
    cases d <;> cases e <;> simp only [vop, vmod] at hv <;> try cases hv
    split at hv
    · rename_i c
      cases hv
      rw [i.int, j.int]
      unfold modV
      dsimp only
      rw [if_pos c]
      exact good_i
    · cases hv
  | pow =>
    show (powV x y h).sat _ _
    cases d <;> cases e <;> simp only [vop, vpow] at hv <;> try cases hv
    split at hv
    · rename_i c
      cases hv
      rw [i.int, j.int]
      unfold powV
      dsimp only
      rw [if_pos c]
      exact good_i
    · cases hv
  | eq => exact ofBv_ok hv fun c hc => eqO_v i' j' hc
  | ne => exact ofBm_ok _ hv fun c hc => eqO_v i' j' hc
  | lt => exact ofBv_ok hv fun c hc => ltO_v i' j' hc
  | le => exact ofBv_ok hv fun c hc => leO_v i' j' hc
  | gt => exact ofBv_ok hv fun c hc => ltA_v j' i' hc
  | ge => exact ofBv_ok hv fun c hc => leO_v j' i' hc
  | is => exact ofBv_ok hv fun c hc => isO_v i' j' hc
  | isnot => exact ofBm_ok _ hv fun c hc => isO_v i' j' hc
  | in_ => exact ofBv_ok hv fun c hc => inX_v s i j hc
  | notin => exact ofBm_ok _ hv fun c hc => inX_v s i j hc
theorem vtru_ok {b : Bool} (s : ∀ n ∈ Y, n ∈ Z) (i : Rd Z Y h d x) (hv : vtru d = some b) : truB x h = .ok b h := by
  unfold truB
  have : tru h x = some b := by
    cases d with
    | none => rw [i.non]; exact hv
    | bool => rw [i.bl]; exact hv
    | int => rw [i.int]; exact hv
    | str => rw [i.str]; exact hv
    | list ds =>
      obtain ⟨p, xs, rfl, _, e1, a⟩ := i.lst s
      unfold tru
      dsimp only
      rw [e1]
      dsimp only
      rw [← hv]
      have := a.length
      cases ds <;> cases xs <;> first | rfl | cases this
    | tuple ds =>
      obtain ⟨p, xs, rfl, _, e1, a⟩ := i.tup
      unfold tru
      dsimp only
      rw [e1]
      dsimp only
      rw [← hv]
      have := a.length
      cases ds <;> cases xs <;> first | rfl | cases this
    | dict ds =>
      obtain ⟨p, xs, rfl, _, e1, a⟩ := i.dic s
      unfold tru
      dsimp only
      rw [e1]
      dsimp only
      rw [← hv]
      cases ds with
      | nil => unfold IsKv at a; subst a; rfl
      | cons k ds => unfold IsKv at a; obtain ⟨_, _, _, rfl, _⟩ := a; rfl
  rw [this]
theorem IsAll.at {ds : List PyData} {xs : List Val} {k : Nat} {d : PyData} (i : IsAll Z h ds xs) (e : ds[k]? = some d) : ∃ x, xs[k]? = some x ∧ Is Z h d x := by
  have hl := i.length
  have hk : k < xs.length := by
    rw [hl]
    rcases Nat.lt_or_ge k ds.length with z | z
    · exact z
    · rw [List.getElem?_eq_none z] at e; cases e
  obtain ⟨d', e', j⟩ := i.get (List.getElem?_eq_getElem hk)
  rw [e] at e'
  cases e'
  exact ⟨_, List.getElem?_eq_getElem hk, j⟩
theorem atI_v {ds : List PyData} {xs : List Val} {k : Int} {d : PyData} (i : IsAll Z h ds xs) (e : L2.atI ds k = some d) : ∃ x, L2.atI xs k = some x ∧ Is Z h d x := by
  unfold L2.atI at *
  rw [i.length]
  cases hn : L2.ixN ds.length k with
  | none => rw [hn] at e; cases e
  | some n =>
    rw [hn] at e
    exact i.at e
theorem vidx_ok {g : G} {r : PyData} (s : ∀ n ∈ Y, n ∈ Z) (i : Rd Z Y h d x) (j : Rd Z Y h e y) (hv : vidx d e = some r) : (idxV g x y h).sat (fun v h' => h' = h ∧ Is Z h r v) nox := by
  have dict : ∀ kvs, d = .dict kvs → (keyO e).bind (vgetK kvs) = some r → (idxV g x y h).sat (fun v h' => h' = h ∧ Is Z h r v) nox := by
    rintro kvs rfl hv
    obtain ⟨p, xs, rfl, _, e1, a⟩ := i.dic s
    cases hk : keyO e with
    | none => rw [hk] at hv; cases hv
    | some k =>
      rw [hk] at hv
      have hv : vgetK kvs k = some r := hv
      unfold idxV
      dsimp only
      rw [e1]
      dsimp only
      rw [(j.is s).key, hk]
      dsimp only
      rcases getK_v k a with ⟨d1, v1, h1, h2, h3⟩ | ⟨h1, h2⟩
      · rw [hv] at h1
        cases h1
        rw [h2]
        exact ⟨rfl, h3⟩
      · rw [hv] at h1; cases h1
  cases d with
  | str z =>
    cases e <;> simp only [vidx] at hv <;> try cases hv
    split at hv
    · rename_i k c
      rw [i.str, j.int]
      cases ha : L2.atI z.cps.toList k with
      | none => rw [ha] at hv; cases hv
      | some n =>
        rw [ha] at hv
        cases hv
        unfold idxV
        dsimp only
        rw [if_pos c, ha]
        exact ⟨rfl, is_str⟩
    · cases hv
  | list ds =>
    cases e <;> simp only [vidx] at hv <;> try cases hv
    obtain ⟨p, xs, rfl, _, e1, a⟩ := i.lst s
    obtain ⟨v, h1, h2⟩ := atI_v a hv
    rw [j.int]
    unfold idxV
    dsimp only
    rw [e1]
    dsimp only
    rw [h1]
    exact ⟨rfl, h2⟩
  | tuple ds =>
    cases e <;> simp only [vidx] at hv <;> try cases hv
    obtain ⟨p, xs, rfl, _, e1, a⟩ := i.tup
    obtain ⟨v, h1, h2⟩ := atI_v a hv
    rw [j.int]
    unfold idxV
    dsimp only
    rw [e1]
    dsimp only
    rw [h1]
    exact ⟨rfl, h2⟩
  | dict kvs => exact dict kvs rfl hv
  | none => cases hv
  | bool => cases hv
  | int => cases hv
theorem IsAll.drop : ∀ {ds : List PyData} {xs : List Val} (k : Nat), IsAll Z h ds xs → IsAll Z h (ds.drop k) (xs.drop k)
  | ds, xs, 0, i => i
  | [], xs, k + 1, i => by rw [i.nil]; exact isall_nil
  | d :: ds, xs, k + 1, i => by
    obtain ⟨y, ys, rfl, a, b⟩ := i.cons
    exact IsAll.drop k b
theorem IsAll.take : ∀ {ds : List PyData} {xs : List Val} (k : Nat), IsAll Z h ds xs → IsAll Z h (ds.take k) (xs.take k)
  | ds, xs, 0, i => isall_nil
  | [], xs, k + 1, i => by rw [i.nil]; exact isall_nil
  | d :: ds, xs, k + 1, i => by
    obtain ⟨y, ys, rfl, a, b⟩ := i.cons
    exact isall_cons a (IsAll.take k b)
theorem IsAll.reverse : ∀ {ds : List PyData} {xs : List Val}, IsAll Z h ds xs → IsAll Z h ds.reverse xs.reverse
  | [], xs, i => by rw [i.nil]; exact isall_nil
  | d :: ds, xs, i => by
    obtain ⟨y, ys, rfl, a, b⟩ := i.cons
    rw [List.reverse_cons, List.reverse_cons]
    exact b.reverse.app (isall_cons a isall_nil)
theorem vslc_ok {lo hi : Option Int} {r : PyData} (hz : ∀ z ∈ Z, z < h.length) (s : ∀ n ∈ Y, n ∈ Z) (i : Rd Z Y h d x) (hv : vslc d lo hi = some r) : (slcV x lo hi h).sat (Good Z h r) nox := by
  cases d with
  | str z =>
    simp only [vslc] at hv
    split at hv
    · rename_i c
      cases hv
      rw [i.str]
      unfold slcV
      dsimp only
      rw [if_pos c]
      exact good_s
    · cases hv
  | list ds =>
    cases hv
    obtain ⟨p, xs, rfl, _, e1, a⟩ := i.lst s
    unfold slcV
    dsimp only
    rw [e1]
    dsimp only
    have := new_lst hz ((a.drop (HT.sIx xs.length 0 lo)).take (HT.sIx xs.length xs.length hi - HT.sIx xs.length 0 lo))
    rw [a.length] at this ⊢
    exact this
  | tuple ds =>
    cases hv
    obtain ⟨p, xs, rfl, hp, e1, a⟩ := i.tup
    unfold slcV
    dsimp only
    rw [e1]
    dsimp only
    split
    · rename_i c
      refine ⟨Fr.refl _, ?_, nw_flat rfl⟩
      have : cutP ds lo hi = ds := by
        unfold cutP
        rw [a.length] at c
        rw [c.1, c.2]
        simp
      rw [this]
      exact is_tup hp e1 a
    · have := new_tup hz ((a.drop (HT.sIx xs.length 0 lo)).take (HT.sIx xs.length xs.length hi - HT.sIx xs.length 0 lo))
      rw [a.length] at this ⊢
      exact this
  | dict kvs => cases hv
  | none => cases hv
  | bool => cases hv
  | int => cases hv
end
end Mi


/-! # Mi16: data against the heap: built-ins, methods, sources, slots -/
namespace Mi
open PySem (Str PyData)
section
variable {Z Y : List Nat} {h : Heap} {d e : PyData} {x y v : Val}
theorem vints_ok : ∀ {ds : List PyData} {xs : List Val} {ns : List Int}, IsAll Z h ds xs → vints ds = some ns → intsO xs = some ns
  | [], xs, ns, i, e => by rw [i.nil]; exact e
  | d :: ds, xs, ns, i, e => by
    obtain ⟨y, ys, rfl, a, b⟩ := i.cons
    cases d <;> try cases e
    cases hr : vints ds with
    | none => simp [vints, hr] at e
    | some r =>
      simp [vints, hr] at e
      subst e
      rw [a.int]
      simp [intsO, vints_ok b hr]
theorem vbls_ok : ∀ {ds : List PyData} {xs : List Val} {ns : List Bool}, IsAll Z h ds xs → vbls ds = some ns → blsO xs = some ns
  | [], xs, ns, i, e => by rw [i.nil]; exact e
  | d :: ds, xs, ns, i, e => by
    obtain ⟨y, ys, rfl, a, b⟩ := i.cons
    cases d <;> try cases e
    cases hr : vbls ds with
    | none => simp [vbls, hr] at e
    | some r =>
      simp [vbls, hr] at e
      subst e
      rw [a.bl]
      simp [blsO, vbls_ok b hr]
theorem vstrs_ok : ∀ {ds : List PyData} {xs : List Val} {ns : List Str}, IsAll Z h ds xs → vstrs ds = some ns → strsO xs = some ns
  | [], xs, ns, i, e => by rw [i.nil]; exact e
  | d :: ds, xs, ns, i, e => by
    obtain ⟨y, ys, rfl, a, b⟩ := i.cons
    cases d <;> try cases e
    cases hr : vstrs ds with
    | none => simp [vstrs, hr] at e
    | some r =>
      simp [vstrs, hr] at e
      subst e
      rw [a.str]
      simp [strsO, vstrs_ok b hr]
theorem seq_ok {ds : List PyData} (s : ∀ n ∈ Y, n ∈ Z) (r : Rd Z Y h d v) (e : seqD d = some ds) : ∃ xs, seqO h v = some xs ∧ IsAll Z h ds xs := by
  obtain ⟨p, xs, rfl, _, e1 | e1, a⟩ := r.seq s e <;> exact ⟨xs, by simp [seqO, e1], a⟩
theorem lst_ok {ds : List PyData} (s : ∀ n ∈ Y, n ∈ Z) (r : Rd Z Y h d v) (e : lstD d = some ds) : ∃ xs, lstO h v = some xs ∧ IsAll Z h ds xs := by
  cases d <;> cases e
  obtain ⟨p, xs, rfl, _, e1, a⟩ := r.lst s
  exact ⟨xs, by simp [lstO, e1], a⟩
theorem bindsome {α β : Type} {o : Option α} {f : α → Option β} {b : β} (e : o.bind f = some b) : ∃ a, o = some a ∧ f a = some b := by
  cases o with
  | none => cases e
  | some a => exact ⟨a, rfl, e⟩
theorem mapsome {α β : Type} {o : Option α} {f : α → β} {b : β} (e : o.map f = some b) : ∃ a, o = some a ∧ f a = b := by
  cases o with
  | none => cases e
  | some a => exact ⟨a, rfl, by cases e; rfl⟩
theorem kv_len : ∀ {ds : List (PyData × PyData)} {xs : List (Key × Val)}, IsKv Z h ds xs → xs.length = ds.length
  | [], xs, i => by unfold IsKv at i; subst i; rfl
  | (k, d) :: ds, xs, i => by
    unfold IsKv at i
    obtain ⟨q, y, ys, rfl, _, _, b⟩ := i
    rw [List.length_cons, List.length_cons, kv_len b]
theorem vmax_ok {f : Int → Int → Int} {fl : List Int → Int} {ds : List PyData} {vs : List Val} {r : PyData} (s : ∀ n ∈ Y, n ∈ Z) (a : All2 (Rd Z Y h) ds vs) (hv : vmax f fl ds = some r) : (maxV f fl h vs).sat (Good Z h r) nox := by
  have one : ∀ d v, Rd Z Y h d v → (match (seqD d).bind vints with | some ns => if 0 < ns.length then some (PyData.int (fl ns)) else none | none => none) = some r → (maxV f fl h [v]).sat (Good Z h r) nox := by
    intro d v i hv
    cases hb : (seqD d).bind vints with
    | none => rw [hb] at hv; cases hv
    | some ns =>
      rw [hb] at hv
      dsimp only at hv
      split at hv
      · rename_i c
        cases hv
        obtain ⟨ds, h1, h2⟩ := bindsome hb
        obtain ⟨xs, h3, h4⟩ := seq_ok s i h1
        have : maxV f fl h [v] = .ok (.int (fl ns)) h := by
          obtain ⟨p, zs, rfl, _⟩ := i.seq s h1
          simp [maxV, h3, vints_ok h4 h2, c]
        rw [this]
        exact good_i
      · cases hv
  unfold vmax at hv
  split at hv
  · cases hv
    cases a with
    | cons i a =>
      cases a with
      | cons j a =>
        cases a
        rw [i.int, j.int]
        exact good_i
  · cases a with
    | cons i a =>
      cases a
      exact one _ _ i hv
  · cases hv
theorem ty_ok (s : ∀ n ∈ Y, n ∈ Z) (i : Rd Z Y h d v) : tyO h v = some (tyD d) := by
  cases d with
  | none => rw [i.non]; rfl
  | bool => rw [i.bl]; rfl
  | int => rw [i.int]; rfl
  | str => rw [i.str]; rfl
  | list => obtain ⟨p, _, rfl, _, e, _⟩ := i.lst s; simp [tyO, e, tyD]
  | tuple => obtain ⟨p, _, rfl, _, e, _⟩ := i.tup; simp [tyO, e, tyD]
  | dict => obtain ⟨p, _, rfl, _, e, _⟩ := i.dic s; simp [tyO, e, tyD]
theorem all1 {α β : Type} {P : α → β → Prop} {a : α} {bs : List β} (h : All2 P [a] bs) : ∃ b, bs = [b] ∧ P a b := by
  cases h with
  | cons x y => cases y; exact ⟨_, rfl, x⟩
theorem all2_ {α β : Type} {P : α → β → Prop} {a a' : α} {bs : List β} (h : All2 P [a, a'] bs) : ∃ b b', bs = [b, b'] ∧ P a b ∧ P a' b' := by
  cases h with
  | cons x y => obtain ⟨b, rfl, z⟩ := all1 y; exact ⟨_, _, rfl, x, z⟩
theorem all3_ {α β : Type} {P : α → β → Prop} {a a' a'' : α} {bs : List β} (h : All2 P [a, a', a''] bs) : ∃ b b' b'', bs = [b, b', b''] ∧ P a b ∧ P a' b' ∧ P a'' b'' := by
  cases h with
  | cons x y => obtain ⟨b, b', rfl, z, z'⟩ := all2_ y; exact ⟨_, _, _, rfl, x, z, z'⟩
theorem vpri_ok {g : G} {p : Pr} {ds : List PyData} {vs : List Val} {r : PyData} (hz : ∀ z ∈ Z, z < h.length) (s : ∀ n ∈ Y, n ∈ Z) (a : All2 (Rd Z Y h) ds vs) (hv : vpri p ds = some r) : (Mi.pri g p vs h).sat (Good Z h r) nox := by
  cases p with
  | len =>
    unfold vpri at hv
    dsimp only at hv
    split at hv
    · obtain ⟨v, rfl, i⟩ := all1 a
      obtain ⟨n, h1, rfl⟩ := mapsome hv
      have : lenV g h v = some n := by
        rename_i d
        cases d with
        | str => rw [i.str]; exact h1
        | list => obtain ⟨p, _, rfl, _, e, a⟩ := i.lst s; simp [lenV, e]; rw [a.length]; simpa [vlen] using h1
        | tuple => obtain ⟨p, _, rfl, _, e, a⟩ := i.tup; simp [lenV, e]; rw [a.length]; simpa [vlen] using h1
        | dict => obtain ⟨p, _, rfl, _, e, a⟩ := i.dic s; simp [lenV, e]; rw [kv_len a]; simpa [vlen] using h1
        | none => cases h1
        | bool => cases h1
        | int => cases h1
      unfold Mi.pri
      dsimp only
      rw [this]
      exact good_i
    · cases hv
  | max => exact vmax_ok s a hv
  | min => exact vmax_ok s a hv
  | sum =>
    unfold vpri at hv
    dsimp only at hv
    split at hv
    · obtain ⟨v, rfl, i⟩ := all1 a
      obtain ⟨n, h1, rfl⟩ := mapsome hv
      obtain ⟨ds, h2, h3⟩ := bindsome h1
      obtain ⟨xs, h4, h5⟩ := seq_ok s i h2
      unfold Mi.pri
      simp only [h4, Option.bind_some, vints_ok h5 h3]
      exact good_i
    · cases hv
  | all =>
    unfold vpri at hv
    dsimp only at hv
    split at hv
    · obtain ⟨v, rfl, i⟩ := all1 a
      obtain ⟨n, h1, rfl⟩ := mapsome hv
      obtain ⟨ds, h2, h3⟩ := bindsome h1
      obtain ⟨xs, h4, h5⟩ := lst_ok s i h2
      unfold Mi.pri
      simp only [h4, Option.bind_some, vbls_ok h5 h3]
      exact good_b
    · cases hv
  | any =>
    unfold vpri at hv
    dsimp only at hv
    split at hv
    · obtain ⟨v, rfl, i⟩ := all1 a
      obtain ⟨n, h1, rfl⟩ := mapsome hv
      obtain ⟨ds, h2, h3⟩ := bindsome h1
      obtain ⟨xs, h4, h5⟩ := lst_ok s i h2
      unfold Mi.pri
      simp only [h4, Option.bind_some, vbls_ok h5 h3]
      exact good_b
    · cases hv
  | int =>
    unfold vpri at hv
    dsimp only at hv
    split at hv
    · obtain ⟨v, rfl, i⟩ := all1 a
      cases hv
      rw [i.int]
      exact good_i
    · obtain ⟨v, rfl, i⟩ := all1 a
      cases hv
      rw [i.bl]
      exact good_i
    · obtain ⟨v, rfl, i⟩ := all1 a
      split at hv
      · rename_i c
        obtain ⟨n, h1, rfl⟩ := mapsome hv
        rw [i.str]
        unfold Mi.pri
        dsimp only
        rw [h1]
        dsimp only
        rw [if_pos c]
        exact good_i
      · cases hv
    · cases hv
  | str =>
    unfold vpri at hv
    dsimp only at hv
    split at hv
    · obtain ⟨v, rfl, i⟩ := all1 a
      split at hv
      · rename_i c
        cases hv
        rw [i.int]
        unfold Mi.pri
        dsimp only
        rw [if_pos c]
        exact good_s
      · cases hv
    · obtain ⟨v, rfl, i⟩ := all1 a
      cases hv
      rw [i.str]
      exact good_s
    · cases hv
  | bool =>
    unfold vpri at hv
    dsimp only at hv
    split at hv
    · obtain ⟨v, rfl, i⟩ := all1 a
      cases hv
      rw [i.int]
      exact good_b
    · obtain ⟨v, rfl, i⟩ := all1 a
      cases hv
      rw [i.bl]
      exact good_b
    · cases hv
  | list =>
    unfold vpri at hv
    dsimp only at hv
    split at hv
    · obtain ⟨v, rfl, i⟩ := all1 a
      obtain ⟨ds, h1, rfl⟩ := mapsome hv
      obtain ⟨xs, h4, h5⟩ := seq_ok s i h1
      unfold Mi.pri
      simp only [h4]
      exact new_lst hz h5
    · cases hv
  | tuple =>
    unfold vpri at hv
    dsimp only at hv
    split at hv
    · obtain ⟨v, rfl, i⟩ := all1 a
      obtain ⟨ds, h1, rfl⟩ := mapsome hv
      rename_i d
      cases d <;> cases h1
      · obtain ⟨p, xs, rfl, _, e, a⟩ := i.lst s
        simp only [Mi.pri, e]
        exact new_tup hz a
      · have i2 := i.tupIs
        obtain ⟨p, xs, rfl, _, e, a⟩ := i.tup
        simp only [Mi.pri, e]
        exact ⟨Fr.refl _, i2, nw_flat rfl⟩
    · cases hv
  | isinst => cases hv
  | divmod =>
    unfold vpri at hv
    dsimp only at hv
    split at hv
    · obtain ⟨v, v', rfl, i, j⟩ := all2_ a
      split at hv
      · rename_i c
        cases hv
        rw [i.int, j.int]
        unfold Mi.pri
        dsimp only
        rw [if_pos c]
        exact new_tup hz (isall_cons is_int (isall_cons is_int isall_nil))
      · cases hv
    · cases hv
  | repr =>
    unfold vpri at hv
    dsimp only at hv
    split at hv
    · obtain ⟨v, rfl, i⟩ := all1 a
      split at hv
      · rename_i c
        cases hv
        unfold Mi.pri
        dsimp only
        rw [(i.is s).rd c.2.1]
        dsimp only
        rw [if_pos c]
        exact good_s
      · cases hv
    · cases hv
theorem vmet_ok {m : Me} {ds : List PyData} {vs : List Val} {r : PyData} (hz : ∀ z ∈ Z, z < h.length) (s : ∀ n ∈ Y, n ∈ Z) (i : Rd Z Y h d x) (a : All2 (Rd Z Y h) ds vs) (hv : vmet m d ds = some r) : rcv m x h = true ∧ (Mi.met m x vs h).sat (Good Z h r) nox := by
  unfold vmet at hv
  split at hv
  · obtain ⟨v, rfl, j⟩ := all1 a
    rw [i.str]
    refine ⟨rfl, ?_⟩
    split at hv
    · rename_i ys h1
      split at hv
      · rename_i c
        cases hv
        obtain ⟨ds, h2, h3⟩ := bindsome h1
        obtain ⟨xs, h4, h5⟩ := seq_ok s j h2
        unfold Mi.met
        simp only [h4, Option.bind_some, vstrs_ok h5 h3]
        rw [if_pos c]
        exact good_s
      · cases hv
    · cases hv
  · obtain ⟨v, rfl, j⟩ := all1 a
    rw [i.str, j.str]
    refine ⟨rfl, ?_⟩
    split at hv
    · rename_i c
      cases hv
      unfold Mi.met
      dsimp only
      rw [if_pos c]
      exact new_lst hz (isall_map (k := PyData.str) (f := Val.str) (fun _ => is_str) _)
    · cases hv
  · obtain ⟨v, rfl, j⟩ := all1 a
    rw [i.str, j.str]
    refine ⟨rfl, ?_⟩
    split at hv
    · rename_i k _ h1
      cases hv
      unfold Mi.met
      dsimp only
      rw [h1]
      exact good_i
    · cases hv
  · obtain ⟨v, rfl, j⟩ := all1 a
    obtain ⟨p, xs, rfl, _, e, a⟩ := i.lst s
    rw [j.int]
    refine ⟨by unfold rcv lstO; simp [e], ?_⟩
    obtain ⟨ns, h1, rfl⟩ := mapsome hv
    unfold Mi.met
    simp only [e, vints_ok a h1]
    exact good_i
  · cases hv
theorem vinr_ok {neg : Bool} {ds : List PyData} {vs : List Val} {r : PyData} (i : Rd Z Y h d x) (a : All2 (Rd Z Y h) ds vs) (hv : vinr neg d ds = some r) : (inrV neg x vs h).sat (Good Z h r) nox := by
  unfold vinr at hv
  split at hv
  · obtain ⟨v, rfl, j⟩ := all1 a
    cases hv
    rw [i.int, j.int]
    exact good_b
  · obtain ⟨v, v', rfl, j, j'⟩ := all2_ a
    cases hv
    rw [i.int, j.int, j'.int]
    exact good_b
  · cases hv
/-! ## dicts -/
theorem putK_app {ds : List (PyData × PyData)} {xs : List (Key × Val)} {k : Key} (j : Is Z h d v) : IsKv Z h ds xs → IsKv Z h (ds ++ [(keyD k, d)]) (xs ++ [(k, v)]) := by
  induction ds generalizing xs with
  | nil => intro i; unfold IsKv at i; subst i; show IsKv Z h [(keyD k, d)] [(k, v)]; unfold IsKv; exact ⟨k, v, [], rfl, rfl, j, by unfold IsKv; rfl⟩
  | cons q ds ih =>
    obtain ⟨kd, d'⟩ := q
    intro i
    unfold IsKv at i
    obtain ⟨q, y, ys, rfl, rfl, a, b⟩ := i
    show IsKv Z h ((keyD q, d') :: (ds ++ [(keyD k, d)])) ((q, y) :: (ys ++ [(k, v)]))
    unfold IsKv
    exact ⟨q, y, _, rfl, rfl, a, ih b⟩
theorem putK_map {k : Key} (j : Is Z h d v) : ∀ {ds : List (PyData × PyData)} {xs : List (Key × Val)}, IsKv Z h ds xs → IsKv Z h (ds.map fun kv => if keyO kv.1 = some k then (kv.1, d) else kv) (xs.map fun kv => if kv.1 = k then (kv.1, v) else kv)
  | [], xs, i => by unfold IsKv at i; subst i; show IsKv Z h [] []; unfold IsKv; rfl
  | (kd, d') :: ds, xs, i => by
    unfold IsKv at i
    obtain ⟨q, y, ys, rfl, rfl, a, b⟩ := i
    have ih := putK_map (k := k) j b
    simp only [List.map_cons, keyO_keyD, Option.some.injEq]
    by_cases c : q = k
    · rw [if_pos c, if_pos c]
      unfold IsKv
      exact ⟨q, v, _, rfl, rfl, j, ih⟩
    · rw [if_neg c, if_neg c]
      unfold IsKv
      exact ⟨q, y, _, rfl, rfl, a, ih⟩
theorem any_key {k : Key} : ∀ {ds : List (PyData × PyData)} {xs : List (Key × Val)}, IsKv Z h ds xs → (ds.any fun kv => decide (keyO kv.1 = some k)) = xs.any fun kv => decide (kv.1 = k)
  | [], xs, i => by unfold IsKv at i; subst i; rfl
  | (kd, d') :: ds, xs, i => by
    unfold IsKv at i
    obtain ⟨q, y, ys, rfl, rfl, a, b⟩ := i
    rw [List.any_cons, List.any_cons, any_key b]
    simp only [keyO_keyD, Option.some.injEq]
theorem putK_v {k : Key} {ds : List (PyData × PyData)} {xs : List (Key × Val)} (i : IsKv Z h ds xs) (j : Is Z h d v) : IsKv Z h (vputK ds k d) (putK xs k v) := by
  unfold vputK putK
  rw [any_key i]
  split
  · exact putK_map j i
  · exact putK_app j i
theorem kvs_ok : ∀ {ds : List PyData} {vs : List Val} {kvs : List (Key × PyData)}, IsAll Z h ds vs → vkvs ds = some kvs → ∃ xs : List (Key × Val), kvsO vs = some xs ∧ All2 (fun a b => a.1 = b.1 ∧ Is Z h a.2 b.2) kvs xs
  | [], vs, kvs, i, e => by cases e; rw [i.nil]; exact ⟨[], rfl, .nil⟩
  | [d], vs, kvs, i, e => by cases e
  | k :: d :: ds, vs, kvs, i, e => by
    obtain ⟨y, ys, rfl, a, b⟩ := i.cons
    obtain ⟨z, zs, rfl, a2, b2⟩ := b.cons
    unfold vkvs at e
    split at e
    · rename_i k' r h1 h2
      cases e
      obtain ⟨xs, h3, h4⟩ := kvs_ok b2 h2
      refine ⟨(k', z) :: xs, ?_, .cons ⟨rfl, a2⟩ h4⟩
      unfold kvsO
      rw [a.key, h1, h3]
    · cases e
theorem fold_put : ∀ {kvs : List (Key × PyData)} {xs : List (Key × Val)} {ds : List (PyData × PyData)} {zs : List (Key × Val)}, All2 (fun a b => a.1 = b.1 ∧ Is Z h a.2 b.2) kvs xs → IsKv Z h ds zs →
    IsKv Z h (kvs.foldl (fun acc kv => vputK acc kv.1 kv.2) ds) (xs.foldl (fun acc kv => putK acc kv.1 kv.2) zs)
  | _, _, ds, zs, .nil, i => i
  | _, _, ds, zs, .cons a b, i => by
    rw [List.foldl_cons, List.foldl_cons]
    rw [a.1]
    exact fold_put b (putK_v i a.2)
theorem is_dic {p : Nat} {xs : List (Key × Val)} {ds : List (PyData × PyData)} (hp : p ∉ Z) (e : h[p]? = some (.dic xs)) (a : IsKv Z h ds xs) : Is Z h (.dict ds) (.ref p) := by unfold Is; exact ⟨p, xs, rfl, hp, e, a⟩
theorem IsKv.fr {h' : Heap} {ds : List (PyData × PyData)} {xs : List (Key × Val)} (i : IsKv Z h ds xs) (f : Fr h h') : IsKv Z h' ds xs := i.mono fun n o hn e => ⟨hn, f.at e⟩
theorem new_dic {ds : List (PyData × PyData)} {xs : List (Key × Val)} (hz : ∀ z ∈ Z, z < h.length) (a : IsKv Z h ds xs) : (new (.dic xs) h).sat (Good Z h (.dict ds)) nox :=
  sat_new fun n h' e l _ F => ⟨F, is_dic (fun z => by have := hz n z; omega) e (a.fr F), fun _ p e => by cases e; omega⟩
/-! ## what loops walk -/
def ItR (Z : List Nat) (h : Heap) (d : PyData) : It → Prop
  | .v x => Is Z h d x
  | .pr x y => ∃ a b, d = .tuple [a, b] ∧ Is Z h a x ∧ Is Z h b y
  | .tr x y z => ∃ a b c, d = .tuple [a, b, c] ∧ Is Z h a x ∧ Is Z h b y ∧ Is Z h c z
theorem ItR.mono {Z' : List Nat} {h' : Heap} {i : It} (r : ItR Z h d i) (f : ∀ d v, Is Z h d v → Is Z' h' d v) : ItR Z' h' d i := by
  cases i with
  | v x => exact f _ _ r
  | pr x y => obtain ⟨a, b, e, h1, h2⟩ := r; exact ⟨a, b, e, f _ _ h1, f _ _ h2⟩
  | tr x y z => obtain ⟨a, b, c, e, h1, h2, h3⟩ := r; exact ⟨a, b, c, e, f _ _ h1, f _ _ h2, f _ _ h3⟩
theorem itr_v : ∀ {ds : List PyData} {xs : List Val}, IsAll Z h ds xs → All2 (ItR Z h) ds (xs.map It.v)
  | [], xs, i => by rw [i.nil]; exact .nil
  | d :: ds, xs, i => by
    obtain ⟨y, ys, rfl, a, b⟩ := i.cons
    exact .cons a (itr_v b)
theorem itr_pair : ∀ {ds es : List PyData} {xs ys : List Val}, IsAll Z h ds xs → IsAll Z h es ys → All2 (ItR Z h) (vpair ds es) (pairI xs ys)
  | [], es, xs, ys, i, j => by rw [i.nil]; unfold vpair pairI; exact .nil
  | d :: ds, [], xs, ys, i, j => by rw [j.nil]; cases xs <;> (unfold vpair pairI; exact .nil)
  | d :: ds, e :: es, xs, ys, i, j => by
    obtain ⟨x, xs, rfl, a, b⟩ := i.cons
    obtain ⟨y, ys, rfl, a', b'⟩ := j.cons
    exact .cons ⟨d, e, rfl, a, a'⟩ (itr_pair b b')
theorem itr_trip : ∀ {ds es fs : List PyData} {xs ys zs : List Val}, IsAll Z h ds xs → IsAll Z h es ys → IsAll Z h fs zs → All2 (ItR Z h) (vtrip ds es fs) (tripI xs ys zs)
  | [], es, fs, xs, ys, zs, i, j, k => by rw [i.nil]; unfold vtrip tripI; exact .nil
  | d :: ds, [], fs, xs, ys, zs, i, j, k => by rw [j.nil]; cases xs <;> (unfold vtrip tripI; exact .nil)
  | d :: ds, e :: es, [], xs, ys, zs, i, j, k => by rw [k.nil]; cases xs <;> cases ys <;> (unfold vtrip tripI; exact .nil)
  | d :: ds, e :: es, f :: fs, xs, ys, zs, i, j, k => by
    obtain ⟨x, xs, rfl, a, b⟩ := i.cons
    obtain ⟨y, ys, rfl, a', b'⟩ := j.cons
    obtain ⟨z, zs, rfl, a'', b''⟩ := k.cons
    exact .cons ⟨d, e, f, rfl, a, a', a''⟩ (itr_trip b b' b'')
theorem itr_enum : ∀ {n : Nat} {ds : List PyData} {xs : List Val}, IsAll Z h ds xs → All2 (ItR Z h) (venum n ds) (enumI n xs)
  | n, [], xs, i => by rw [i.nil]; exact .nil
  | n, d :: ds, xs, i => by
    obtain ⟨x, xs, rfl, a, b⟩ := i.cons
    exact .cons ⟨.int n, d, rfl, is_int, a⟩ (itr_enum b)
theorem itr_rng : ∀ {n : Nat} {lo : Int}, All2 (ItR Z h) (vrng lo n) (intItems lo n)
  | 0, lo => .nil
  | n + 1, lo => .cons (show Is Z h (.int lo) (.int lo) from is_int) itr_rng
theorem itr_chars : ∀ cs : List Nat, All2 (ItR Z h) (cs.map fun c => PyData.str ⟨#[c]⟩) (cs.map fun c => It.v (.str ⟨#[c]⟩))
  | [] => .nil
  | c :: cs => .cons (show Is Z h (.str ⟨#[c]⟩) (.str ⟨#[c]⟩) from is_str) (itr_chars cs)
/-- the walk stands -/
def Stn (Y : List Nat) (h : Heap) (w : Walk) : Prop := ∀ q ∈ w.stands, h[q.1]? = some q.2 ∧ q.1 ∉ Y
theorem Stn.ok {w : Walk} (s : Stn Y h w) : w.ok h = true := by
  unfold Walk.ok
  rw [List.all_eq_true]
  exact fun q hq => decide_eq_true (s q hq).1
theorem vsrc_ok {sr : Src} {ds its : List PyData} {vs : List Val} (s : ∀ n ∈ Y, n ∈ Z) (a : All2 (Rd Z Y h) ds vs) (hv : vsrc sr ds = some its) : ∃ w, srcR sr vs h = .ok w h ∧ All2 (ItR Z h) its w.items ∧ Stn Y h w := by
  have stn0 : ∀ its, Stn Y h ⟨its, []⟩ := fun its q hq => by cases hq
  cases sr with
  | val =>
    unfold vsrc at hv
    dsimp only at hv
    split at hv
    · obtain ⟨v, rfl, i⟩ := all1 a
      cases hv
      rw [i.str]
      exact ⟨_, rfl, itr_chars _, stn0 _⟩
    · obtain ⟨v, rfl, i⟩ := all1 a
      obtain ⟨p, xs, rfl, hp, e1 | e1, b⟩ := i.seq s hv
      · refine ⟨_, srcR_lst e1, itr_v b, fun q hq => ?_⟩
        rw [List.mem_singleton.mp hq]
        exact ⟨e1, hp⟩
      · refine ⟨_, srcR_tup e1, itr_v b, fun q hq => ?_⟩
        rw [List.mem_singleton.mp hq]
        exact ⟨e1, hp⟩
    · cases hv
  | rng1 =>
    unfold vsrc at hv
    dsimp only at hv
    split at hv
    · obtain ⟨v, rfl, i⟩ := all1 a
      split at hv
      · rename_i c
        cases hv
        rw [i.int]
        refine ⟨_, ?_, itr_rng, stn0 _⟩
        unfold srcR srcV
        dsimp only
        rw [if_pos c]
      · cases hv
    · cases hv
  | rng2 =>
    unfold vsrc at hv
    dsimp only at hv
    split at hv
    · obtain ⟨v, v', rfl, i, i'⟩ := all2_ a
      split at hv
      · rename_i c
        cases hv
        rw [i.int, i'.int]
        refine ⟨_, ?_, itr_rng, stn0 _⟩
        unfold srcR srcV
        dsimp only
        rw [if_pos c]
      · cases hv
    · cases hv
  | enum =>
    unfold vsrc at hv
    dsimp only at hv
    split at hv
    · obtain ⟨v, rfl, i⟩ := all1 a
      cases hv
      obtain ⟨p, xs, rfl, hp, e1, b⟩ := i.lst s
      refine ⟨⟨enumI 0 xs, [(p, .lst xs)]⟩, ?_, itr_enum b, fun q hq => ?_⟩
      · unfold srcR srcV
        simp [e1]
      · rw [List.mem_singleton.mp hq]
        exact ⟨e1, hp⟩
    · cases hv
  | zip =>
    unfold vsrc at hv
    dsimp only at hv
    split at hv
    · obtain ⟨v, v', rfl, i, i'⟩ := all2_ a
      split at hv
      · rename_i xs ys h1 h2
        cases hv
        obtain ⟨p, xs, rfl, hp, e1, b⟩ := i.seq s h1
        obtain ⟨p', xs', rfl, hp', e1', b'⟩ := i'.seq s h2
        rcases e1 with e1 | e1 <;> rcases e1' with e1' | e1'
        all_goals
          refine ⟨⟨pairI xs xs', [(p, _), (p', _)]⟩, by unfold srcR srcV obO; simp only [e1, e1']; rfl, itr_pair b b', fun q hq => ?_⟩
          rcases List.mem_cons.mp hq with rfl | hq
          · exact ⟨e1, hp⟩
          · rw [List.mem_singleton.mp hq]
            exact ⟨e1', hp'⟩
      · cases hv
    · cases hv
  | zip3 =>
    unfold vsrc at hv
    dsimp only at hv
    split at hv
    · obtain ⟨v, v', v'', rfl, i, i', i''⟩ := all3_ a
      split at hv
      · rename_i xs ys zs h1 h2 h3
        cases hv
        obtain ⟨p, xs, rfl, hp, e1, b⟩ := i.seq s h1
        obtain ⟨p', xs', rfl, hp', e1', b'⟩ := i'.seq s h2
        obtain ⟨p'', xs'', rfl, hp'', e1'', b''⟩ := i''.seq s h3
        rcases e1 with e1 | e1 <;> rcases e1' with e1' | e1' <;> rcases e1'' with e1'' | e1''
        all_goals
          refine ⟨⟨tripI xs xs' xs'', [(p, _), (p', _), (p'', _)]⟩, by unfold srcR srcV obO; simp only [e1, e1', e1'']; rfl, itr_trip b b' b'', fun q hq => ?_⟩
          rcases List.mem_cons.mp hq with rfl | hq
          · exact ⟨e1, hp⟩
          · rcases List.mem_cons.mp hq with rfl | hq
            · exact ⟨e1', hp'⟩
            · rw [List.mem_singleton.mp hq]
              exact ⟨e1'', hp''⟩
      · cases hv
    · cases hv
  | rev =>
    unfold vsrc at hv
    dsimp only at hv
    split at hv
    · obtain ⟨v, rfl, i⟩ := all1 a
      cases hv
      obtain ⟨p, xs, rfl, hp, e1, b⟩ := i.lst s
      refine ⟨⟨xs.reverse.map .v, [(p, .lst xs)]⟩, ?_, itr_v b.reverse, fun q hq => ?_⟩
      · unfold srcR srcV
        simp [e1]
      · rw [List.mem_singleton.mp hq]
        exact ⟨e1, hp⟩
    · cases hv
theorem yield_ok {i : It} (hz : ∀ z ∈ Z, z < h.length) (r : ItR Z h d i) : Fr h (yieldI i h).2 ∧ Is Z (yieldI i h).2 d (yieldI i h).1 := by
  cases i with
  | v x => exact ⟨Fr.refl _, r⟩
  | pr x y =>
    obtain ⟨a, b, rfl, h1, h2⟩ := r
    refine ⟨Fr.push _ _, is_tup (xs := [x, y]) (fun z => ?_) (by simp [yieldI]) (isall_cons (h1.fr (Fr.push _ _)) (isall_cons (h2.fr (Fr.push _ _)) isall_nil))⟩
    exact Nat.lt_irrefl _ (hz _ z)
  | tr x y z =>
    obtain ⟨a, b, c, rfl, h1, h2, h3⟩ := r
    refine ⟨Fr.push _ _, is_tup (xs := [x, y, z]) (fun z => ?_) (by simp [yieldI]) (isall_cons (h1.fr (Fr.push _ _)) (isall_cons (h2.fr (Fr.push _ _)) (isall_cons (h3.fr (Fr.push _ _)) isall_nil)))⟩
    exact Nat.lt_irrefl _ (hz _ z)
/-- list(zip(..)), laid -/
theorem range_get {n k : Nat} (f : Nat → Val) (hk : k < n) : ((List.range n).map f)[k]? = some (f k) := by
  rw [List.getElem?_map, List.getElem?_range hk]
  rfl
theorem lay_pairs (h0 : Heap) (hz : ∀ z ∈ Z, z < h0.length) : ∀ {ds : List PyData} {ps : List (Val × Val)} (k : Nat), All2 (fun d p => ∃ a b, d = PyData.tuple [a, b] ∧ Is Z h a p.1 ∧ Is Z h b p.2) ds ps →
    (∀ j p, ps[j]? = some p → h[h0.length + k + j]? = some (.tup [p.1, p.2])) → IsAll Z h ds ((List.range' k ps.length).map fun i => .ref (h0.length + i))
  | _, _, k, .nil, _ => isall_nil
  | d :: ds, p :: ps, k, .cons ⟨a, b, e, i1, i2⟩ r, f => by
    rw [List.length_cons, List.range'_succ, List.map_cons, e]
    refine isall_cons (is_tup (fun z => by have := hz _ z; omega) (f 0 p rfl) (isall_cons i1 (isall_cons i2 isall_nil))) (lay_pairs h0 hz (k + 1) r fun j q hq => ?_)
    have := f (j + 1) q (by simpa using hq)
    rw [show h0.length + (k + 1) + j = h0.length + k + (j + 1) by omega]
    exact this
theorem zip_all2 : ∀ {ds es : List PyData} {xs ys : List Val}, IsAll Z h ds xs → IsAll Z h es ys → All2 (fun d p => ∃ a b, d = PyData.tuple [a, b] ∧ Is Z h a p.1 ∧ Is Z h b p.2) (vpair ds es) (xs.zip ys)
  | [], es, xs, ys, i, j => by rw [i.nil]; unfold vpair; exact .nil
  | d :: ds, [], xs, ys, i, j => by rw [j.nil, List.zip_nil_right]; unfold vpair; exact .nil
  | d :: ds, e :: es, xs, ys, i, j => by
    obtain ⟨x, xs, rfl, a, b⟩ := i.cons
    obtain ⟨y, ys, rfl, a', b'⟩ := j.cons
    exact .cons ⟨d, e, rfl, a, a'⟩ (zip_all2 b b')
theorem vlz_ok {ds : List PyData} {vs : List Val} {r : PyData} (hz : ∀ z ∈ Z, z < h.length) (s : ∀ n ∈ Y, n ∈ Z) (a : All2 (Rd Z Y h) ds vs) (hv : vlz ds = some r) : (lzO vs h).sat (Good Z h r) nox := by
  unfold vlz at hv
  split at hv
  · obtain ⟨v, v', rfl, i, i'⟩ := all2_ a
    split at hv
    · rename_i xs ys h1 h2
      cases hv
      obtain ⟨us, k1, b⟩ := seq_ok s i h1
      obtain ⟨ws, k2, b'⟩ := seq_ok s i' h2
      unfold lzO
      simp only [k1, k2]
      unfold lzV
      have F : Fr h (h ++ ((us.zip ws).map (fun p => Ob.tup [p.1, p.2]) ++ [.lst ((List.range (us.zip ws).length).map fun k => .ref (h.length + k))])) := ⟨by simp, fun m hm => List.getElem?_append_left hm⟩
      refine ⟨F, is_lst (xs := (List.range (us.zip ws).length).map fun k => .ref (h.length + k)) (fun z => by have := hz _ z; omega) ?_ ?_, fun _ p e => by cases e; omega⟩
      · rw [List.getElem?_append_right (by omega), List.getElem?_append_right (by rw [List.length_map]; omega), List.length_map, show h.length + (us.zip ws).length - h.length - (us.zip ws).length = 0 by omega]
        rfl
      · have := lay_pairs (Z := Z) h hz 0 (zip_all2 (b.fr F) (b'.fr F)) fun j p hp => by
          have hj := (List.getElem?_eq_some_iff.mp hp).1
          rw [List.getElem?_append_right (by omega), show h.length + 0 + j - h.length = j by omega, List.getElem?_append_left (by rw [List.length_map]; exact hj), List.getElem?_map, hp]
          rfl
        rw [← List.range_eq_range'] at this
        exact this
    · cases hv
  · cases hv
end
end Mi


/-! # Mi17: data against the heap: expressions -/
namespace Mi
open PySem (Str PyData)
abbrev Fb (b : Option Nat) (h h' : Heap) : Prop := Fo b.toList h h'
def BxS (b : Option Nat) (s : VS) (h : Heap) : Prop := ∀ β, s = some β → ∃ n, b = some n ∧ h[n]? = some (.lst [.int β.x, .int β.y, .int β.z])
theorem BxS.fr {b : Option Nat} {s : VS} {h h' : Heap} (B : BxS b s h) (F : Fr h h') : BxS b s h' := fun β e => by
  obtain ⟨n, e1, e2⟩ := B β e
  exact ⟨n, e1, F.at e2⟩
def FsR (Z : List Nat) (h : Heap) (fds : List (Str × PyData)) (fs : List (Str × Val)) : Prop := All2 (fun a b => a.1 = b.1 ∧ Is Z h a.2 b.2) fds fs
def PoV {α β : Type} (P : Heap → α → β → Prop) (b : Option Nat) (h : Heap) (r : Vr α) : RQ β := fun v h' => ∃ d s', r = .ok d s' ∧ P h' d v ∧ Fb b h h' ∧ BxS b s' h'
def PoX {α : Type} (Z : List Nat) (b : Option Nat) (h : Heap) (r : Vr α) : RE := fun c fs h' => ∃ fds s', r = .exc c fds s' ∧ FsR Z h' fds fs ∧ Fb b h h' ∧ BxS b s' h'
theorem po_bind {α β α' β' : Type} {Z : List Nat} {b : Option Nat} {h : Heap} {rr : Res β} {kk : β → Heap → Res β'} {r1 : Vr α} {f : α → VS → Vr α'} {P : Heap → α → β → Prop} {P' : Heap → α' → β' → Prop}
    (h1 : r1 ≠ .bad → rr.sat (PoV P b h r1) (PoX Z b h r1)) (hne : r1.bind f ≠ .bad)
    (h2 : ∀ v d s1 hh, r1 = .ok d s1 → P hh d v → Fb b h hh → BxS b s1 hh → f d s1 ≠ .bad → (kk v hh).sat (PoV P' b hh (f d s1)) (PoX Z b hh (f d s1))) :
    (rr.bind kk).sat (PoV P' b h (r1.bind f)) (PoX Z b h (r1.bind f)) := by
  rw [sat_bind]
  have n1 : r1 ≠ .bad := fun e => hne (by rw [e]; rfl)
  refine (h1 n1).imp (fun v hh z => ?_) (fun c fs hh z => ?_)
  · obtain ⟨d, s1, e, p, F, B⟩ := z
    subst e
    refine (h2 v d s1 hh rfl p F B hne).imp (fun v' h' z => ?_) (fun c fs h' z => ?_)
    · obtain ⟨d', s', e, p', F', B'⟩ := z
      exact ⟨d', s', e, p', F.trans F', B'⟩
    · obtain ⟨fd, s', e, p', F', B'⟩ := z
      exact ⟨fd, s', e, p', F.trans F', B'⟩
  · obtain ⟨fd, s', e, p', F', B'⟩ := z
    subst e
    exact ⟨fd, s', rfl, p', F', B'⟩
theorem po_ok {α β : Type} {Z : List Nat} {b : Option Nat} {h : Heap} {s : VS} {d : α} {v : β} {P : Heap → α → β → Prop} (p : P h d v) (B : BxS b s h) : (Res.ok v h).sat (PoV P b h (.ok d s)) (PoX Z b h (.ok d s)) := ⟨d, s, rfl, p, Fo.refl _ _, B⟩
theorem po_ofD {Z Z' : List Nat} {b : Option Nat} {h : Heap} {s : VS} {o : Option PyData} {rr : Res Val} {P : Heap → PyData → Val → Prop} (ne : ofD o s ≠ .bad) (hr : ∀ r, o = some r → rr.sat (Good Z h r) nox) (B : BxS b s h)
    (hp : ∀ h' d v, Fr h h' → Is Z h' d v → Nw h.length d v → P h' d v) : rr.sat (PoV P b h (ofD o s)) (PoX Z' b h (ofD o s)) := by
  cases o with
  | none => exact (ne rfl).elim
  | some r => exact (hr r rfl).imp (fun v h' z => ⟨r, s, rfl, hp h' r v z.1 z.2.1 z.2.2, Fo.of z.1, B.fr z.1⟩) fun _ _ _ z => z.elim
theorem ofD_bind {α β : Type} {a : α} {s : VS} {f : α → VS → Vr β} : (ofD (some a) s).bind f = f a s := rfl
theorem po_go {α β : Type} {Z : List Nat} {b : Option Nat} {h h3 : Heap} {x : Res β} {r : Vr α} {P : Heap → α → β → Prop} (F3 : Fb b h h3) (z : x.sat (PoV P b h3 r) (PoX Z b h3 r)) : x.sat (PoV P b h r) (PoX Z b h r) :=
  z.imp (fun v h' ⟨d, s', e, p, F, B⟩ => ⟨d, s', e, p, F3.trans F, B⟩) fun c fs h' ⟨d, s', e, p, F, B⟩ => ⟨d, s', e, p, F3.trans F, B⟩
theorem ofD_some {α β : Type} {o : Option α} {s : VS} {f : α → VS → Vr β} (ne : (ofD o s).bind f ≠ .bad) : ∃ a, o = some a := by
  cases o with
  | none => exact (ne rfl).elim
  | some a => exact ⟨a, rfl⟩
/-- what is there of lists that are written (A), of what is kept apart besides (Y, the box in it) -/
structure VW (A Y : List Nat) (b : Option Nat) (n0 : Nat) (h : Heap) : Prop where
  al : ∀ a ∈ A, n0 ≤ a ∧ a < h.length
  yl : ∀ y ∈ Y, y < n0
  nl : n0 ≤ h.length
  bx : ∀ n, b = some n → n ∈ Y
def Own (Z : List Nat) (h : Heap) (p : Nat) : PyData → Prop
  | .list ds => ∃ xs, h[p]? = some (.lst xs) ∧ IsAll Z h ds xs
  | .dict ds => ∃ xs, h[p]? = some (.dic xs) ∧ IsKv Z h ds xs
  | _ => False
structure VSR (M A Y : List Nat) (b : Option Nat) (h : Heap) (σ : Sl) (τ : VSl) : Prop where
  len : τ.length = σ.length
  st : ∀ i d, τ[i]? = some (some (.d d)) → i ∉ M → ∃ v, σ[i]? = some (some v) ∧ Is (A ++ Y) h d v
  mu : ∀ i d, τ[i]? = some (some (.d d)) → i ∈ M → ∃ p, p ∈ A ∧ σ[i]? = some (some (.ref p)) ∧ Own (A ++ Y) h p d
  box : ∀ i : Nat, τ[i]? = some (some VV.box) → ∃ n : Nat, b = some n ∧ σ[i]? = some (some (Val.ref n))
  scr : ∀ i : Nat, τ[i]? = some (some VV.scr) → σ[i]? = some (some Val.scr)
  ap : ∀ i j p d e, i ∈ M → j ∈ M → i ≠ j → τ[i]? = some (some (.d d)) → τ[j]? = some (some (.d e)) → σ[i]? = some (some (.ref p)) → σ[j]? ≠ some (some (.ref p))
section
variable {M A Y : List Nat} {b : Option Nat} {n0 : Nat} {h h' : Heap} {σ : Sl} {τ : VSl} {d : PyData} {v : Val}
theorem VW.fb (W : VW A Y b n0 h) (F : Fb b h h') : VW A Y b n0 h' := ⟨fun a ha => ⟨(W.al a ha).1, Nat.lt_of_lt_of_le (W.al a ha).2 F.len⟩, W.yl, Nat.le_trans W.nl F.len, W.bx⟩
theorem VW.ab (W : VW A Y b n0 h) : ∀ z ∈ A ++ Y, z < h.length := fun z hz => by
  rcases List.mem_append.mp hz with m | m
  · exact (W.al z m).2
  · exact Nat.lt_of_lt_of_le (W.yl z m) W.nl
theorem VW.yb (W : VW A Y b n0 h) : ∀ z ∈ Y, z < h.length := fun z m => Nat.lt_of_lt_of_le (W.yl z m) W.nl
theorem sub_r : ∀ n ∈ Y, n ∈ A ++ Y := fun n hn => List.mem_append_right _ hn
theorem VW.nb (W : VW A Y b n0 h) {m : Nat} (hm : m ∉ Y) : m ∉ b.toList := fun z => by
  cases b with
  | none => cases z
  | some n => rw [show m = n by simpa using z] at hm; exact hm (W.bx n rfl)
theorem Is.fb {Z : List Nat} (i : Is Z h d v) (F : Fb b h h') (hz : ∀ n, n ∉ Z → n ∉ b.toList) : Is Z h' d v := i.mono fun n o hn e => ⟨hn, F.at e (hz n hn)⟩
theorem IsAll.fb {Z : List Nat} {ds : List PyData} {xs : List Val} (i : IsAll Z h ds xs) (F : Fb b h h') (hz : ∀ n, n ∉ Z → n ∉ b.toList) : IsAll Z h' ds xs := i.mono fun n o hn e => ⟨hn, F.at e (hz n hn)⟩
theorem IsKv.fb {Z : List Nat} {ds : List (PyData × PyData)} {xs : List (Key × Val)} (i : IsKv Z h ds xs) (F : Fb b h h') (hz : ∀ n, n ∉ Z → n ∉ b.toList) : IsKv Z h' ds xs := i.mono fun n o hn e => ⟨hn, F.at e (hz n hn)⟩
theorem VW.zb (W : VW A Y b n0 h) : ∀ n, n ∉ A ++ Y → n ∉ b.toList := fun n hn => W.nb fun z => hn (sub_r n z)
theorem Rd.fb (W : VW A Y b n0 h) (r : Rd (A ++ Y) Y h d v) (F : Fb b h h') : Rd (A ++ Y) Y h' d v := by
  rcases r with i | ⟨p, xs, ds, e, e', hp, e1, a⟩ | ⟨p, xs, ds, e, e', hp, e1, a⟩
  · exact .inl (i.fb F W.zb)
  · exact .inr (.inl ⟨p, xs, ds, e, e', hp, F.at e1 (W.nb hp), a.fb F W.zb⟩)
  · exact .inr (.inr ⟨p, xs, ds, e, e', hp, F.at e1 (W.nb hp), a.fb F W.zb⟩)
theorem Own.fb (W : VW A Y b n0 h) {p : Nat} (hp : p ∈ A) (o : Own (A ++ Y) h p d) (F : Fb b h h') : Own (A ++ Y) h' p d := by
  have hb : p ∉ b.toList := W.nb fun z => by have := W.yl p z; have := (W.al p hp).1; omega
  cases d with
  | list ds => obtain ⟨xs, e, a⟩ := o; exact ⟨xs, F.at e hb, a.fb F W.zb⟩
  | dict ds => obtain ⟨xs, e, a⟩ := o; exact ⟨xs, F.at e hb, a.fb F W.zb⟩
  | _ => exact o
theorem VSR.fb (W : VW A Y b n0 h) (R : VSR M A Y b h σ τ) (F : Fb b h h') : VSR M A Y b h' σ τ := by
  refine ⟨R.len, fun i d e m => ?_, fun i d e m => ?_, R.box, R.scr, R.ap⟩
  · obtain ⟨v, e1, i1⟩ := R.st i d e m
    exact ⟨v, e1, i1.fb F W.zb⟩
  · obtain ⟨p, hp, e1, i1⟩ := R.mu i d e m
    exact ⟨p, hp, e1, i1.fb W hp F⟩
def RM (md : Md) (A Y : List Nat) (h : Heap) (d : PyData) (v : Val) : Prop :=
  match md with
  | .st => Is (A ++ Y) h d v
  | .rd => Rd (A ++ Y) Y h d v
  | .es => Is Y h d v
def Md.Z (md : Md) (A Y : List Nat) : List Nat :=
  match md with
  | .es => Y
  | _ => A ++ Y
theorem RM.of {md : Md} (i : Is (A ++ Y) h d v) : RM md A Y h d v := by
  cases md with
  | st => exact i
  | rd => exact .inl i
  | es => exact i.sub sub_r
theorem RM.ofZ {md : Md} (i : Is (md.Z A Y) h d v) : RM md A Y h d v := by
  cases md with
  | st => exact i
  | rd => exact .inl i
  | es => exact i
theorem RM.fb {md : Md} (W : VW A Y b n0 h) (r : RM md A Y h d v) (F : Fb b h h') : RM md A Y h' d v := by
  cases md with
  | st => exact Is.fb r F W.zb
  | rd => exact Rd.fb W r F
  | es => exact Is.fb r F fun n hn => W.nb hn
theorem RM.tru {md : Md} (r : RM md A Y h d v) {t : Bool} (e : vtru d = some t) : truB v h = .ok t h := by
  cases md with
  | st => exact vtru_ok (Z := A ++ Y) (Y := Y) sub_r (.inl r) e
  | rd => exact vtru_ok sub_r r e
  | es => exact vtru_ok (Z := Y) (Y := Y) (fun _ z => z) (.inl r) e
theorem VW.zl {md : Md} (W : VW A Y b n0 h) : ∀ z ∈ md.Z A Y, z < h.length := by
  cases md with
  | st => exact W.ab
  | rd => exact W.ab
  | es => exact W.yb
theorem VW.zzb {md : Md} (W : VW A Y b n0 h) : ∀ n, n ∉ md.Z A Y → n ∉ b.toList := by
  cases md with
  | st => exact W.zb
  | rd => exact W.zb
  | es => exact fun n hn => W.nb hn
theorem rm_in {md : Md} {ds : List PyData} {xs : List Val} (a : All2 (RM md.in_ A Y h) ds xs) : IsAll (md.Z A Y) h ds xs := by
  cases md <;> exact isall2.mpr a
theorem rm_in1 {md : Md} (a : RM md.in_ A Y h d v) : Is (md.Z A Y) h d v := by cases md <;> exact a
theorem flat_is {Z Z' : List Nat} (f : flatD d = true) (i : Is Z h d v) : Is Z' h' d v := by
  cases d <;> cases f
  · rw [i.non]; exact is_non
  · rw [i.bl]; exact is_bl
  · rw [i.int]; exact is_int
  · rw [i.str]; exact is_str
theorem cst_is {Z : List Nat} {c : Val} (e : cstD c = some d) : Is Z h d c := by
  cases c <;> cases e
  · exact is_non
  · exact is_bl
  · exact is_int
  · exact is_str
/-- slots: one goes -/
theorem VSR.noneS (R : VSR M A Y b h σ τ) (i : Nat) (x : Option Val) : VSR M A Y b h (σ.set i x) (τ.set i none) := by
  have k : ∀ j y, (τ.set i none)[j]? = some (some y) → i ≠ j ∧ τ[j]? = some (some y) := fun j y e => by
    rw [List.getElem?_set] at e
    split at e
    · split at e <;> cases e
    · rename_i c; exact ⟨c, e⟩
  have g : ∀ j, i ≠ j → (σ.set i x)[j]? = σ[j]? := fun j c => by rw [List.getElem?_set, if_neg c]
  refine ⟨by simp [R.len], fun j d e m => ?_, fun j d e m => ?_, fun j e => ?_, fun j e => ?_, fun j l p d e m1 m2 n1 e1 e2 => ?_⟩
  · obtain ⟨c, e⟩ := k j _ e
    rw [g j c]
    exact R.st j d e m
  · obtain ⟨c, e⟩ := k j _ e
    rw [g j c]
    exact R.mu j d e m
  · obtain ⟨c, e⟩ := k j _ e
    rw [g j c]
    exact R.box j e
  · obtain ⟨c, e⟩ := k j _ e
    rw [g j c]
    exact R.scr j e
  · obtain ⟨c1, e1⟩ := k j _ e1
    obtain ⟨c2, e2⟩ := k l _ e2
    rw [g j c1, g l c2]
    exact R.ap j l p d e m1 m2 n1 e1 e2
/-- slots: one is written, not of those of its own -/
theorem VSR.put (R : VSR M A Y b h σ τ) {i : Nat} (hi : i ∉ M) (r : Is (A ++ Y) h d v) : VSR M A Y b h (σ.set i (some v)) (τ.set i (some (.d d))) := by
  have k : ∀ j y, (τ.set i (some (.d d)))[j]? = some (some y) → (i = j ∧ i < τ.length ∧ y = .d d) ∨ (i ≠ j ∧ τ[j]? = some (some y)) := fun j y e => by
    rw [List.getElem?_set] at e
    split at e
    · rename_i c
      split at e
      · rename_i c2; cases e; exact .inl ⟨c, c2, rfl⟩
      · cases e
    · rename_i c; exact .inr ⟨c, e⟩
  have g : ∀ j, i ≠ j → (σ.set i (some v))[j]? = σ[j]? := fun j c => by rw [List.getElem?_set, if_neg c]
  refine ⟨by simp [R.len], fun j d' e m => ?_, fun j d' e m => ?_, fun j e => ?_, fun j e => ?_, fun j l p d1 d2 m1 m2 n1 e1 e2 => ?_⟩
  · rcases k j _ e with ⟨rfl, hl, e⟩ | ⟨c, e⟩
    · cases e
      exact ⟨v, by rw [List.getElem?_set, if_pos rfl, if_pos (by rw [← R.len]; exact hl)], r⟩
    · rw [g j c]; exact R.st j d' e m
  · rcases k j _ e with ⟨rfl, hl, e⟩ | ⟨c, e⟩
    · exact (hi m).elim
    · rw [g j c]; exact R.mu j d' e m
  · rcases k j _ e with ⟨rfl, hl, e⟩ | ⟨c, e⟩
    · cases e
    · rw [g j c]; exact R.box j e
  · rcases k j _ e with ⟨rfl, hl, e⟩ | ⟨c, e⟩
    · cases e
    · rw [g j c]; exact R.scr j e
  · rcases k j _ e1 with ⟨rfl, hl, e1⟩ | ⟨c1, e1⟩
    · exact (hi m1).elim
    · rcases k l _ e2 with ⟨rfl, hl, e2⟩ | ⟨c2, e2⟩
      · exact (hi m2).elim
      · rw [g j c1, g l c2]; exact R.ap j l p d1 d2 m1 m2 n1 e1 e2
theorem VSR.wipe (R : VSR M A Y b h σ τ) : ∀ is : List Nat, VSR M A Y b h (Mi.wipe σ is) (vwipe τ is)
  | [] => R
  | i :: is => (VSR.wipe R is).noneS i none
theorem setAll_v : ∀ {is : List Nat} {ds : List PyData} {xs : List Val} {σ : Sl} {τ τ' : VSl}, VSR M A Y b h σ τ → IsAll (A ++ Y) h ds xs → vsetAll M is ds τ = some τ' → ∃ σ', setAll is xs σ = some σ' ∧ VSR M A Y b h σ' τ'
  | [], [], xs, σ, τ, τ', R, i, e => by cases e; rw [i.nil]; exact ⟨σ, rfl, R⟩
  | i :: is, d :: ds, xs, σ, τ, τ', R, a, e => by
    obtain ⟨y, ys, rfl, a1, a2⟩ := a.cons
    unfold vsetAll at e
    split at e
    · cases e
    · rename_i c
      exact setAll_v (σ := σ.set i (some y)) (R.put c a1) a2 e
  | [], d :: ds, xs, σ, τ, τ', R, i, e => by cases e
  | i :: is, [], xs, σ, τ, τ', R, a, e => by cases e
theorem vtg_v {t : Tg} {τ' : VSl} (R : VSR M A Y b h σ τ) (r : Is (A ++ Y) h d v) (e : vtg M t d τ = some τ') : ∃ σ', tgV t v σ h = some σ' ∧ VSR M A Y b h σ' τ' := by
  cases t with
  | nm i =>
    unfold vtg at e
    dsimp only at e
    split at e
    · cases e
    · rename_i c
      cases e
      exact ⟨_, rfl, R.put c r⟩
  | tp is =>
    unfold vtg at e
    dsimp only at e
    split at e
    · rename_i ds hs
      obtain ⟨p, xs, rfl, _, e1 | e1, a⟩ := Rd.seq (Y := A ++ Y) (fun _ z => z) (.inl r) hs
      · unfold tgV; simp only [e1]; exact setAll_v R a e
      · unfold tgV; simp only [e1]; exact setAll_v R a e
    · cases e
theorem Stn.fb {w : Walk} (W : VW A Y b n0 h) (S : Stn Y h w) (F : Fb b h h') : Stn Y h' w := fun q hq => ⟨F.at (S q hq).1 (W.nb (S q hq).2), (S q hq).2⟩
theorem tyEs_ok {G : Mi.G} : ∀ {es : Exs} {ts : List String}, tyEs es = some ts → ∃ vs, dens G es σ h = .ok vs h ∧ tysO vs = some ts ∧ vs.length = ts.length
  | .nil, ts, e => by cases e; exact ⟨[], by rw [dens_nil], rfl, rfl⟩
  | .cons (.cst (.ty t)) es, ts, e => by
    simp only [tyEs] at e
    split at e
    · rename_i c
      obtain ⟨us, h1, rfl⟩ := mapsome e
      obtain ⟨vs, h2, h3, h4⟩ := tyEs_ok h1
      refine ⟨.ty t :: vs, ?_, ?_, by simp [h4]⟩
      · rw [dens_cons, den_cst, Res.bind_ok, h2]; rfl
      · unfold tysO; rw [if_pos c, h3]; rfl
    · cases e
theorem tyE_ok {G : Mi.G} {t : Ex} {ts : List String} (e : tyE t = some ts) : (den G t σ h).sat (fun v h' => Fr h h' ∧ ∀ x s, tyO h' x = some s → Mi.pri G .isinst [x, v] h' = .ok (.bl (ts.any (isTy s))) h') nox := by
  unfold tyE at e
  split at e
  · split at e
    · rename_i t' c
      cases e
      rw [den_cst]
      refine ⟨Fr.refl _, fun x s hs => ?_⟩
      unfold Mi.pri
      simp only [hs, if_pos c]
      simp
    · cases e
  · rename_i es
    obtain ⟨ts', ht, e⟩ := bindsome e
    split at e
    · rename_i c
      cases e
      obtain ⟨vs, h1, h2, h3⟩ := tyEs_ok (G := G) (σ := σ) (h := h) ht
      rw [den_tup, h1, Res.bind_ok, if_pos (by rw [h3]; exact Nat.le_trans c (by decide))]
      refine sat_new fun n h' e' l l' F => ⟨F, fun x s hs => ?_⟩
      unfold Mi.pri
      simp only [hs, e', h2]
    · cases e
  · cases e
end
end Mi


/-! # Mi18: data against the heap: expressions, the proof -/
namespace Mi
open PySem (Str PyData)
def AV (Y : List Nat) (b : Option Nat) (h : Heap) : VV → Val → Prop
  | .d d, v => Is Y h d v
  | .box, v => ∃ n, b = some n ∧ v = .ref n
  | .scr, v => v = .scr
def CallOk (vc : Nat → List VV → VS → Vr PyData) (c : Nat → List Val → Heap → Res Val) (fr : Nat → Bool) : Prop :=
  ∀ (b : Option Nat) (Y : List Nat) (f : Nat) (ds : List VV) (vs : List Val) (s : VS) (h : Heap), vc f ds s ≠ .bad → (∀ n, b = some n → n ∈ Y) → (∀ y ∈ Y, y < h.length) → All2 (AV Y b h) ds vs → BxS b s h →
    (c f vs h).sat (PoV (fun h' d v => Is Y h' d v ∧ (fr f = true → Nw h.length d v)) b h (vc f ds s)) (PoX Y b h (vc f ds s))
structure VCtx (g : VG) (G : Mi.G) : Prop where
  gl : g.glob = G.glob
  cl : CallOk g.call G.call g.fr
def PE (g : VG) (A Y : List Nat) (md : Md) (e : Ex) (h0 : Heap) (h : Heap) (d : PyData) (v : Val) : Prop := RM md A Y h d v ∧ (isFresh g.fr e = true → Nw h0.length d v)
theorem bind_assoc {α β γ : Type} {r : Res α} {f : α → Heap → Res β} {k : β → Heap → Res γ} : (r.bind f).bind k = r.bind fun a h => (f a h).bind k := by cases r <;> rfl
theorem vden_pri {g : VG} {md : Md} {p : Pr} {es : Exs} {τ : VSl} {s : VS} (hn : p ≠ .isinst ∨ ∀ a t, es ≠ .cons a (.cons t .nil)) : vden g md (.pri p es) τ s = (vdens g .rd es τ s).bind fun vs s => ofD (vpri p vs) s := by
  cases p
  case isinst =>
    cases es with
    | nil => rfl
    | cons a es =>
      cases es with
      | nil => rfl
      | cons t es =>
        cases es with
        | nil =>
          rcases hn with hn | hn
          · exact (hn rfl).elim
          · exact (hn _ _ rfl).elim
        | cons u es => rfl
  all_goals rfl
section
variable {g : VG} {G : Mi.G} {A Y : List Nat} {b : Option Nat} {n0 : Nat}
/-- a comprehension -/
theorem lc_ok {md : Md} {t : Tg} {vc : VSl → VS → Vr Bool} {ve : VSl → VS → Vr PyData} {c : Sl → Heap → Res Bool} {e : Sl → Heap → Res Val} {M : List Nat} {w : Walk}
    (hc : ∀ τ s σ h, VW A Y b n0 h → VSR M A Y b h σ τ → BxS b s h → vc τ s ≠ .bad → (c σ h).sat (PoV (fun _ d v => v = d) b h (vc τ s)) (PoX (A ++ Y) b h (vc τ s)))
    (he : ∀ τ s σ h, VW A Y b n0 h → VSR M A Y b h σ τ → BxS b s h → ve τ s ≠ .bad → (e σ h).sat (PoV (fun h' d v => Is (md.Z A Y) h' d v) b h (ve τ s)) (PoX (A ++ Y) b h (ve τ s))) :
    ∀ {ds : List PyData} {its : List It} {ad : List PyData} {av : List Val} {τ : VSl} {s : VS} {σ : Sl} {h : Heap}, All2 (ItR (A ++ Y) h) ds its → IsAll (md.Z A Y) h ad av → Stn Y h w → VW A Y b n0 h → VSR M A Y b h σ τ → BxS b s h → vlc M t vc ve τ ds ad s ≠ .bad →
      (lcF w t c e σ its av h).sat (PoV (fun h' ds vs => IsAll (md.Z A Y) h' ds vs) b h (vlc M t vc ve τ ds ad s)) (PoX (A ++ Y) b h (vlc M t vc ve τ ds ad s))
  | [], its, ad, av, τ, s, σ, h, i, a, S, W, R, B, ne => by
    cases i
    unfold lcF vlc
    rw [if_pos S.ok]
    exact po_ok a B
  | d :: ds, its, ad, av, τ, s, σ, h, i, a, S, W, R, B, ne => by
    cases i with
    | cons i1 i2 =>
      unfold lcF
      rw [if_pos S.ok]
      unfold vlc at ne ⊢
      obtain ⟨F1, r1⟩ := yield_ok W.ab i1
      cases ht : vtg M t d τ with
      | none => rw [ht] at ne; exact (ne rfl).elim
      | some τ' =>
        rw [ht] at ne
        have W1 := W.fb (Fo.of F1)
        have R1 := R.fb W (Fo.of F1)
        obtain ⟨σ', e1, R2⟩ := vtg_v R1 r1 ht
        rw [e1]
        dsimp only at ne ⊢
        have n1 : vc τ' s ≠ .bad := fun z => ne (by rw [z])
        have q := hc τ' s σ' _ W1 R2 (B.fr F1) n1
        generalize c σ' (yieldI _ h).2 = rc at q ⊢
        generalize vc τ' s = rv at q ne ⊢
        cases rc with
        | bad => exact q.elim
        | exc k fs h2 =>
          obtain ⟨fd, s', ex, _⟩ := q
          subst ex
          exact (ne rfl).elim
        | ok tb h2 =>
          obtain ⟨tb', s2, ex, ex2, F2, B2⟩ := q
          subst ex
          subst ex2
          have W2 := W1.fb F2
          have R3 := R2.fb W1 F2
          have F02 := (Fo.of (X := b.toList) F1).trans F2
          have S2 := S.fb W F02
          have i3 : All2 (ItR (A ++ Y) h2) ds _ := i2.imp fun d i r => r.mono fun d v z => z.fb F02 W.zb
          have a3 := a.fb F02 W.zzb
          cases tb with
          | false =>
            dsimp only at ne ⊢
            exact po_go F02 (lc_ok hc he i3 a3 S2 W2 (R.fb W F02) B2 ne)
          | true =>
            dsimp only at ne ⊢
            have n2 : ve τ' s2 ≠ .bad := fun z => ne (by rw [z])
            have q := he τ' s2 σ' _ W2 R3 B2 n2
            generalize e σ' h2 = re at q ⊢
            generalize ve τ' s2 = rw at q ne ⊢
            cases re with
            | bad => exact q.elim
            | exc k fs h2 =>
              obtain ⟨fd, s', ex, _⟩ := q
              subst ex
              exact (ne rfl).elim
            | ok v h3 =>
              obtain ⟨dv, s3, ex, iv, F3, B3⟩ := q
              subst ex
              dsimp only at ne ⊢
              have hl := a.length
              by_cases cl : ad.length < SL
              · rw [if_pos cl] at ne ⊢
                rw [if_pos (by rw [hl]; exact cl)]
                have F03 := F02.trans F3
                have i4 : All2 (ItR (A ++ Y) h3) ds _ := i2.imp fun d i r => r.mono fun d v z => z.fb F03 W.zb
                exact po_go F03 (lc_ok hc he i4 ((a.fb F03 W.zzb).app (isall_cons iv isall_nil)) (S.fb W F03) (W2.fb F3) (R.fb W F03) B3 ne)
              · rw [if_neg cl] at ne
                exact (ne rfl).elim
theorem vrcv_ok {Z Y : List Nat} {h : Heap} {m : Me} {d : PyData} {x : Val} (i : Rd Z Y h d x) (c : vrcv m d = true) : rcv m x h = true := by
  unfold vrcv at c
  split at c
  · rw [i.str]; rfl
  · rw [i.str]; rfl
  · rw [i.str]; rfl
  · rcases i with i | ⟨p, xs, ds, e, rfl, hp, e1, a⟩ | ⟨p, xs, ds, e, rfl, hp, e1, a⟩
    · obtain ⟨p, xs, rfl, _, e, _⟩ := i.lst
      unfold rcv lstO; simp [e]
    · unfold rcv lstO; simp [e1]
    · cases e
  · cases c
theorem nofr {n : Nat} {d : PyData} {v : Val} {P : Prop} (h : P → False) : P → Nw n d v := fun z => (h z).elim
theorem po_chK {Z Z' : List Nat} {h : Heap} {s : VS} {k : Val} {dk : PyData} {f : Heap → Res Val} {vf : VS → Vr PyData} {P : Heap → PyData → Val → Prop} (p : Is Z h dk k) (ne : vchK dk s vf ≠ .bad) (B : BxS b s h) (p0 : P h (.bool false) (.bl false))
    (hf : vf s ≠ .bad → (f h).sat (PoV P b h (vf s)) (PoX Z' b h (vf s))) : (chK k h f).sat (PoV P b h (vchK dk s vf)) (PoX Z' b h (vchK dk s vf)) := by
  match dk, p, ne with
  | .bool true, p, ne => rw [Is.bl p]; exact hf ne
  | .bool false, p, ne => rw [Is.bl p]; exact po_ok p0 B
  | .none, p, ne => exact (ne rfl).elim
  | .int _, p, ne => exact (ne rfl).elim
  | .str _, p, ne => exact (ne rfl).elim
  | .list _, p, ne => exact (ne rfl).elim
  | .tuple _, p, ne => exact (ne rfl).elim
  | .dict _, p, ne => exact (ne rfl).elim
mutual
theorem den_ok (C : VCtx g G) : ∀ (e : Ex) (md : Md) (τ : VSl) (s : VS) (σ : Sl) (h : Heap), VW A Y b n0 h → VSR g.M A Y b h σ τ → BxS b s h → vden g md e τ s ≠ .bad → (den G e σ h).sat (PoV (PE g A Y md e h) b h (vden g md e τ s)) (PoX (A ++ Y) b h (vden g md e τ s))
  | .var i, md, τ, s, σ, h, W, R, B, ne => by
    rw [vden] at ne ⊢
    rw [den_var]
    split at ne
    · exact (ne rfl).elim
    · rename_i c
      rw [if_neg c]
      cases hi : τ[i]? with
      | none => rw [hi] at ne; exact (ne rfl).elim
      | some o =>
        rw [hi] at ne
        match o, hi, ne with
        | none, hi, ne => exact (ne rfl).elim
        | some .box, hi, ne => exact (ne rfl).elim
        | some .scr, hi, ne => exact (ne rfl).elim
        | some (.d d), hi, ne =>
          by_cases m : i ∈ g.M
          · obtain ⟨p, hp, e1, ow⟩ := R.mu i d hi m
            rw [e1]
            refine po_ok ⟨?_, nofr (by simp [isFresh])⟩ B
            have hy : p ∉ Y := fun z => by have := W.yl p z; have := (W.al p hp).1; omega
            have rd : Rd (A ++ Y) Y h d (.ref p) := by
              cases d with
              | list ds => obtain ⟨xs, e, a⟩ := ow; exact .inr (.inl ⟨p, xs, ds, rfl, rfl, hy, e, a⟩)
              | dict ds => obtain ⟨xs, e, a⟩ := ow; exact .inr (.inr ⟨p, xs, ds, rfl, rfl, hy, e, a⟩)
              | _ => exact ow.elim
            cases md with
            | st => exact (c ⟨rfl, m⟩).elim
            | rd => exact rd
            | es => exact rd.is sub_r
          · obtain ⟨v, e1, i1⟩ := R.st i d hi m
            rw [e1]
            exact po_ok ⟨RM.of i1, nofr (by simp [isFresh])⟩ B
  | .cst c, md, τ, s, σ, h, W, R, B, ne => by
    rw [vden] at ne ⊢
    rw [den_cst]
    cases hc : cstD c with
    | none => rw [hc] at ne; exact (ne rfl).elim
    | some d => exact po_ok ⟨RM.of (cst_is hc), nofr (by simp [isFresh])⟩ B
  | .glb x, md, τ, s, σ, h, W, R, B, ne => by
    rw [vden] at ne ⊢
    rw [den_glb, ← C.gl]
    cases hx : g.glob x with
    | none => rw [hx] at ne; exact (ne rfl).elim
    | some c =>
      rw [hx] at ne
      simp only [Option.bind_some] at ne ⊢
      cases hc : cstD c with
      | none => rw [hc] at ne; exact (ne rfl).elim
      | some d => exact po_ok ⟨RM.of (cst_is hc), nofr (by simp [isFresh])⟩ B
  | .bin o a c, md, τ, s, σ, h, W, R, B, ne => by
    rw [vden] at ne ⊢
    rw [den_bin]
    refine po_bind (fun n1 => den_ok C a .rd τ s σ h W R B n1) ne fun x d s1 h1 e1 p1 F1 B1 ne1 => ?_
    have W1 := W.fb F1
    refine po_bind (fun n1 => den_ok C c .rd τ s1 σ h1 W1 (R.fb W F1) B1 n1) ne1 fun y d2 s2 h2 e2 p2 F2 B2 ne2 => ?_
    have W2 := W1.fb F2
    refine po_ofD ne2 (fun r hr => vop_ok W2.ab sub_r (Rd.fb W1 p1.1 F2) p2.1 hr) B2 fun h' d v F i w => ⟨RM.of i, fun _ => w.le (Nat.le_trans F1.len F2.len)⟩
  | .neg a, md, τ, s, σ, h, W, R, B, ne => by
    rw [vden] at ne ⊢
    rw [den_neg]
    refine po_bind (fun n1 => den_ok C a .rd τ s σ h W R B n1) ne fun x d s1 h1 e1 p1 F1 B1 ne1 => ?_
    refine po_ofD (Z := A ++ Y) ne1 (fun r hr => ?_) B1 fun h' d v F i w => ⟨RM.of i, nofr (by simp [isFresh])⟩
    cases d <;> cases hr
    rw [Rd.int p1.1]
    exact good_i
  | .not a, md, τ, s, σ, h, W, R, B, ne => by
    rw [vden] at ne ⊢
    rw [den_not]
    refine po_bind (fun n1 => den_ok C a .rd τ s σ h W R B n1) ne fun x d s1 h1 e1 p1 F1 B1 ne1 => ?_
    obtain ⟨t, ht⟩ := ofD_some ne1
    rw [ht] at ne1 ⊢
    rw [RM.tru p1.1 ht, Res.bind_ok]
    exact po_ok ⟨RM.of is_bl, nofr (by simp [isFresh])⟩ B1
  | .and a c, md, τ, s, σ, h, W, R, B, ne => by
    rw [vden] at ne ⊢
    rw [den_and]
    refine po_bind (fun n1 => den_ok C a md τ s σ h W R B n1) ne fun x d s1 h1 e1 p1 F1 B1 ne1 => ?_
    obtain ⟨t, ht⟩ := ofD_some ne1
    rw [ht] at ne1 ⊢
    rw [RM.tru p1.1 ht, Res.bind_ok]
    cases t with
    | true => exact (den_ok C c md τ s1 σ h1 (W.fb F1) (R.fb W F1) B1 ne1).imp (fun v h' ⟨d, s', e, p, F, B⟩ => ⟨d, s', e, ⟨p.1, nofr (by simp [isFresh])⟩, F, B⟩) fun _ _ _ z => z
    | false => exact po_ok ⟨p1.1, nofr (by simp [isFresh])⟩ B1
  | .or a c, md, τ, s, σ, h, W, R, B, ne => by
    rw [vden] at ne ⊢
    rw [den_or]
    refine po_bind (fun n1 => den_ok C a md τ s σ h W R B n1) ne fun x d s1 h1 e1 p1 F1 B1 ne1 => ?_
    obtain ⟨t, ht⟩ := ofD_some ne1
    rw [ht] at ne1 ⊢
    rw [RM.tru p1.1 ht, Res.bind_ok]
    cases t with
    | false => exact (den_ok C c md τ s1 σ h1 (W.fb F1) (R.fb W F1) B1 ne1).imp (fun v h' ⟨d, s', e, p, F, B⟩ => ⟨d, s', e, ⟨p.1, nofr (by simp [isFresh])⟩, F, B⟩) fun _ _ _ z => z
    | true => exact po_ok ⟨p1.1, nofr (by simp [isFresh])⟩ B1
  | .chn o p a c e, md, τ, s, σ, h, W, R, B, ne => by
    rw [vden] at ne ⊢
    rw [den_chn]
    refine po_bind (fun n1 => den_ok C a .rd τ s σ h W R B n1) ne fun x d s1 h1 e1 p1 F1 B1 ne1 => ?_
    have W1 := W.fb F1
    refine po_bind (fun n1 => den_ok C c .rd τ s1 σ h1 W1 (R.fb W F1) B1 n1) ne1 fun y d2 s2 h2 e2 p2 F2 B2 ne2 => ?_
    have W2 := W1.fb F2
    have R2 := (R.fb W F1).fb W1 F2
    refine po_bind (P := fun h' d v => Is (A ++ Y) h' d v) (fun n1 => po_ofD n1 (fun r hr => vop_ok W2.ab sub_r (Rd.fb W1 p1.1 F2) p2.1 hr) B2 fun h' d v F i w => i) ne2 fun k dk s3 h3 e3 p3 F3 B3 ne3 => ?_
    have W3 := W2.fb F3
    match dk, p3, ne3 with
    | .bool true, p3, ne3 =>
      rw [Is.bl p3]
      dsimp only at ne3 ⊢
      refine po_bind (fun n1 => den_ok C e .rd τ s3 σ h3 W3 (R2.fb W2 F3) B3 n1) ne3 fun z d4 s4 h4 e4 p4 F4 B4 ne4 => ?_
      exact po_ofD ne4 (fun r hr => vop_ok (W3.fb F4).ab sub_r (Rd.fb W3 (Rd.fb W2 p2.1 F3) F4) p4.1 hr) B4 fun h' d v F i w => ⟨RM.of i, nofr (by simp [isFresh])⟩
    | .bool false, p3, ne3 =>
      rw [Is.bl p3]
      exact po_ok ⟨RM.of is_bl, nofr (by simp [isFresh])⟩ B3
    | .none, p3, ne3 => exact (ne3 rfl).elim
    | .int _, p3, ne3 => exact (ne3 rfl).elim
    | .str _, p3, ne3 => exact (ne3 rfl).elim
    | .list _, p3, ne3 => exact (ne3 rfl).elim
    | .tuple _, p3, ne3 => exact (ne3 rfl).elim
    | .dict _, p3, ne3 => exact (ne3 rfl).elim
  | .ch3 o p q a c e f, md, τ, s, σ, h, W, R, B, ne => by
    rw [vden] at ne ⊢
    rw [den_ch3]
    refine po_bind (fun n1 => den_ok C a .rd τ s σ h W R B n1) ne fun x d s1 h1 e1 p1 F1 B1 ne1 => ?_
    have W1 := W.fb F1
    refine po_bind (fun n1 => den_ok C c .rd τ s1 σ h1 W1 (R.fb W F1) B1 n1) ne1 fun y d2 s2 h2 e2 p2 F2 B2 ne2 => ?_
    have W2 := W1.fb F2
    have R2 := (R.fb W F1).fb W1 F2
    refine po_bind (P := fun h' d v => Is (A ++ Y) h' d v) (fun n1 => po_ofD n1 (fun r hr => vop_ok W2.ab sub_r (Rd.fb W1 p1.1 F2) p2.1 hr) B2 fun h' d v F i w => i) ne2 fun k dk s3 h3 e3 p3 F3 B3 ne3 => ?_
    have W3 := W2.fb F3
    refine po_chK p3 ne3 B3 ⟨RM.of is_bl, nofr (by simp [isFresh])⟩ fun ne3 => ?_
    refine po_bind (fun n1 => den_ok C e .rd τ s3 σ h3 W3 (R2.fb W2 F3) B3 n1) ne3 fun z d4 s4 h4 e4 p4 F4 B4 ne4 => ?_
    have W4 := W3.fb F4
    have R4 := (R2.fb W2 F3).fb W3 F4
    refine po_bind (P := fun h' d v => Is (A ++ Y) h' d v) (fun n1 => po_ofD n1 (fun r hr => vop_ok W4.ab sub_r (Rd.fb W3 (Rd.fb W2 p2.1 F3) F4) p4.1 hr) B4 fun h' d v F i w => i) ne4 fun k dk s5 h5 e5 p5 F5 B5 ne5 => ?_
    have W5 := W4.fb F5
    refine po_chK p5 ne5 B5 ⟨RM.of is_bl, nofr (by simp [isFresh])⟩ fun ne5 => ?_
    refine po_bind (fun n1 => den_ok C f .rd τ s5 σ h5 W5 (R4.fb W4 F5) B5 n1) ne5 fun w d6 s6 h6 e6 p6 F6 B6 ne6 => ?_
    exact po_ofD ne6 (fun r hr => vop_ok (W5.fb F6).ab sub_r (Rd.fb W5 (Rd.fb W4 p4.1 F5) F6) p6.1 hr) B6 fun h' d v F i w => ⟨RM.of i, nofr (by simp [isFresh])⟩
  | .ite c a e, md, τ, s, σ, h, W, R, B, ne => by
    rw [vden] at ne ⊢
    rw [den_ite]
    refine po_bind (fun n1 => den_ok C c .rd τ s σ h W R B n1) ne fun x d s1 h1 e1 p1 F1 B1 ne1 => ?_
    obtain ⟨t, ht⟩ := ofD_some ne1
    rw [ht] at ne1 ⊢
    rw [RM.tru p1.1 ht, Res.bind_ok]
    cases t with
    | true => exact (den_ok C a md τ s1 σ h1 (W.fb F1) (R.fb W F1) B1 ne1).imp (fun v h' ⟨d, s', e, p, F, B⟩ => ⟨d, s', e, ⟨p.1, fun z => (p.2 (by simp [isFresh] at z; exact z.1)).le F1.len⟩, F, B⟩) fun _ _ _ z => z
    | false => exact (den_ok C e md τ s1 σ h1 (W.fb F1) (R.fb W F1) B1 ne1).imp (fun v h' ⟨d, s', e, p, F, B⟩ => ⟨d, s', e, ⟨p.1, fun z => (p.2 (by simp [isFresh] at z; exact z.2)).le F1.len⟩, F, B⟩) fun _ _ _ z => z
  | .lst es, md, τ, s, σ, h, W, R, B, ne => by
    rw [vden] at ne ⊢
    rw [den_lst]
    refine po_bind (fun n1 => dens_ok C es md.in_ τ s σ h W R B n1) ne fun x d s1 h1 e1 p1 F1 B1 ne1 => ?_
    have a := rm_in p1
    have hl := a.length
    by_cases c : d.length ≤ SL
    · rw [if_pos c] at ne1 ⊢
      rw [if_pos (by rw [hl]; exact c)]
      exact (new_lst (W.fb F1).zl a).imp (fun v h' z => ⟨_, _, rfl, ⟨RM.ofZ z.2.1, fun _ => z.2.2.le F1.len⟩, Fo.of z.1, B1.fr z.1⟩) fun _ _ _ z => z.elim
    · rw [if_neg c] at ne1; exact (ne1 rfl).elim
  | .tup es, md, τ, s, σ, h, W, R, B, ne => by
    rw [vden] at ne ⊢
    rw [den_tup]
    refine po_bind (fun n1 => dens_ok C es md.in_ τ s σ h W R B n1) ne fun x d s1 h1 e1 p1 F1 B1 ne1 => ?_
    have a := rm_in p1
    have hl := a.length
    by_cases c : d.length ≤ SL
    · rw [if_pos c] at ne1 ⊢
      rw [if_pos (by rw [hl]; exact c)]
      exact (new_tup (W.fb F1).zl a).imp (fun v h' z => ⟨_, _, rfl, ⟨RM.ofZ z.2.1, nofr (by simp [isFresh])⟩, Fo.of z.1, B1.fr z.1⟩) fun _ _ _ z => z.elim
    · rw [if_neg c] at ne1; exact (ne1 rfl).elim
  | .dnew, md, τ, s, σ, h, W, R, B, ne => by
    rw [vden] at ne ⊢
    rw [den_dnew]
    exact (new_dic (ds := []) (Z := A ++ Y) W.ab (by unfold IsKv; rfl)).imp (fun v h' z => ⟨_, _, rfl, ⟨RM.of z.2.1, fun _ => z.2.2⟩, Fo.of z.1, B.fr z.1⟩) fun _ _ _ z => z.elim
  | .dic es, md, τ, s, σ, h, W, R, B, ne => by
    rw [vden] at ne ⊢
    rw [den_dic]
    refine po_bind (fun n1 => dens_ok C es .st τ s σ h W R B n1) ne fun x d s1 h1 e1 p1 F1 B1 ne1 => ?_
    have a : IsAll (A ++ Y) h1 d x := isall2.mpr p1
    cases hk : vkvs d with
    | none => rw [hk] at ne1; exact (ne1 rfl).elim
    | some kvs =>
      obtain ⟨xs, k1, k2⟩ := kvs_ok a hk
      rw [hk] at ne1
      rw [k1]
      dsimp only at ne1 ⊢
      by_cases c : kvs.length ≤ 15
      · rw [if_pos c] at ne1 ⊢
        rw [if_pos (by rw [k2.length]; exact c)]
        exact (new_dic (W.fb F1).ab (fold_put (ds := []) (zs := []) k2 (by unfold IsKv; rfl))).imp (fun v h' z => ⟨_, _, rfl, ⟨RM.of z.2.1, fun _ => z.2.2.le F1.len⟩, Fo.of z.1, B1.fr z.1⟩) fun _ _ _ z => z.elim
      · rw [if_neg c] at ne1; exact (ne1 rfl).elim
  | .idx a i, md, τ, s, σ, h, W, R, B, ne => by
    rw [vden] at ne ⊢
    rw [den_idx]
    refine po_bind (fun n1 => den_ok C a .rd τ s σ h W R B n1) ne fun x d s1 h1 e1 p1 F1 B1 ne1 => ?_
    have W1 := W.fb F1
    refine po_bind (fun n1 => den_ok C i .rd τ s1 σ h1 W1 (R.fb W F1) B1 n1) ne1 fun y d2 s2 h2 e2 p2 F2 B2 ne2 => ?_
    cases hr : vidx d d2 with
    | none => rw [hr] at ne2; exact (ne2 rfl).elim
    | some r => exact (vidx_ok sub_r (Rd.fb W1 p1.1 F2) p2.1 hr).imp (fun v h' z => ⟨r, s2, rfl, ⟨RM.of (by rw [z.1]; exact z.2), nofr (by simp [isFresh])⟩, by rw [z.1]; exact Fo.refl _ _, by rw [z.1]; exact B2⟩) fun _ _ _ z => z.elim
  | .slc a lo hi, md, τ, s, σ, h, W, R, B, ne => by
    rw [vden] at ne ⊢
    rw [den_slc]
    refine po_bind (fun n1 => den_ok C a .rd τ s σ h W R B n1) ne fun x d s1 h1 e1 p1 F1 B1 ne1 => ?_
    have W1 := W.fb F1
    have R1 := R.fb W F1
    refine po_bind (fun n1 => deno_ok C lo τ s1 σ h1 W1 R1 B1 n1) ne1 fun l dl s2 h2 e2 p2 F2 B2 ne2 => ?_
    have W2 := W1.fb F2
    refine po_bind (fun n1 => deno_ok C hi τ s2 σ h2 W2 (R1.fb W1 F2) B2 n1) ne2 fun u du s3 h3 e3 p3 F3 B3 ne3 => ?_
    cases p2
    cases p3
    exact po_ofD ne3 (fun r hr => vslc_ok (W2.fb F3).ab sub_r (Rd.fb W2 (Rd.fb W1 p1.1 F2) F3) hr) B3 fun h' d v F i w => ⟨RM.of i, fun _ => w.le (Nat.le_trans F1.len (Nat.le_trans F2.len F3.len))⟩
  | .rev a, md, τ, s, σ, h, W, R, B, ne => by
    rw [vden] at ne ⊢
    rw [den_rev]
    refine po_bind (fun n1 => den_ok C a .rd τ s σ h W R B n1) ne fun x d s1 h1 e1 p1 F1 B1 ne1 => ?_
    have W1 := W.fb F1
    refine po_ofD ne1 (fun r hr => ?_) B1 fun h' d v F i w => ⟨RM.of i, fun _ => w.le F1.len⟩
    obtain ⟨ds, k1, rfl⟩ := mapsome hr
    obtain ⟨xs, k2, k3⟩ := lst_ok sub_r p1.1 k1
    unfold revV
    rw [k2]
    exact new_lst W1.ab k3.reverse
  | .efl i f, md, τ, s, σ, h, W, R, B, ne => by
    rw [vden] at ne
    exact (ne rfl).elim
  | .inr neg a es, md, τ, s, σ, h, W, R, B, ne => by
    rw [vden] at ne ⊢
    rw [den_inr]
    refine po_bind (fun n1 => den_ok C a .rd τ s σ h W R B n1) ne fun x d s1 h1 e1 p1 F1 B1 ne1 => ?_
    have W1 := W.fb F1
    refine po_bind (fun n1 => dens_ok C es .rd τ s1 σ h1 W1 (R.fb W F1) B1 n1) ne1 fun y d2 s2 h2 e2 p2 F2 B2 ne2 => ?_
    exact po_ofD (Z := A ++ Y) ne2 (fun r hr => vinr_ok (Rd.fb W1 p1.1 F2) p2 hr) B2 fun h' d v F i w => ⟨RM.of i, nofr (by simp [isFresh])⟩
  | .cal f es, md, τ, s, σ, h, W, R, B, ne => by
    rw [vden] at ne ⊢
    rw [den_cal]
    by_cases c : anyM g.M es = true
    · rw [if_pos c] at ne ⊢
      refine po_bind (fun n1 => args_ok C es .es τ s σ h (by decide) W R B n1) ne fun x d s1 h1 e1 p1 F1 B1 ne1 => ?_
      have W1 := W.fb F1
      have n1 : g.call f d s1 ≠ .bad := fun z => ne1 (by rw [z])
      have q := C.cl b Y f d x s1 h1 n1 W1.bx W1.yb p1 B1
      generalize G.call f x h1 = rr at q ⊢
      generalize g.call f d s1 = rv at q ne1 ⊢
      cases rr with
      | bad => exact q.elim
      | exc k fs h2 =>
        obtain ⟨fd, s', ex, _⟩ := q
        subst ex
        exact (ne1 rfl).elim
      | ok v h2 =>
        obtain ⟨dv, s2, ex, ⟨iv, nw⟩, F2, B2⟩ := q
        subst ex
        dsimp only at ne1 ⊢
        by_cases fl : flatD dv = true
        · rw [if_pos fl] at ne1 ⊢
          exact ⟨dv, s2, rfl, ⟨RM.of (flat_is fl iv), fun z => (nw (by simpa [isFresh] using z)).le F1.len⟩, F2, B2⟩
        · rw [if_neg fl] at ne1; exact (ne1 rfl).elim
    · rw [if_neg c] at ne ⊢
      refine po_bind (fun n1 => args_ok C es .st τ s σ h (by decide) W R B n1) ne fun x d s1 h1 e1 p1 F1 B1 ne1 => ?_
      have W1 := W.fb F1
      exact (C.cl b (A ++ Y) f d x s1 h1 ne1 (fun n e => sub_r n (W1.bx n e)) W1.ab p1 B1).imp (fun v h' ⟨d, s', e, p, F, B⟩ => ⟨d, s', e, ⟨RM.of p.1, fun z => (p.2 (by simpa [isFresh] using z)).le F1.len⟩, F, B⟩) fun _ _ _ z => z
  | .pri p .nil, md, τ, s, σ, h, W, R, B, ne => by
    rw [vden_pri (.inr fun _ _ z => by cases z)] at ne ⊢
    rw [den_pri]
    refine po_bind (fun n1 => dens_ok C .nil .rd τ s σ h W R B n1) ne fun x d s1 h1 e1 p1 F1 B1 ne1 => ?_
    exact po_ofD ne1 (fun r hr => vpri_ok (W.fb F1).ab sub_r p1 hr) B1 fun h' d v F i w => ⟨RM.of i, fun _ => w.le F1.len⟩
  | .pri p (.cons a .nil), md, τ, s, σ, h, W, R, B, ne => by
    rw [vden_pri (.inr fun _ _ z => by cases z)] at ne ⊢
    rw [den_pri]
    refine po_bind (fun n1 => dens_ok C (.cons a .nil) .rd τ s σ h W R B n1) ne fun x d s1 h1 e1 p1 F1 B1 ne1 => ?_
    exact po_ofD ne1 (fun r hr => vpri_ok (W.fb F1).ab sub_r p1 hr) B1 fun h' d v F i w => ⟨RM.of i, fun _ => w.le F1.len⟩
  | .pri p (.cons a (.cons t .nil)), md, τ, s, σ, h, W, R, B, ne => by
    by_cases hp : p = .isinst
    · subst hp
      rw [vden] at ne ⊢
      rw [den_pri, dens_cons, bind_assoc]
      cases ht : tyE t with
      | none => rw [ht] at ne; exact (ne rfl).elim
      | some ts =>
        rw [ht] at ne
        dsimp only at ne ⊢
        refine po_bind (fun n1 => den_ok C a .rd τ s σ h W R B n1) ne fun x d s1 h1 e1 p1 F1 B1 ne1 => ?_
        rw [dens_cons, bind_assoc, bind_assoc, sat_bind]
        refine (tyE_ok (G := G) (σ := σ) (h := h1) ht).imp (fun v h2 z => ?_) fun _ _ _ z => z.elim
        rw [dens_nil, Res.bind_ok, Res.bind_ok, Res.bind_ok, z.2 x (tyD d) (ty_ok sub_r (Rd.fb (W.fb F1) p1.1 (Fo.of z.1)))]
        exact ⟨_, _, rfl, ⟨RM.of is_bl, nofr (by simp [isFresh])⟩, Fo.of z.1, B1.fr z.1⟩
    · rw [vden_pri (.inl hp)] at ne ⊢
      rw [den_pri]
      refine po_bind (fun n1 => dens_ok C (.cons a (.cons t .nil)) .rd τ s σ h W R B n1) ne fun x d s1 h1 e1 p1 F1 B1 ne1 => ?_
      exact po_ofD ne1 (fun r hr => vpri_ok (W.fb F1).ab sub_r p1 hr) B1 fun h' d v F i w => ⟨RM.of i, fun _ => w.le F1.len⟩
  | .pri p (.cons a (.cons t (.cons u es))), md, τ, s, σ, h, W, R, B, ne => by
    rw [vden_pri (.inr fun _ _ z => by cases z)] at ne ⊢
    rw [den_pri]
    refine po_bind (fun n1 => dens_ok C (.cons a (.cons t (.cons u es))) .rd τ s σ h W R B n1) ne fun x d s1 h1 e1 p1 F1 B1 ne1 => ?_
    exact po_ofD ne1 (fun r hr => vpri_ok (W.fb F1).ab sub_r p1 hr) B1 fun h' d v F i w => ⟨RM.of i, fun _ => w.le F1.len⟩
  | .met m o es, md, τ, s, σ, h, W, R, B, ne => by
    rw [vden] at ne ⊢
    rw [den_met]
    refine po_bind (fun n1 => den_ok C o .rd τ s σ h W R B n1) ne fun x d s1 h1 e1 p1 F1 B1 ne1 => ?_
    have W1 := W.fb F1
    by_cases c : vrcv m d = true
    · rw [if_pos c] at ne1 ⊢
      rw [if_pos (vrcv_ok (Z := A ++ Y) (Y := Y) p1.1 c)]
      refine po_bind (fun n1 => dens_ok C es .rd τ s1 σ h1 W1 (R.fb W F1) B1 n1) ne1 fun y d2 s2 h2 e2 p2 F2 B2 ne2 => ?_
      exact po_ofD ne2 (fun r hr => (vmet_ok (W1.fb F2).ab sub_r (Rd.fb W1 p1.1 F2) p2 hr).2) B2 fun h' d v F i w => ⟨RM.of i, nofr (by simp [isFresh])⟩
    · rw [if_neg c] at ne1; exact (ne1 rfl).elim
  | .lz es, md, τ, s, σ, h, W, R, B, ne => by
    rw [vden] at ne ⊢
    rw [den_lz]
    refine po_bind (fun n1 => dens_ok C es .rd τ s σ h W R B n1) ne fun x d s1 h1 e1 p1 F1 B1 ne1 => ?_
    exact po_ofD ne1 (fun r hr => vlz_ok (W.fb F1).ab sub_r p1 hr) B1 fun h' d v F i w => ⟨RM.of i, fun _ => w.le F1.len⟩
  | .lc e t sr es own c, md, τ, s, σ, h, W, R, B, ne => by
    rw [vden] at ne ⊢
    rw [den_lc, bind_assoc]
    refine po_bind (fun n1 => dens_ok C es .rd τ s σ h W R B n1) ne fun x d s1 h1 e1 p1 F1 B1 ne1 => ?_
    obtain ⟨its, hi⟩ := ofD_some ne1
    rw [hi, ofD_bind] at ne1 ⊢
    have W1 := W.fb F1
    obtain ⟨w, hw, ir, st⟩ := vsrc_ok sub_r p1 hi
    rw [hw, Res.bind_ok]
    refine po_bind (fun n1 => lc_ok (md := md) (fun τ s σ h W R B n => denc_ok C c τ s σ h W R B n) (fun τ s σ h W R B n => (den_ok C e md.in_ τ s σ h W R B n).imp (fun v h' ⟨d, s', e, p, F, B⟩ => ⟨d, s', e, rm_in1 p.1, F, B⟩) fun _ _ _ z => z) ir isall_nil st W1 ((R.fb W F1).wipe own) B1 n1) ne1 fun vs ds s2 h2 e2 p2 F2 B2 ne2 => ?_
    exact (new_lst (W1.fb F2).zl p2).imp (fun v h' z => ⟨_, _, rfl, ⟨RM.ofZ z.2.1, fun _ => z.2.2.le (Nat.le_trans F1.len F2.len)⟩, Fo.of z.1, B2.fr z.1⟩) fun _ _ _ z => z.elim
theorem dens_ok (C : VCtx g G) : ∀ (es : Exs) (md : Md) (τ : VSl) (s : VS) (σ : Sl) (h : Heap), VW A Y b n0 h → VSR g.M A Y b h σ τ → BxS b s h → vdens g md es τ s ≠ .bad → (dens G es σ h).sat (PoV (fun h' ds vs => All2 (RM md A Y h') ds vs) b h (vdens g md es τ s)) (PoX (A ++ Y) b h (vdens g md es τ s))
  | .nil, md, τ, s, σ, h, W, R, B, ne => by
    rw [vdens] at ne ⊢
    rw [dens_nil]
    exact po_ok .nil B
  | .cons e es, md, τ, s, σ, h, W, R, B, ne => by
    rw [vdens] at ne ⊢
    rw [dens_cons]
    refine po_bind (fun n1 => den_ok C e md τ s σ h W R B n1) ne fun x d s1 h1 e1 p1 F1 B1 ne1 => ?_
    have W1 := W.fb F1
    refine po_bind (fun n1 => dens_ok C es md τ s1 σ h1 W1 (R.fb W F1) B1 n1) ne1 fun y d2 s2 h2 e2 p2 F2 B2 ne2 => ?_
    exact po_ok (.cons (RM.fb W1 p1.1 F2) p2) B2
theorem args_ok (C : VCtx g G) : ∀ (es : Exs) (md : Md) (τ : VSl) (s : VS) (σ : Sl) (h : Heap), md ≠ .rd → VW A Y b n0 h → VSR g.M A Y b h σ τ → BxS b s h → vargs g md es τ s ≠ .bad → (dens G es σ h).sat (PoV (fun h' ds vs => All2 (AV (md.Z A Y) b h') ds vs) b h (vargs g md es τ s)) (PoX (A ++ Y) b h (vargs g md es τ s))
  | .nil, md, τ, s, σ, h, hm, W, R, B, ne => by
    rw [vargs] at ne ⊢
    rw [dens_nil]
    exact po_ok .nil B
  | .cons e es, md, τ, s, σ, h, hm, W, R, B, ne => by
    rw [vargs] at ne ⊢
    rw [dens_cons]
    by_cases c : boxO τ e = true
    · rw [if_pos c] at ne ⊢
      unfold boxO at c
      split at c
      · rename_i i
        split at c
        · rename_i hi
          obtain ⟨n, hb, e1⟩ := R.box i hi
          rw [den_var, e1, Res.bind_ok]
          refine po_bind (fun n1 => args_ok C es md τ s σ h hm W R B n1) ne fun y d2 s2 h2 e2 p2 F2 B2 ne2 => ?_
          exact po_ok (.cons ⟨n, hb, rfl⟩ p2) B2
        · cases c
      · cases c
    · rw [if_neg c] at ne ⊢
      refine po_bind (fun n1 => den_ok C e md τ s σ h W R B n1) ne fun x d s1 h1 e1 p1 F1 B1 ne1 => ?_
      have W1 := W.fb F1
      refine po_bind (fun n1 => args_ok C es md τ s1 σ h1 hm W1 (R.fb W F1) B1 n1) ne1 fun y d2 s2 h2 e2 p2 F2 B2 ne2 => ?_
      have q := RM.fb W1 p1.1 F2
      refine po_ok (.cons ?_ p2) B2
      cases md with
      | rd => exact (hm rfl).elim
      | st => exact q
      | es => exact q
theorem deno_ok (C : VCtx g G) : ∀ (e : Exo) (τ : VSl) (s : VS) (σ : Sl) (h : Heap), VW A Y b n0 h → VSR g.M A Y b h σ τ → BxS b s h → vdeno g e τ s ≠ .bad → (deno G e σ h).sat (PoV (fun h' d v => v = d) b h (vdeno g e τ s)) (PoX (A ++ Y) b h (vdeno g e τ s))
  | .none, τ, s, σ, h, W, R, B, ne => by
    rw [vdeno] at ne ⊢
    rw [deno_none]
    exact po_ok rfl B
  | .some e, τ, s, σ, h, W, R, B, ne => by
    rw [vdeno] at ne ⊢
    rw [deno_some]
    refine po_bind (fun n1 => den_ok C e .rd τ s σ h W R B n1) ne fun x d s1 h1 e1 p1 F1 B1 ne1 => ?_
    cases d with
    | int i => rw [Rd.int p1.1]; exact po_ok rfl B1
    | _ => exact (ne1 rfl).elim
theorem denc_ok (C : VCtx g G) : ∀ (e : Exo) (τ : VSl) (s : VS) (σ : Sl) (h : Heap), VW A Y b n0 h → VSR g.M A Y b h σ τ → BxS b s h → vdenc g e τ s ≠ .bad → (denc G e σ h).sat (PoV (fun h' d v => v = d) b h (vdenc g e τ s)) (PoX (A ++ Y) b h (vdenc g e τ s))
  | .none, τ, s, σ, h, W, R, B, ne => by
    rw [vdenc] at ne ⊢
    rw [denc_none]
    exact po_ok rfl B
  | .some e, τ, s, σ, h, W, R, B, ne => by
    rw [vdenc] at ne ⊢
    rw [denc_some]
    refine po_bind (fun n1 => den_ok C e .rd τ s σ h W R B n1) ne fun x d s1 h1 e1 p1 F1 B1 ne1 => ?_
    cases ht : vtru d with
    | none => rw [ht] at ne1; exact (ne1 rfl).elim
    | some t => rw [RM.tru p1.1 ht]; exact po_ok rfl B1
end
end
end Mi


/-! # Mi19: data against the heap: slots that are written -/
namespace Mi
open PySem (Str PyData)
/-- data read at one place is one -/
theorem Is.uniq {X : List Nat} {h : Heap} {d e : PyData} {v : Val} (i : Is X h d v) (j : Is X h e v) : d = e := by
  have a := i.rd (k := max d.depth e.depth) (Nat.le_max_left _ _)
  have b := j.rd (k := max d.depth e.depth) (Nat.le_max_right _ _)
  rw [a] at b
  exact Option.some.inj b
mutual
/-- what is less deep than what stands at p doesn't come by p -/
theorem Is.off {X : List Nat} {h : Heap} {d : PyData} {p : Nat} (i : Is X h d (.ref p)) : ∀ {e : PyData} {w : Val}, Is X h e w → e.depth < d.depth → Is (p :: X) h e w
  | .none, w, j, hd => by unfold Is at *; exact j
  | .bool _, w, j, hd => by unfold Is at *; exact j
  | .int _, w, j, hd => by unfold Is at *; exact j
  | .str _, w, j, hd => by unfold Is at *; exact j
  | .list ds, w, j, hd => by
    have j0 := j
    obtain ⟨q, xs, rfl, hq, e, a⟩ := j.lst
    have hd' : PyData.depthAll ds + 1 < d.depth := hd
    refine is_lst (fun z => ?_) e (IsAll.off i a (by omega))
    rcases List.mem_cons.mp z with rfl | z
    · rw [j0.uniq i] at hd; omega
    · exact hq z
  | .tuple ds, w, j, hd => by
    have j0 := j
    obtain ⟨q, xs, rfl, hq, e, a⟩ := j.tup
    have hd' : PyData.depthAll ds + 1 < d.depth := hd
    refine is_tup (fun z => ?_) e (IsAll.off i a (by omega))
    rcases List.mem_cons.mp z with rfl | z
    · rw [j0.uniq i] at hd; omega
    · exact hq z
  | .dict ds, w, j, hd => by
    have j0 := j
    unfold Is at j
    obtain ⟨q, xs, rfl, hq, e, a⟩ := j
    have hd' : PyData.depthKv ds + 1 < d.depth := hd
    refine is_dic (fun z => ?_) e (IsKv.off i a (by omega))
    rcases List.mem_cons.mp z with rfl | z
    · rw [j0.uniq i] at hd; omega
    · exact hq z
theorem IsAll.off {X : List Nat} {h : Heap} {d : PyData} {p : Nat} (i : Is X h d (.ref p)) : ∀ {es : List PyData} {ws : List Val}, IsAll X h es ws → PyData.depthAll es < d.depth → IsAll (p :: X) h es ws
  | [], ws, a, hd => by rw [a.nil]; exact isall_nil
  | e :: es, ws, a, hd => by
    obtain ⟨y, ys, rfl, a1, a2⟩ := a.cons
    have hd' : max (PyData.depth e) (PyData.depthAll es) < d.depth := hd
    exact isall_cons (Is.off i a1 (by omega)) (IsAll.off i a2 (by omega))
theorem IsKv.off {X : List Nat} {h : Heap} {d : PyData} {p : Nat} (i : Is X h d (.ref p)) : ∀ {es : List (PyData × PyData)} {ws : List (Key × Val)}, IsKv X h es ws → PyData.depthKv es < d.depth → IsKv (p :: X) h es ws
  | [], ws, a, hd => by unfold IsKv at *; exact a
  | (k, e) :: es, ws, a, hd => by
    unfold IsKv at a
    obtain ⟨q, y, ys, rfl, rfl, a1, a2⟩ := a
    have hd' : max (max (PyData.depth (keyD q)) (PyData.depth e)) (PyData.depthKv es) < d.depth := hd
    unfold IsKv
    exact ⟨q, y, ys, rfl, rfl, Is.off i a1 (by omega), IsKv.off i a2 (by omega)⟩
end
section
variable {M A Y : List Nat} {b : Option Nat} {n0 : Nat} {h h' : Heap} {σ : Sl} {τ : VSl} {d : PyData} {v : Val}
theorem IsKv.more {X : List Nat} {m : Nat} {ds : List (PyData × PyData)} {xs : List (Key × Val)} (i : IsKv X h ds xs) (hm : h.length ≤ m) : IsKv (m :: X) h ds xs := i.mono fun n o hn e => ⟨fun z => by
  have := lt_of_get e
  rcases List.mem_cons.mp z with rfl | z
  · omega
  · exact hn z, e⟩
theorem Own.more {p q : Nat} (o : Own (A ++ Y) h q d) (hp : h.length ≤ p) : Own (p :: A ++ Y) h q d := by
  cases d with
  | list ds => obtain ⟨xs, e, a⟩ := o; exact ⟨xs, e, a.more hp⟩
  | dict ds => obtain ⟨xs, e, a⟩ := o; exact ⟨xs, e, a.more hp⟩
  | _ => exact o
/-- what stands new is one's own -/
theorem own_of {p : Nat} (i : Is (A ++ Y) h d (.ref p)) (l : isLD d = true) : Own (p :: A ++ Y) h p d := by
  have i0 := i
  cases d <;> cases l
  · obtain ⟨q, xs, e1, _, e, a⟩ := i.lst
    cases e1
    exact ⟨xs, e, IsAll.off i0 a (Nat.lt_succ_self _)⟩
  · unfold Is at i
    obtain ⟨q, xs, e1, _, e, a⟩ := i
    cases e1
    exact ⟨xs, e, IsKv.off i0 a (Nat.lt_succ_self _)⟩
theorem set_get {α : Type} {l : List (Option α)} {i j : Nat} {x : Option α} {y : α} (e : (l.set i x)[j]? = some (some y)) : (i = j ∧ i < l.length ∧ x = some y) ∨ (i ≠ j ∧ l[j]? = some (some y)) := by
  rw [List.getElem?_set] at e
  split at e
  · rename_i c
    split at e
    · rename_i c2; cases e; exact .inl ⟨c, c2, rfl⟩
    · cases e
  · rename_i c; exact .inr ⟨c, e⟩
theorem set_ne {α : Type} {l : List (Option α)} {i j : Nat} {x : Option α} (c : i ≠ j) : (l.set i x)[j]? = l[j]? := by rw [List.getElem?_set, if_neg c]
theorem set_eq {α : Type} {l : List (Option α)} {i : Nat} {x : Option α} (c : i < l.length) : (l.set i x)[i]? = some x := by rw [List.getElem?_set, if_pos rfl, if_pos c]
theorem VSR.lt (R : VSR M A Y b h σ τ) (W : VW A Y b n0 h) {i : Nat} {p : Nat} {d : PyData} (m : i ∈ M) (e : τ[i]? = some (some (.d d))) (e1 : σ[i]? = some (some (.ref p))) : p ∈ A ∧ p < h.length ∧ Own (A ++ Y) h p d := by
  obtain ⟨q, hq, e2, o⟩ := R.mu i d e m
  rw [e1] at e2
  cases e2
  exact ⟨hq, (W.al _ hq).2, o⟩
/-- a slot of one's own takes something new -/
theorem VSR.fresh (W : VW A Y b n0 h) (R : VSR M A Y b h σ τ) (F : Fb b h h') {j p : Nat} (hj : j ∈ M) (hp : h.length ≤ p) (i : Is (A ++ Y) h' d (.ref p)) (l : isLD d = true) :
    VSR M (p :: A) Y b h' (σ.set j (some (.ref p))) (τ.set j (some (.d d))) := by
  have hz : ∀ n, n ∉ p :: A ++ Y → n ∉ b.toList := fun n hn => W.zb n fun z => hn (List.mem_cons_of_mem _ z)
  have W' : ∀ {q : Nat} {e : PyData}, q ∈ A → Own (A ++ Y) h q e → Own (p :: A ++ Y) h' q e := fun {q e} hq o => by
    have o' := Own.fb W hq o F
    have o2 := o.more hp
    have hb : q ∉ b.toList := W.nb fun z => by have := W.yl q z; have := (W.al q hq).1; omega
    cases e with
    | list ds => obtain ⟨xs, e, a⟩ := o2; exact ⟨xs, F.at e hb, a.fb F hz⟩
    | dict ds => obtain ⟨xs, e, a⟩ := o2; exact ⟨xs, F.at e hb, a.fb F hz⟩
    | _ => exact o
  refine ⟨by simp [R.len], fun k e0 e m => ?_, fun k e0 e m => ?_, fun k e => ?_, fun k e => ?_, fun k l2 q e1 e2 m1 m2 n1 h1 h2 h3 => ?_⟩
  · rcases set_get e with ⟨rfl, _, _⟩ | ⟨c, e⟩
    · exact (m hj).elim
    · obtain ⟨v, g1, g2⟩ := R.st k e0 e m
      exact ⟨v, (set_ne c).trans g1, (g2.more hp).fb F hz⟩
  · rcases set_get e with ⟨rfl, hl, e⟩ | ⟨c, e⟩
    · cases e
      exact ⟨p, List.mem_cons_self .., set_eq (by rw [← R.len]; exact hl), own_of i l⟩
    · obtain ⟨q, g1, g2, g3⟩ := R.mu k e0 e m
      exact ⟨q, List.mem_cons_of_mem _ g1, (set_ne c).trans g2, W' g1 g3⟩
  · rcases set_get e with ⟨rfl, hl, e⟩ | ⟨c, e⟩
    · cases e
    · rw [set_ne c]; exact R.box k e
  · rcases set_get e with ⟨rfl, hl, e⟩ | ⟨c, e⟩
    · cases e
    · rw [set_ne c]; exact R.scr k e
  · rcases set_get h1 with ⟨rfl, hl, h1⟩ | ⟨c1, h1⟩
    · rw [set_eq (by rw [← R.len]; exact hl)] at h3
      cases h3
      rcases set_get h2 with ⟨rfl, _, _⟩ | ⟨c2, h2⟩
      · exact (n1 rfl).elim
      · rw [set_ne c2]
        intro z
        have := (R.lt W m2 h2 z).2.1
        omega
    · rw [set_ne c1] at h3
      rcases set_get h2 with ⟨rfl, hl, _⟩ | ⟨c2, h2⟩
      · rw [set_eq (by rw [← R.len]; exact hl)]
        intro z
        cases z
        have := (R.lt W m1 h1 h3).2.1
        omega
      · rw [set_ne c2]
        exact R.ap k l2 q e1 e2 m1 m2 n1 h1 h2 h3
/-- a list of one's own is written -/
theorem VSR.write (W : VW A Y b n0 h) (R : VSR M A Y b h σ τ) {i p : Nat} {d' : PyData} (m : i ∈ M) (e : τ[i]? = some (some (.d d))) (e1 : σ[i]? = some (some (.ref p))) (F : Fx1 p h h') (o : Own (A ++ Y) h' p d') :
    VSR M A Y b h' σ (τ.set i (some (.d d'))) := by
  have hp := (R.lt W m e e1).1
  have k : ∀ {e : PyData} {v : Val}, Is (A ++ Y) h e v → Is (A ++ Y) h' e v := fun i => i.mono fun n o hn e => ⟨hn, F.at e fun z => hn (by rw [z]; exact List.mem_append_left _ hp)⟩
  have ka : ∀ {e : List PyData} {v : List Val}, IsAll (A ++ Y) h e v → IsAll (A ++ Y) h' e v := fun i => i.mono fun n o hn e => ⟨hn, F.at e fun z => hn (by rw [z]; exact List.mem_append_left _ hp)⟩
  have kk : ∀ {e : List (PyData × PyData)} {v : List (Key × Val)}, IsKv (A ++ Y) h e v → IsKv (A ++ Y) h' e v := fun i => i.mono fun n o hn e => ⟨hn, F.at e fun z => hn (by rw [z]; exact List.mem_append_left _ hp)⟩
  refine ⟨by simp [R.len], fun j e0 g m' => ?_, fun j e0 g m' => ?_, fun j g => ?_, fun j g => ?_, fun j l q f1 f2 m1 m2 n1 h1 h2 h3 => ?_⟩
  · rcases set_get g with ⟨rfl, _, _⟩ | ⟨c, g⟩
    · exact (m' m).elim
    · obtain ⟨v, g1, g2⟩ := R.st j e0 g m'
      exact ⟨v, g1, k g2⟩
  · rcases set_get g with ⟨rfl, _, g⟩ | ⟨c, g⟩
    · cases g
      exact ⟨p, hp, e1, o⟩
    · obtain ⟨q, g1, g2, g3⟩ := R.mu j e0 g m'
      refine ⟨q, g1, g2, ?_⟩
      have hq : q ≠ p := fun z => R.ap i j p d e0 m m' c e g e1 (z ▸ g2)
      cases e0 with
      | list ds => obtain ⟨xs, e, a⟩ := g3; exact ⟨xs, F.at e hq, ka a⟩
      | dict ds => obtain ⟨xs, e, a⟩ := g3; exact ⟨xs, F.at e hq, kk a⟩
      | _ => exact g3
  · rcases set_get g with ⟨rfl, _, g⟩ | ⟨c, g⟩
    · cases g
    · exact R.box j g
  · rcases set_get g with ⟨rfl, _, g⟩ | ⟨c, g⟩
    · cases g
    · exact R.scr j g
  · have h1' : ∃ f, τ[j]? = some (some (.d f)) := by
      rcases set_get h1 with ⟨rfl, _, _⟩ | ⟨c, g⟩
      · exact ⟨d, e⟩
      · exact ⟨f1, g⟩
    have h2' : ∃ f, τ[l]? = some (some (.d f)) := by
      rcases set_get h2 with ⟨rfl, _, _⟩ | ⟨c, g⟩
      · exact ⟨d, e⟩
      · exact ⟨f2, g⟩
    obtain ⟨f1', h1'⟩ := h1'
    obtain ⟨f2', h2'⟩ := h2'
    exact R.ap j l q f1' f2' m1 m2 n1 h1' h2' h3
/-- fewer of one's own -/
theorem mem_but {p : Nat} {n : Nat} (hn : n ∈ A.filter (fun a => decide (a ≠ p)) ++ Y) : n ∈ A ++ Y := by
  rcases List.mem_append.mp hn with z | z
  · exact List.mem_append_left _ (List.mem_filter.mp z).1
  · exact List.mem_append_right _ z
/-- a list of one's own is written no more -/
theorem VSR.drop (W : VW A Y b n0 h) (R : VSR M A Y b h σ τ) {i p : Nat} (m : i ∈ M) (e : τ[i]? = some (some (.d d))) (e1 : σ[i]? = some (some (.ref p))) :
    VSR M (A.filter fun a => decide (a ≠ p)) Y b h σ (τ.set i none) ∧ Is (A.filter (fun a => decide (a ≠ p)) ++ Y) h d (.ref p) := by
  obtain ⟨hp, _, o⟩ := R.lt W m e e1
  have hpY : p ∉ Y := fun z => by have := W.yl p z; have := (W.al p hp).1; omega
  have hpn : p ∉ A.filter (fun a => decide (a ≠ p)) ++ Y := fun z => by
    rcases List.mem_append.mp z with z | z
    · simpa using (List.mem_filter.mp z).2
    · exact hpY z
  have get : ∀ {k : Nat} {y : VV}, ((τ.set i none)[k]? = some (some y)) → i ≠ k ∧ τ[k]? = some (some y) := fun {k y} g => by
    rcases set_get g with ⟨_, _, g⟩ | ⟨c, g⟩
    · cases g
    · exact ⟨c, g⟩
  refine ⟨⟨by simp [R.len], fun k e0 g m' => ?_, fun k e0 g m' => ?_, fun k g => R.box k (get g).2, fun k g => R.scr k (get g).2, fun k l q f1 f2 m1 m2 n1 h1 h2 h3 => R.ap k l q f1 f2 m1 m2 n1 (get h1).2 (get h2).2 h3⟩, ?_⟩
  · obtain ⟨v, g3, g4⟩ := R.st k e0 (get g).2 m'
    exact ⟨v, g3, g4.sub fun n hn => mem_but hn⟩
  · obtain ⟨q, g3, g4, g5⟩ := R.mu k e0 (get g).2 m'
    have hq : q ≠ p := fun z => R.ap i k p d e0 m m' (get g).1 e (get g).2 e1 (z ▸ g4)
    refine ⟨q, List.mem_filter.mpr ⟨g3, by simpa using hq⟩, g4, ?_⟩
    cases e0 with
    | list ds => obtain ⟨xs, g1, g2⟩ := g5; exact ⟨xs, g1, g2.sub fun n hn => mem_but hn⟩
    | dict ds => obtain ⟨xs, g1, g2⟩ := g5; exact ⟨xs, g1, g2.sub fun n hn => mem_but hn⟩
    | _ => exact g5
  · cases d with
    | list ds => obtain ⟨xs, g1, g2⟩ := o; exact is_lst hpn g1 (g2.sub fun n hn => mem_but hn)
    | dict ds => obtain ⟨xs, g1, g2⟩ := o; exact is_dic hpn g1 (g2.sub fun n hn => mem_but hn)
    | _ => exact o.elim
/-- a list of one's own goes to another slot, to be written no more -/
theorem VSR.move (W : VW A Y b n0 h) (R : VSR M A Y b h σ τ) {i j p : Nat} (m : i ∈ M) (hj : j ∉ M) (e : τ[i]? = some (some (.d d))) (e1 : σ[i]? = some (some (.ref p))) :
    VSR M (A.filter fun a => decide (a ≠ p)) Y b h (σ.set j (some (.ref p))) ((τ.set j (some (.d d))).set i none) := by
  obtain ⟨hp, _, o⟩ := R.lt W m e e1
  have hij : i ≠ j := fun z => hj (z ▸ m)
  have hpY : p ∉ Y := fun z => by have := W.yl p z; have := (W.al p hp).1; omega
  have hpn : p ∉ A.filter (fun a => decide (a ≠ p)) ++ Y := fun z => by
    rcases List.mem_append.mp z with z | z
    · simpa using (List.mem_filter.mp z).2
    · exact hpY z
  have get : ∀ {k : Nat} {y : VV}, (((τ.set j (some (.d d))).set i none)[k]? = some (some y)) → i ≠ k ∧ ((j = k ∧ y = .d d) ∨ (j ≠ k ∧ τ[k]? = some (some y))) := fun {k y} g => by
    rcases set_get g with ⟨_, _, g⟩ | ⟨c, g⟩
    · cases g
    · rcases set_get g with ⟨c2, _, g⟩ | ⟨c2, g⟩
      · cases g; exact ⟨c, .inl ⟨c2, rfl⟩⟩
      · exact ⟨c, .inr ⟨c2, g⟩⟩
  refine ⟨by simp [R.len], fun k e0 g m' => ?_, fun k e0 g m' => ?_, fun k g => ?_, fun k g => ?_, fun k l q f1 f2 m1 m2 n1 h1 h2 h3 => ?_⟩
  · rcases (get g).2 with ⟨rfl, g2⟩ | ⟨c, g2⟩
    · cases g2
      have hl : j < σ.length := by
        rw [← R.len]
        rcases Nat.lt_or_ge j τ.length with z | z
        · exact z
        · rw [List.getElem?_set, if_neg hij, List.getElem?_eq_none (by simpa using z)] at g
          cases g
      refine ⟨_, set_eq hl, ?_⟩
      cases d with
      | list ds => obtain ⟨xs, g1, g2⟩ := o; exact is_lst hpn g1 (g2.sub fun n hn => mem_but hn)
      | dict ds => obtain ⟨xs, g1, g2⟩ := o; exact is_dic hpn g1 (g2.sub fun n hn => mem_but hn)
      | _ => exact o.elim
    · obtain ⟨v, g3, g4⟩ := R.st k e0 g2 m'
      exact ⟨v, (set_ne c).trans g3, g4.sub fun n hn => mem_but hn⟩
  · rcases (get g).2 with ⟨rfl, g2⟩ | ⟨c, g2⟩
    · exact (hj m').elim
    · obtain ⟨q, g3, g4, g5⟩ := R.mu k e0 g2 m'
      have hq : q ≠ p := fun z => R.ap i k p d e0 m m' (get g).1 e g2 e1 (z ▸ g4)
      refine ⟨q, List.mem_filter.mpr ⟨g3, by simpa using hq⟩, (set_ne c).trans g4, ?_⟩
      cases e0 with
      | list ds => obtain ⟨xs, g1, g2⟩ := g5; exact ⟨xs, g1, g2.sub fun n hn => mem_but hn⟩
      | dict ds => obtain ⟨xs, g1, g2⟩ := g5; exact ⟨xs, g1, g2.sub fun n hn => mem_but hn⟩
      | _ => exact g5
  · rcases (get g).2 with ⟨rfl, g2⟩ | ⟨c, g2⟩
    · cases g2
    · rw [set_ne c]; exact R.box k g2
  · rcases (get g).2 with ⟨rfl, g2⟩ | ⟨c, g2⟩
    · cases g2
    · rw [set_ne c]; exact R.scr k g2
  · rcases (get h1).2 with ⟨rfl, _⟩ | ⟨c1, h1⟩
    · exact (hj m1).elim
    · rcases (get h2).2 with ⟨rfl, _⟩ | ⟨c2, h2⟩
      · exact (hj m2).elim
      · rw [set_ne c1] at h3
        rw [set_ne c2]
        exact R.ap k l q f1 f2 m1 m2 n1 h1 h2 h3
end
end Mi


/-! # Mi20: data against the heap: statements -/
namespace Mi
open PySem (Str PyData)
def FlR (M A Y : List Nat) (b : Option Nat) (n0 : Nat) (fret : Bool) (h : Heap) : VFl → Fl → Prop
  | .nx τ, .nx σ => VSR M A Y b h σ τ
  | .rt d, .rt v => Is Y h d v ∧ (fret = true → Nw n0 d v)
  | .ex c fd τ, .ex c' fs σ => c = c' ∧ FsR (A ++ Y) h fd fs ∧ VSR M A Y b h σ τ
  | _, _ => False
def PoS (M Y : List Nat) (b : Option Nat) (n0 : Nat) (fret : Bool) (A : List Nat) (h : Heap) (r : Vr VFl) : RQ Fl := fun f h' =>
  ∃ vf s' A', r = .ok vf s' ∧ FlR M A' Y b n0 fret h' vf f ∧ Fo (b.toList ++ A) h h' ∧ (∀ a ∈ A', a ∈ A ∨ h.length ≤ a) ∧ VW A' Y b n0 h' ∧ BxS b s' h'
section
variable {g : VG} {G : Mi.G} {A Y : List Nat} {b : Option Nat} {n0 : Nat} {h : Heap} {σ : Sl} {τ : VSl} {s : VS}
theorem fo_wide {A A1 : List Nat} {h h1 h2 : Heap} (F : Fo (b.toList ++ A) h h1) (hg : ∀ a ∈ A1, a ∈ A ∨ h.length ≤ a) (F2 : Fo (b.toList ++ A1) h1 h2) : Fo (b.toList ++ A) h h2 := by
  refine ⟨Nat.le_trans F.len F2.len, fun m hm z => ?_⟩
  rw [F2.get m (Nat.lt_of_lt_of_le hm F.len) ?_, F.get m hm z]
  intro y
  rcases List.mem_append.mp y with y | y
  · exact z (List.mem_append_left _ y)
  · rcases hg m y with y | y
    · exact z (List.mem_append_right _ y)
    · omega
theorem ps_go {A A1 : List Nat} {h h1 : Heap} {M : List Nat} {fret : Bool} {x : Res Fl} {r : Vr VFl} (F : Fo (b.toList ++ A) h h1) (hg : ∀ a ∈ A1, a ∈ A ∨ h.length ≤ a) (z : x.sat (PoS M Y b n0 fret A1 h1 r) nox) : x.sat (PoS M Y b n0 fret A h r) nox := by
  refine z.imp (fun f h' ⟨vf, s', A', e, fl, F', g', W, B⟩ => ⟨vf, s', A', e, fl, fo_wide F hg F', fun a ha => ?_, W, B⟩) fun _ _ _ z => z
  rcases g' a ha with y | y
  · exact hg a y
  · exact .inr (Nat.le_trans F.len y)
theorem fb_fo (F : Fb b h h') : Fo (b.toList ++ A) h h' := F.sub fun n hn => List.mem_append_left _ hn
theorem ps_sb {α β : Type} {M : List Nat} {fret : Bool} {rr : Res β} {kk : β → Heap → Res Fl} {r1 : Vr α} {f : α → VS → Vr VFl} {P : Heap → α → β → Prop} (W : VW A Y b n0 h) (R : VSR M A Y b h σ τ)
    (h1 : r1 ≠ .bad → rr.sat (PoV P b h r1) (PoX (A ++ Y) b h r1)) (hne : r1.sb τ f ≠ .bad)
    (h2 : ∀ v d s1 hh, r1 = .ok d s1 → P hh d v → Fb b h hh → BxS b s1 hh → VW A Y b n0 hh → VSR M A Y b hh σ τ → f d s1 ≠ .bad → (kk v hh).sat (PoS M Y b n0 fret A hh (f d s1)) nox) :
    (rr.sb σ kk).sat (PoS M Y b n0 fret A h (r1.sb τ f)) nox := by
  rw [sat_sb]
  have n1 : r1 ≠ .bad := fun e => hne (by rw [e]; rfl)
  refine (h1 n1).imp (fun v hh z => ?_) (fun c fs hh z => ?_)
  · obtain ⟨d, s1, e, p, F, B⟩ := z
    subst e
    exact ps_go (fb_fo F) (fun a ha => .inl ha) (h2 v d s1 hh rfl p F B (W.fb F) (R.fb W F) hne)
  · obtain ⟨fd, s', e, p', F', B'⟩ := z
    subst e
    exact ⟨_, s', A, rfl, ⟨rfl, p', R.fb W F'⟩, fb_fo F', fun a ha => .inl ha, W.fb F', B'⟩
theorem ps_nx {M : List Nat} {fret : Bool} (W : VW A Y b n0 h) (R : VSR M A Y b h σ τ) (B : BxS b s h) : (Res.ok (Fl.nx σ) h).sat (PoS M Y b n0 fret A h (.ok (.nx τ) s)) nox :=
  ⟨_, s, A, rfl, R, Fo.refl _ _, fun a ha => .inl ha, W, B⟩
/-- on, where it goes on -/
theorem ps_then {M : List Nat} {fret : Bool} {x : Res Fl} {r : Vr VFl} {k : Sl → Heap → Res Fl} {vk : VSl → VS → Vr VFl} (hx : r ≠ .bad → x.sat (PoS M Y b n0 fret A h r) nox) (hne : (r.bind fun f s => f.go s vk) ≠ .bad)
    (hk : ∀ A' τ s σ h', VW A' Y b n0 h' → VSR M A' Y b h' σ τ → BxS b s h' → Fo (b.toList ++ A) h h' → (∀ a ∈ A', a ∈ A ∨ h.length ≤ a) → vk τ s ≠ .bad → (k σ h').sat (PoS M Y b n0 fret A' h' (vk τ s)) nox) :
    (x.bind fun f h => f.go h k).sat (PoS M Y b n0 fret A h (r.bind fun f s => f.go s vk)) nox := by
  rw [sat_bind]
  have n1 : r ≠ .bad := fun e => hne (by rw [e]; rfl)
  refine (hx n1).imp (fun f h1 z => ?_) fun _ _ _ z => z
  obtain ⟨vf, s1, A1, e, fl, F, gr, W, B⟩ := z
  subst e
  have hne : vf.go s1 vk ≠ .bad := hne
  show (f.go h1 k).sat (PoS M Y b n0 fret A h (vf.go s1 vk)) nox
  match vf, f, fl, hne with
  | .nx τ, .nx σ, fl, hne => exact ps_go F gr (hk A1 τ s1 σ h1 W fl B F gr hne)
  | .rt d, .rt v, fl, _ => exact ⟨_, s1, A1, rfl, fl, F, gr, W, B⟩
  | .ex c fd τ, .ex c' fs σ, fl, _ => exact ⟨_, s1, A1, rfl, fl, F, gr, W, B⟩
theorem mutO_some {e : Ex} {m : Me} {i : Nat} {es : Exs} (hm : mutO e = some (m, i, es)) : e = .met m (.var i) es ∧ isMut m = true := by
  unfold mutO at hm
  split at hm
  · split at hm
    · rename_i c; cases hm; exact ⟨rfl, c⟩
    · cases hm
  · cases hm
theorem ps_write {M : List Nat} {fret : Bool} {i p : Nat} {d d' : PyData} (W : VW A Y b n0 h) (R : VSR M A Y b h σ τ) (B : BxS b s h) (m : i ∈ M) (e : τ[i]? = some (some (.d d))) (e1 : σ[i]? = some (some (.ref p)))
    {h' : Heap} (F : Fx1 p h h') (o : Own (A ++ Y) h' p d') : (Res.ok (Fl.nx σ) h').sat (PoS M Y b n0 fret A h (.ok (.nx (τ.set i (some (.d d')))) s)) nox := by
  have hp := (R.lt W m e e1).1
  have hpY : p ∉ Y := fun z => by have := W.yl p z; have := (W.al p hp).1; omega
  refine ⟨_, s, A, rfl, R.write W m e e1 F o, Fo.one F (List.mem_append_right _ hp), fun a ha => .inl ha, ⟨fun a ha => ⟨(W.al a ha).1, Nat.lt_of_lt_of_le (W.al a ha).2 F.len⟩, W.yl, Nat.le_trans W.nl F.len, W.bx⟩, fun β eβ => ?_⟩
  obtain ⟨n, e1, e2⟩ := B β eβ
  exact ⟨n, e1, F.at e2 fun z => hpY (z ▸ W.bx n e1)⟩
theorem IsAll.setv {X : List Nat} {h : Heap} {d : PyData} {v : Val} (hv : Is X h d v) : ∀ {ds : List PyData} {xs : List Val} (k : Nat), IsAll X h ds xs → IsAll X h (ds.set k d) (xs.set k v)
  | [], xs, k, i => by rw [i.nil]; exact isall_nil
  | d' :: ds, xs, 0, i => by
    obtain ⟨y, ys, rfl, i1, i2⟩ := i.cons
    exact isall_cons hv i2
  | d' :: ds, xs, k + 1, i => by
    obtain ⟨y, ys, rfl, i1, i2⟩ := i.cons
    exact isall_cons i1 (IsAll.setv hv k i2)
theorem vmut_ok {M : List Nat} {fret : Bool} {m : Me} {i p : Nat} {ds : List PyData} {vs : List PyData} {ws : List Val} {d' : PyData} (W : VW A Y b n0 h) (R : VSR M A Y b h σ τ) (B : BxS b s h) (hi : i ∈ M) (e : τ[i]? = some (some (.d (.list ds)))) (e1 : σ[i]? = some (some (.ref p)))
    (a : All2 (RM (if m = .extend then .rd else .st) A Y h) vs ws) (hv : vmut m (.list ds) vs = some d') : (Mi.met m (.ref p) ws h).sat (fun _ h' => (Res.ok (Fl.nx σ) h').sat (PoS M Y b n0 fret A h (.ok (.nx (τ.set i (some (.d d')))) s)) nox) nox := by
  obtain ⟨hp, hlt, xs, eg, ia⟩ := R.lt W hi e e1
  have keep : ∀ {h' : Heap}, Fx1 p h h' → ∀ {es : List PyData} {ys : List Val}, IsAll (A ++ Y) h es ys → IsAll (A ++ Y) h' es ys := fun F es ys i => i.mono fun n o hn e => ⟨hn, F.at e fun z => hn (by rw [z]; exact List.mem_append_left _ hp)⟩
  unfold vmut at hv
  split at hv
  · rename_i x y e0
    cases e0
    obtain ⟨w, rfl, r⟩ := all1 a
    split at hv
    · rename_i c
      cases hv
      refine sat_app eg (by rw [ia.length]; exact c) fun h' e' l' F => ps_write W R B hi e e1 F ⟨_, e', keep F (ia.app (isall_cons r isall_nil))⟩
    · cases hv
  · rename_i x k y e0
    cases e0
    obtain ⟨w, w', rfl, r, r'⟩ := all2_ a
    split at hv
    · rename_i c
      cases hv
      have ew : w = .int k := Is.int (show Is (A ++ Y) h (.int k) w from r)
      subst ew
      unfold Mi.met
      simp only [eg]
      rw [if_pos ⟨by rw [ia.length]; exact c.1, c.2⟩]
      have F := Fx1.put h p (.lst (xs.take k.toNat ++ [w'] ++ xs.drop k.toNat))
      exact ps_write W R B hi e e1 F ⟨_, by simp [hlt], keep F (((ia.take _).app (isall_cons r' isall_nil)).app (ia.drop _))⟩
    · cases hv
  · rename_i x e0
    cases e0
    cases hv
    cases a
    exact sat_clear eg fun h' e' l' F => ps_write W R B hi e e1 F ⟨_, e', isall_nil⟩
  · rename_i x ys e0
    cases e0
    obtain ⟨w, rfl, r⟩ := all1 a
    split at hv
    · rename_i c
      cases hv
      obtain ⟨q, zs, rfl, _, eq, ib⟩ := Rd.lst sub_r (show Rd (A ++ Y) Y h (.list ys) w from r)
      exact sat_ext eg eq (by rw [ia.length, ib.length]; exact c) fun h' e' l' F => ps_write W R B hi e e1 F ⟨_, e', keep F (ia.app ib)⟩
    · cases hv
  · cases hv
theorem rcv_mut {m : Me} {p : Nat} {xs : List Val} (hm : isMut m = true) (e : h[p]? = some (.lst xs)) : rcv m (.ref p) h = true := by
  cases m <;> cases hm <;> (unfold rcv lstO; simp [e])
theorem sat_imp2 {α : Type} {r : Res α} {Q : RQ α} {E : RE} {Q' : RQ α} (s : r.sat Q nox) (f : ∀ a h, Q a h → Q' a h) : r.sat Q' E := s.imp f fun _ _ _ z => z.elim
theorem exp_ok (C : VCtx g G) {fret : Bool} (W : VW A Y b n0 h) (R : VSR g.M A Y b h σ τ) (B : BxS b s h) {e : Ex} (ne : vexp g e τ s ≠ .bad) : (exe G (.exp e) σ h).sat (PoS g.M Y b n0 fret A h (vexp g e τ s)) nox := by
  rw [exe_exp]
  unfold vexp at ne ⊢
  cases hm : mutO e with
  | none =>
    rw [hm] at ne
    exact ps_sb W R (fun n1 => den_ok C e .st τ s σ h W R B n1) ne fun v d s1 h1 _ _ F B1 W1 R1 _ => ps_nx W1 R1 B1
  | some q =>
    obtain ⟨m, i, es⟩ := q
    rw [hm] at ne
    obtain ⟨rfl, im⟩ := mutO_some hm
    dsimp only at ne ⊢
    unfold vwrite at ne ⊢
    split at ne
    · rename_i mi
      rw [if_pos mi]
      split at ne
      · rename_i ds hi
        obtain ⟨p, hp, e1, xs, eg, ia⟩ := R.mu i _ hi mi
        rw [den_met, den_var, e1, Res.bind_ok, if_pos (rcv_mut im eg)]
        have a1 : ∀ (k : List Val → Heap → Res Val), ((dens G es σ h).bind k).sb σ (fun _ h => .ok (.nx σ) h) = (dens G es σ h).sb σ fun vs h => (k vs h).sb σ fun _ h => .ok (.nx σ) h := fun k => by cases dens G es σ h <;> rfl
        rw [a1]
        refine ps_sb W R (fun n1 => dens_ok C es _ τ s σ h W R B n1) ne fun v d s1 h1 _ r F B1 W1 R1 ne1 => ?_
        cases hv : vmut m (.list ds) d with
        | none => rw [hv] at ne1; exact (ne1 rfl).elim
        | some d' =>
          rw [sat_sb]
          exact sat_imp2 (vmut_ok W1 R1 B1 mi hi e1 r hv) fun _ _ z => z
      · exact (ne rfl).elim
    · exact (ne rfl).elim
theorem sti_ok (C : VCtx g G) {fret : Bool} (W : VW A Y b n0 h) (R : VSR g.M A Y b h σ τ) (B : BxS b s h) {o i e : Ex} (ne : vsti g o i e τ s ≠ .bad) : (exe G (.sti o i e) σ h).sat (PoS g.M Y b n0 fret A h (vsti g o i e τ s)) nox := by
  rw [exe_sti]
  unfold vsti at ne ⊢
  split at ne
  · rename_i j
    split at ne
    · rename_i mj
      rw [if_pos mj]
      refine ps_sb W R (fun n1 => den_ok C e .st τ s σ h W R B n1) ne fun v dv s1 h1 _ r F B1 W1 R1 ne1 => ?_
      split at ne1
      · rename_i d hj
        obtain ⟨p, hp, e1, ow⟩ := R1.mu j _ hj mj
        rw [den_var, e1, Res.sb_ok]
        refine ps_sb W1 R1 (fun n1 => den_ok C i .rd τ s1 σ h1 W1 R1 B1 n1) ne1 fun k dk s2 h2 _ r2 F2 B2 W2 R2 ne2 => ?_
        cases hv : vset d dk dv with
        | none => rw [hv] at ne2; exact (ne2 rfl).elim
        | some d' =>
          dsimp only
          have rv := Is.fb r.1 F2 W1.zb
          obtain ⟨_, hlt, ow2⟩ := R2.lt W2 mj hj e1
          have keep : ∀ {h' : Heap}, Fx1 p h2 h' → ∀ {n : Nat} {o : Ob}, n ∉ A ++ Y → h2[n]? = some o → n ∉ A ++ Y ∧ h'[n]? = some o := fun F n o hn e => ⟨hn, F.at e fun z => hn (by rw [z]; exact List.mem_append_left _ hp)⟩
          unfold vset at hv
          split at hv
          · rename_i xs kk
            obtain ⟨ys, eg, ia⟩ := ow2
            obtain ⟨n, hn, rfl⟩ := mapsome hv
            rw [Rd.int r2.1, sat_sb]
            exact sat_set eg (by rw [ia.length]; exact hn) fun h' e' l' F => ps_write W2 R2 B2 mj hj e1 F ⟨_, e', IsAll.setv (rv.mono fun _ _ a b => keep F a b) n (ia.mono fun _ _ a b => keep F a b)⟩
          · rename_i kvs kd _
            obtain ⟨ys, eg, ia⟩ := ow2
            split at hv
            · rename_i kk hk
              split at hv
              · rename_i c
                cases hv
                rw [sat_sb]
                exact sat_setD eg ((Rd.is sub_r r2.1).key.trans hk) (by rw [kv_len ia]; exact c) fun h' e' l' F => ps_write W2 R2 B2 mj hj e1 F ⟨_, e', putK_v (ia.mono fun _ _ a b => keep F a b) (rv.mono fun _ _ a b => keep F a b)⟩
              · cases hv
            · cases hv
          · cases hv
      · exact (ne1 rfl).elim
    · exact (ne rfl).elim
  · exact (ne rfl).elim
end
end Mi


/-! # Mi21: data against the heap: suites, defs, calls -/
namespace Mi
open PySem (Str PyData)
section
variable {g : VG} {G : Mi.G} {A Y : List Nat} {b : Option Nat} {n0 : Nat} {h : Heap} {σ : Sl} {τ : VSl} {s : VS}
theorem VW.push (W : VW A Y b n0 h) {p : Nat} (h1 : n0 ≤ p) (h2 : p < h.length) : VW (p :: A) Y b n0 h := ⟨fun a ha => by
  rcases List.mem_cons.mp ha with rfl | ha
  · exact ⟨h1, h2⟩
  · exact W.al a ha, W.yl, W.nl, W.bx⟩
theorem asg_ok (C : VCtx g G) {fret : Bool} (W : VW A Y b n0 h) (R : VSR g.M A Y b h σ τ) (B : BxS b s h) {t : Tg} {e : Ex} (ne : vasg g t e τ s ≠ .bad) : (exe G (.asg t e) σ h).sat (PoS g.M Y b n0 fret A h (vasg g t e τ s)) nox := by
  rw [exe_asg]
  cases t with
  | nm j =>
    unfold vasg at ne ⊢
    dsimp only at ne ⊢
    split at ne
    · rename_i mj
      rw [if_pos mj]
      split at ne
      · rename_i fr
        rw [if_pos fr]
        have n1 : vden g .st e τ s ≠ .bad := fun z => ne (by rw [z]; rfl)
        rw [sat_sb]
        refine (den_ok C e .st τ s σ h W R B n1).imp (fun v h1 z => ?_) (fun c fs h1 z => ?_)
        · obtain ⟨d, s1, ev, r, F, B1⟩ := z
          rw [ev] at ne ⊢
          have ne1 : (if isLD d then Vr.ok (VFl.nx (τ.set j (some (.d d)))) s1 else .bad) ≠ .bad := ne
          show Res.sat _ (PoS _ _ _ _ _ _ _ (if isLD d then Vr.ok (VFl.nx (τ.set j (some (.d d)))) s1 else .bad)) _
          split at ne1
          · rename_i l
            rw [if_pos l, setT_nm]
            have nw := r.2 fr l
            obtain ⟨p, rfl, hlt⟩ : ∃ p, v = .ref p ∧ p < h1.length := by
              have r1 : Is (A ++ Y) h1 d v := r.1
              cases d <;> cases l
              · obtain ⟨p, _, rfl, _, e, _⟩ := r1.lst; exact ⟨p, rfl, lt_of_get e⟩
              · unfold Is at r1; obtain ⟨p, _, rfl, _, e, _⟩ := r1; exact ⟨p, rfl, lt_of_get e⟩
            have hp := nw p rfl
            refine ⟨_, s1, p :: A, rfl, VSR.fresh W R F mj hp r.1 l, fb_fo F, fun a ha => ?_, (W.fb F).push (Nat.le_trans W.nl hp) hlt, B1⟩
            rcases List.mem_cons.mp ha with rfl | ha
            · exact .inr hp
            · exact .inl ha
          · exact (ne1 rfl).elim
        · obtain ⟨fd, s', ev, p', F', B'⟩ := z
          rw [ev]
          exact ⟨_, s', A, rfl, ⟨rfl, p', R.fb W F'⟩, fb_fo F', fun a ha => .inl ha, W.fb F', B'⟩
      · exact (ne rfl).elim
    · rename_i mj
      rw [if_neg mj]
      split at ne
      · rename_i i hi
        obtain ⟨rfl, mi⟩ : e = .var i ∧ i ∈ g.M := by
          unfold vmove at hi
          split at hi
          · split at hi
            · rename_i m; cases hi; exact ⟨rfl, m⟩
            · cases hi
          · cases hi
        split at ne
        · rename_i d hd
          obtain ⟨p, hp, e1, ow⟩ := R.mu i d hd mi
          rw [den_var, e1, Res.sb_ok, setT_nm]
          exact ⟨_, s, _, rfl, R.move W mi mj hd e1, Fo.refl _ _, fun a ha => .inl (List.mem_filter.mp ha).1, ⟨fun a ha => W.al a (List.mem_filter.mp ha).1, W.yl, W.nl, W.bx⟩, B⟩
        · exact (ne rfl).elim
      · refine ps_sb W R (fun n1 => den_ok C e .st τ s σ h W R B n1) ne fun v d s1 h1 _ r F B1 W1 R1 ne1 => ?_
        rw [setT_nm]
        exact ps_nx W1 (R1.put mj r.1) B1
  | tp is =>
    unfold vasg at ne ⊢
    dsimp only at ne ⊢
    refine ps_sb W R (fun n1 => den_ok C e .st τ s σ h W R B n1) ne fun v d s1 h1 _ r F B1 W1 R1 ne1 => ?_
    cases ht : vtg g.M (.tp is) d τ with
    | none => rw [ht] at ne1; exact (ne1 rfl).elim
    | some τ' =>
      obtain ⟨σ', e1, R2⟩ := vtg_v R1 r.1 ht
      unfold setT
      rw [e1]
      exact ps_nx W1 R2 B1
theorem vaop_ok {o : Op} {d e r : PyData} {x y : Val} {Z Z' : List Nat} {h0 h1 h2 : Heap} (i : Is Z h0 d x) (j : Rd Z Z' h1 e y) (hv : vaop o d e = some r) : ∃ v, aop o x y h2 = .ok v h2 ∧ Is Z h2 r v := by
  unfold vaop at hv
  split at hv
  · cases hv; rw [i.int, j.int]; exact ⟨_, rfl, is_int⟩
  · cases hv; rw [i.int, j.int]; exact ⟨_, rfl, is_int⟩
  · split at hv
    · rename_i c
      cases hv
      rw [i.str, j.str]
      exact ⟨_, by unfold aop; dsimp only; rw [if_pos c], is_str⟩
    · cases hv
  · cases hv
theorem loop_ok {fret : Bool} {M : List Nat} {t : Tg} {vb : VSl → VS → Vr VFl} {bb : Sl → Heap → Res Fl} {w : Walk}
    (hb : ∀ A τ s σ h, VW A Y b n0 h → VSR M A Y b h σ τ → BxS b s h → vb τ s ≠ .bad → (bb σ h).sat (PoS M Y b n0 fret A h (vb τ s)) nox) :
    ∀ {ds : List PyData} {its : List It} {A : List Nat} {τ : VSl} {s : VS} {σ : Sl} {h : Heap}, All2 (ItR (A ++ Y) h) ds its → Stn (A ++ Y) h w → VW A Y b n0 h → VSR M A Y b h σ τ → BxS b s h → vloop M t vb ds τ s ≠ .bad →
      (loopF w t bb its σ h).sat (PoS M Y b n0 fret A h (vloop M t vb ds τ s)) nox
  | [], its, A, τ, s, σ, h, i, S, W, R, B, ne => by
    cases i
    unfold loopF vloop
    rw [if_pos S.ok]
    exact ps_nx W R B
  | d :: ds, its, A, τ, s, σ, h, i, S, W, R, B, ne => by
    cases i with
    | cons i1 i2 =>
      unfold loopF
      rw [if_pos S.ok]
      unfold vloop at ne ⊢
      obtain ⟨F1, r1⟩ := yield_ok W.ab i1
      cases ht : vtg M t d τ with
      | none => rw [ht] at ne; exact (ne rfl).elim
      | some τ' =>
        rw [ht] at ne
        have W1 := W.fb (Fo.of F1)
        have R1 := R.fb W (Fo.of F1)
        obtain ⟨σ', e1, R2⟩ := vtg_v R1 r1 ht
        rw [e1]
        dsimp only at ne ⊢
        refine ps_go (Fo.of F1) (fun a ha => .inl ha) (ps_then (fun n1 => hb A τ' s σ' _ W1 R2 (B.fr F1) n1) ne fun A' τ2 s2 σ2 h2 W2 R3 B2 F2 gr ne2 => ?_)
        have keep : ∀ {n : Nat} {o : Ob}, n ∉ A ++ Y → h[n]? = some o → n ∉ A' ++ Y ∧ h2[n]? = some o := fun {n o} hn e => by
          refine ⟨fun z => ?_, F2.at (F1.at e) fun z => ?_⟩
          · rcases List.mem_append.mp z with z | z
            · rcases gr n z with z | z
              · exact hn (List.mem_append_left _ z)
              · have := lt_of_get e; have := F1.len; omega
            · exact hn (List.mem_append_right _ z)
          · rcases List.mem_append.mp z with z | z
            · exact W.zb n hn z
            · exact hn (List.mem_append_left _ z)
        exact loop_ok hb (i2.imp fun d i r => r.mono fun d v z => z.mono fun n o a b => keep a b) (fun q hq => ⟨(keep (S q hq).2 (S q hq).1).2, (keep (S q hq).2 (S q hq).1).1⟩) W2 R3 B2 ne2
theorem loopW_ok {fret : Bool} {M : List Nat} {vc : VSl → VS → Vr Bool} {vb : VSl → VS → Vr VFl} {cc : Sl → Heap → Res Bool} {bb : Sl → Heap → Res Fl}
    (hc : ∀ A τ s σ h, VW A Y b n0 h → VSR M A Y b h σ τ → BxS b s h → vc τ s ≠ .bad → (cc σ h).sat (PoV (fun _ d v => v = d) b h (vc τ s)) (PoX (A ++ Y) b h (vc τ s)))
    (hb : ∀ A τ s σ h, VW A Y b n0 h → VSR M A Y b h σ τ → BxS b s h → vb τ s ≠ .bad → (bb σ h).sat (PoS M Y b n0 fret A h (vb τ s)) nox) :
    ∀ {n : Nat} {A : List Nat} {τ : VSl} {s : VS} {σ : Sl} {h : Heap}, VW A Y b n0 h → VSR M A Y b h σ τ → BxS b s h → vloopW vc vb n τ s ≠ .bad →
      (loopW cc bb n σ h).sat (PoS M Y b n0 fret A h (vloopW vc vb n τ s)) nox
  | 0, A, τ, s, σ, h, W, R, B, ne => (ne rfl).elim
  | n + 1, A, τ, s, σ, h, W, R, B, ne => by
    unfold loopW
    unfold vloopW at ne ⊢
    refine ps_sb W R (fun n1 => hc A τ s σ h W R B n1) ne fun v d s1 h1 _ r F B1 W1 R1 ne1 => ?_
    subst r
    cases v with
    | false => exact ps_nx W1 R1 B1
    | true => exact ps_then (fun n1 => hb A τ s1 σ h1 W1 R1 B1 n1) ne1 fun A' τ2 s2 σ2 h2 W2 R3 B2 F2 gr ne2 => loopW_ok hc hb W2 R3 B2 ne2
theorem zip_rev {Z : List Nat} {fs : List Str} {ds : List PyData} {vs : List Val} (a : IsAll Z h ds vs) : FsR Z h (fs.zip ds).reverse (fs.zip vs).reverse := by
  have one : ∀ {fs : List Str} {ds : List PyData} {vs : List Val}, IsAll Z h ds vs → FsR Z h (fs.zip ds) (fs.zip vs) := by
    intro fs
    induction fs with
    | nil => intro ds vs _; exact .nil
    | cons f fs ih =>
      intro ds vs a
      cases ds with
      | nil => rw [a.nil]; exact .nil
      | cons d ds =>
        obtain ⟨y, ys, rfl, a1, a2⟩ := a.cons
        exact .cons ⟨rfl, a1⟩ (ih a2)
  have app : ∀ {as cs : List (Str × PyData)} {bs es : List (Str × Val)}, FsR Z h as bs → FsR Z h cs es → FsR Z h (as ++ cs) (bs ++ es) := by
    intro as cs bs es x y
    induction x with
    | nil => exact y
    | cons a b ih => exact .cons a ih
  have rev : ∀ {as : List (Str × PyData)} {bs : List (Str × Val)}, FsR Z h as bs → FsR Z h as.reverse bs.reverse := by
    intro as bs x
    induction x with
    | nil => exact .nil
    | cons a b ih =>
      rw [List.reverse_cons, List.reverse_cons]
      exact app ih (.cons a .nil)
  exact rev (one a)
theorem vgone_ok {M : List Nat} (R : VSR M A Y b h σ τ) (sl : Option Nat) : VSR M A Y b h (goneS sl σ) (vgone sl τ) := by
  cases sl with
  | none => exact R
  | some i => exact R.noneS i none
theorem vmove_some {M : List Nat} {e : Ex} {i : Nat} (h : vmove M e = some i) : e = .var i ∧ i ∈ M := by
  unfold vmove at h
  split at h
  · split at h
    · rename_i m; cases h; exact ⟨rfl, m⟩
    · cases h
  · cases h
theorem vfr_ok (C : VCtx g G) : ∀ (es : Exs) (A : List Nat) (τ : VSl) (s : VS) (σ : Sl) (h : Heap), VW A Y b n0 h → VSR g.M A Y b h σ τ → BxS b s h → vfr g es τ s ≠ .bad →
    (dens G es σ h).sat (PoV (fun h' q vs => ∃ A', (∀ a ∈ A', a ∈ A) ∧ VSR g.M A' Y b h' σ q.2 ∧ All2 (Is (A' ++ Y) h') q.1 vs) b h (vfr g es τ s)) (PoX (A ++ Y) b h (vfr g es τ s))
  | .nil, A, τ, s, σ, h, W, R, B, ne => by
    rw [dens_nil]
    exact po_ok ⟨A, fun _ z => z, R, .nil⟩ B
  | .cons e es, A, τ, s, σ, h, W, R, B, ne => by
    unfold vfr at ne ⊢
    rw [dens_cons]
    cases hm : vmove g.M e with
    | none =>
      rw [hm] at ne
      refine po_bind (fun n1 => den_ok C e .st τ s σ h W R B n1) ne fun x d s1 h1 e1 p1 F1 B1 ne1 => ?_
      have W1 := W.fb F1
      refine po_bind (fun n1 => vfr_ok C es A τ s1 σ h1 W1 (R.fb W F1) B1 n1) ne1 fun y q s2 h2 e2 p2 F2 B2 ne2 => ?_
      obtain ⟨A', sA, R2, a2⟩ := p2
      refine po_ok ⟨A', sA, R2, .cons ?_ a2⟩ B2
      exact Is.sub (Is.fb p1.1 F2 W1.zb) fun n hn => (List.mem_append.mp hn).elim (fun z => List.mem_append_left _ (sA n z)) fun z => List.mem_append_right _ z
    | some i =>
      obtain ⟨rfl, mi⟩ := vmove_some hm
      rw [hm] at ne
      dsimp only at ne ⊢
      split at ne
      · rename_i d hd
        obtain ⟨p, hp, e1, ow⟩ := R.mu i d hd mi
        obtain ⟨R1, i1⟩ := R.drop W mi hd e1
        rw [den_var, e1, Res.bind_ok]
        have W1 : VW (A.filter fun a => decide (a ≠ p)) Y b n0 h := ⟨fun a ha => W.al a (List.mem_filter.mp ha).1, W.yl, W.nl, W.bx⟩
        have sub : ∀ n ∈ A.filter (fun a => decide (a ≠ p)) ++ Y, n ∈ A ++ Y := fun n hn => mem_but hn
        have ih := fun n1 => vfr_ok C es _ _ s σ h W1 R1 B n1
        have n1 : vfr g es (τ.set i none) s ≠ .bad := fun z => ne (by rw [z]; rfl)
        have ih := ih n1
        rw [sat_bind]
        refine ih.imp (fun y h2 z => ?_) (fun c fs h2 z => ?_)
        · obtain ⟨q, s2, eq, ⟨A', sA, R2, a2⟩, F2, B2⟩ := z
          rw [eq]
          refine ⟨_, s2, rfl, ⟨A', fun a ha => (List.mem_filter.mp (sA a ha)).1, R2, .cons ?_ a2⟩, F2, B2⟩
          exact Is.sub (Is.fb i1 F2 W1.zb) fun n hn => (List.mem_append.mp hn).elim (fun z => List.mem_append_left _ (sA n z)) fun z => List.mem_append_right _ z
        · obtain ⟨fd, s2, eq, fr, F2, B2⟩ := z
          rw [eq] at ne
          exact (ne rfl).elim
      · exact (ne rfl).elim
mutual
theorem exe_ok : ∀ (st : St) (G : Mi.G) (C : VCtx g G) (A : List Nat) (τ : VSl) (s : VS) (σ : Sl) (h : Heap), VW A Y b n0 h → VSR g.M A Y b h σ τ → BxS b s h → vexe g st τ s ≠ .bad → (exe G st σ h).sat (PoS g.M Y b n0 g.fret A h (vexe g st τ s)) nox
  | .pass, G, C, A, τ, s, σ, h, W, R, B, ne => by
    rw [vexe] at ne ⊢
    rw [exe_pass]
    exact ps_nx W R B
  | .exp e, G, C, A, τ, s, σ, h, W, R, B, ne => by
    rw [vexe] at ne ⊢
    exact exp_ok C W R B ne
  | .ret e, G, C, A, τ, s, σ, h, W, R, B, ne => by
    rw [vexe] at ne ⊢
    rw [exe_ret]
    split at ne
    · exact (ne rfl).elim
    · rename_i c
      rw [if_neg c]
      by_cases hv : isVarM g.M e = true
      · obtain ⟨i, rfl, mi⟩ : ∃ i, e = .var i ∧ i ∈ g.M := by
          unfold isVarM at hv
          split at hv
          · exact ⟨_, rfl, of_decide_eq_true hv⟩
          · cases hv
        have n1 : vden g .es (.var i) τ s ≠ .bad := fun z => ne (by rw [z]; rfl)
        rw [sat_sb]
        have q := den_ok C (.var i) .es τ s σ h W R B n1
        rw [vden, if_neg (fun z => by cases z.1)] at n1 q ⊢
        cases hi : τ[i]? with
        | none => rw [hi] at n1; exact (n1 rfl).elim
        | some o =>
          rw [hi] at n1 q
          match o, hi, n1, q with
          | none, hi, n1, q => exact (n1 rfl).elim
          | some .box, hi, n1, q => exact (n1 rfl).elim
          | some .scr, hi, n1, q => exact (n1 rfl).elim
          | some (.d d), hi, n1, q =>
            obtain ⟨p, hp, e1, ow⟩ := R.mu i d hi mi
            rw [den_var, e1] at q ⊢
            obtain ⟨d', s', eq, r, F, B'⟩ := q
            cases eq
            exact ⟨_, _, A, rfl, ⟨r.1, fun _ _ p' ep => by cases ep; exact (W.al _ hp).1⟩, Fo.refl _ _, fun a ha => .inl ha, W, B⟩
      refine ps_sb W R (fun n1 => den_ok C e .es τ s σ h W R B n1) ne fun v d s1 h1 e1 r F B1 W1 R1 ne1 => ?_
      refine ⟨_, s1, A, rfl, ⟨r.1, fun fr => ?_⟩, Fo.refl _ _, fun a ha => .inl ha, W1, B1⟩
      have hh : (isFresh g.fr e || isVarM g.M e) = true := by
        cases z : (isFresh g.fr e || isVarM g.M e) with
        | true => rfl
        | false => exact (c ⟨fr, z⟩).elim
      rcases (Bool.or_eq_true _ _).mp hh with z | z
      · exact (r.2 z).le W.nl
      · exact (hv z).elim
  | .asg t e, G, C, A, τ, s, σ, h, W, R, B, ne => by
    rw [vexe] at ne ⊢
    exact asg_ok C W R B ne
  | .par is es, G, C, A, τ, s, σ, h, W, R, B, ne => by
    rw [vexe] at ne ⊢
    rw [exe_par]
    refine ps_sb W R (fun n1 => dens_ok C es .st τ s σ h W R B n1) ne fun v d s1 h1 _ r F B1 W1 R1 ne1 => ?_
    cases ht : vsetAll g.M is d τ with
    | none => rw [ht] at ne1; exact (ne1 rfl).elim
    | some τ' =>
      obtain ⟨σ', e1, R2⟩ := setAll_v R1 (isall2.mpr r) ht
      unfold setP
      rw [e1]
      exact ps_nx W1 R2 B1
  | .sti o i e, G, C, A, τ, s, σ, h, W, R, B, ne => by
    rw [vexe] at ne ⊢
    exact sti_ok C W R B ne
  | .sw2 o i p j e, G, C, A, τ, s, σ, h, W, R, B, ne => by
    rw [vexe] at ne
    exact (ne rfl).elim
  | .aug o i e, G, C, A, τ, s, σ, h, W, R, B, ne => by
    rw [vexe] at ne ⊢
    rw [exe_aug]
    split at ne
    · exact (ne rfl).elim
    · rename_i mi
      rw [if_neg mi]
      refine ps_sb W R (fun n1 => den_ok C (.var i) .st τ s σ h W R B n1) ne fun x dx s1 h1 _ r F B1 W1 R1 ne1 => ?_
      refine ps_sb W1 R1 (fun n1 => den_ok C e .rd τ s1 σ h1 W1 R1 B1 n1) ne1 fun y dy s2 h2 _ r2 F2 B2 W2 R2 ne2 => ?_
      cases hv : vaop o dx dy with
      | none => rw [hv] at ne2; exact (ne2 rfl).elim
      | some rr =>
        obtain ⟨v, k1, k2⟩ := vaop_ok (Z := A ++ Y) (h2 := h2) r.1 r2.1 hv
        rw [k1]
        exact ps_nx W2 (R2.put mi k2) B2
  | .ite c a e, G, C, A, τ, s, σ, h, W, R, B, ne => by
    rw [vexe] at ne ⊢
    rw [exe_ite, denT_eq]
    refine ps_sb W R (fun n1 => by have := denc_ok C (.some c) τ s σ h W R B; rw [vdenc, denc_some] at this; exact this n1) ne fun v d s1 h1 _ r F B1 W1 R1 ne1 => ?_
    subst r
    cases v with
    | true => exact exes_ok a G C A τ s1 σ h1 W1 R1 B1 ne1
    | false => exact exes_ok e G C A τ s1 σ h1 W1 R1 B1 ne1
  | .whl c e, G, C, A, τ, s, σ, h, W, R, B, ne => by
    rw [vexe] at ne ⊢
    rw [exe_whl]
    refine loopW_ok (fun A τ s σ h W R B n1 => ?_) (fun A τ s σ h W R B n1 => exes_ok e G C A τ s σ h W R B n1) W R B ne
    have := denc_ok C (.some c) τ s σ h W R B
    rw [vdenc, denc_some] at this
    rw [denT_eq]
    exact this n1
  | .frr t sr es e, G, C, A, τ, s, σ, h, W, R, B, ne => by
    rw [vexe] at ne ⊢
    rw [exe_frr]
    have wide : ∀ {A' A'' : List Nat}, (∀ a ∈ A', a ∈ A) → ∀ {h' : Heap}, (∀ a ∈ A'', a ∈ A' ∨ h'.length ≤ a) → ∀ a ∈ A'', a ∈ A ∨ h'.length ≤ a := fun {A' A''} sb {h'} gg a ha => (gg a ha).imp (sb a) id
    refine ps_sb (P := fun h' q w => ∃ A', (∀ a ∈ A', a ∈ A) ∧ VSR g.M A' Y b h' σ q.2 ∧ All2 (ItR (A' ++ Y) h') q.1 w.items ∧ Stn (A' ++ Y) h' w) W R (fun n1 => ?_) ne fun v d s1 h1 _ r F B1 W1 R1 ne1 => ?_
    · refine po_bind (fun n1 => vfr_ok C es A τ s σ h W R B n1) n1 fun x d s1 h1 e1 p1 F1 B1 ne1 => ?_
      obtain ⟨A', sA, R1, a1⟩ := p1
      cases hv : vsrc sr d.1 with
      | none => rw [hv] at ne1; exact (ne1 rfl).elim
      | some its =>
        obtain ⟨w, hw, ir, st⟩ := vsrc_ok (Y := A' ++ Y) (fun _ z => z) (a1.imp fun a b z => Or.inl z) hv
        rw [hw]
        exact po_ok ⟨A', sA, R1, ir, st⟩ B1
    · obtain ⟨A', sA, R2, ir, st⟩ := r
      have W2 : VW A' Y b n0 h1 := ⟨fun a ha => W1.al a (sA a ha), W1.yl, W1.nl, W1.bx⟩
      refine (loop_ok (fun A τ s σ h W R B n1 => exes_ok e G C A τ s σ h W R B n1) ir st W2 R2 B1 ne1).imp (fun f h' z => ?_) fun _ _ _ z => z
      obtain ⟨vf, s', A'', e1, fl, F', gr, W3, B3⟩ := z
      exact ⟨vf, s', A'', e1, fl, F'.sub fun n hn => (List.mem_append.mp hn).elim (fun z => List.mem_append_left _ z) fun z => List.mem_append_right _ (sA n z), wide sA gr, W3, B3⟩
  | .nvr, G, C, A, τ, s, σ, h, W, R, B, ne => by
    rw [vexe] at ne
    exact (ne rfl).elim
  | .rse c fs es, G, C, A, τ, s, σ, h, W, R, B, ne => by
    rw [vexe] at ne ⊢
    rw [exe_rse]
    refine ps_sb W R (fun n1 => dens_ok C es .st τ s σ h W R B n1) ne fun v d s1 h1 _ r F B1 W1 R1 ne1 => ?_
    split at ne1
    · rename_i hl
      rw [if_pos hl, if_pos (by rw [r.length]; exact hl)]
      exact ⟨_, s1, A, rfl, ⟨rfl, zip_rev (isall2.mpr r), R1⟩, Fo.refl _ _, fun a ha => .inl ha, W1, B1⟩
    · exact (ne1 rfl).elim
  | .tri e hs, G, C, A, τ, s, σ, h, W, R, B, ne => by
    rw [vexe] at ne ⊢
    rw [exe_tri, sat_bind]
    have n1 : vexes g e τ s ≠ .bad := fun z => ne (by rw [z]; rfl)
    refine (exes_ok e G C A τ s σ h W R B n1).imp (fun f h1 z => ?_) fun _ _ _ z => z
    obtain ⟨vf, s1, A1, ev, fl, F, gr, W1, B1⟩ := z
    rw [ev] at ne ⊢
    match vf, f, fl, ne with
    | .nx τ, .nx σ, fl, ne => exact ⟨_, s1, A1, rfl, fl, F, gr, W1, B1⟩
    | .rt d, .rt v, fl, _ => exact ⟨_, s1, A1, rfl, fl, F, gr, W1, B1⟩
    | .ex c fd τ, .ex c' fs σ, fl, ne =>
      obtain ⟨rfl, fr, R1⟩ := fl
      exact ps_go F gr (vhands_ok hs G C A1 c fd fs τ s1 σ h1 W1 R1 B1 fr ne)
theorem exes_ok : ∀ (ss : Sts) (G : Mi.G) (C : VCtx g G) (A : List Nat) (τ : VSl) (s : VS) (σ : Sl) (h : Heap), VW A Y b n0 h → VSR g.M A Y b h σ τ → BxS b s h → vexes g ss τ s ≠ .bad → (exes G ss σ h).sat (PoS g.M Y b n0 g.fret A h (vexes g ss τ s)) nox
  | .nil, G, C, A, τ, s, σ, h, W, R, B, ne => by
    rw [vexes] at ne ⊢
    rw [exes_nil]
    exact ps_nx W R B
  | .cons st ss, G, C, A, τ, s, σ, h, W, R, B, ne => by
    rw [vexes] at ne ⊢
    rw [exes_cons]
    exact ps_then (fun n1 => exe_ok st G C A τ s σ h W R B n1) ne fun A' τ2 s2 σ2 h2 W2 R3 B2 F2 gr ne2 => exes_ok ss G C A' τ2 s2 σ2 h2 W2 R3 B2 ne2
theorem vhands_ok : ∀ (hs : Hds) (G : Mi.G) (C : VCtx g G) (A : List Nat) (c : Nat) (fd : List (Str × PyData)) (fs : List (Str × Val)) (τ : VSl) (s : VS) (σ : Sl) (h : Heap), VW A Y b n0 h → VSR g.M A Y b h σ τ → BxS b s h → FsR (A ++ Y) h fd fs → vhands g hs c fd τ s ≠ .bad →
    (hands G hs c fs σ h).sat (PoS g.M Y b n0 g.fret A h (vhands g hs c fd τ s)) nox
  | .nil, G, C, A, c, fd, fs, τ, s, σ, h, W, R, B, fr, ne => by
    rw [vhands] at ne ⊢
    rw [hands_nil]
    exact ⟨_, s, A, rfl, ⟨rfl, fr, R⟩, Fo.refl _ _, fun a ha => .inl ha, W, B⟩
  | .cons ids sl e r, G, C, A, c, fd, fs, τ, s, σ, h, W, R, B, fr, ne => by
    rw [vhands] at ne ⊢
    rw [hands_cons]
    split at ne
    · rename_i hc
      rw [if_pos hc, if_pos hc, sat_bind]
      have n1 : vexes g e (vgone sl τ) s ≠ .bad := fun z => ne (by rw [z]; rfl)
      have C' : VCtx g { G with ex := some fs } := ⟨C.gl, C.cl⟩
      refine (exes_ok e _ C' A (vgone sl τ) s (goneS sl σ) h W (vgone_ok R sl) B n1).imp (fun f h1 z => ?_) fun _ _ _ z => z
      obtain ⟨vf, s1, A1, ev, fl, F, gr, W1, B1⟩ := z
      rw [ev] at ne ⊢
      match vf, f, fl, ne with
      | .nx τ, .nx σ, fl, ne => exact ⟨_, s1, A1, rfl, vgone_ok fl sl, F, gr, W1, B1⟩
      | .rt d, .rt v, fl, _ => exact ⟨_, s1, A1, rfl, fl, F, gr, W1, B1⟩
      | .ex c fd τ, .ex c' fs σ, fl, ne => exact (ne rfl).elim
    · rename_i hc
      rw [if_neg hc, if_neg hc]
      exact vhands_ok r G C A c fd fs τ s σ h W R B fr ne
end
end
end Mi


/-! # Mi22: data against the heap: defs, calls, the box -/
namespace Mi
open PySem (Str PyData)
theorem all2_len {α β : Type} {P : α → β → Prop} {as : List α} {bs : List β} (h : All2 P as bs) : bs.length = as.length := h.length
theorem all2_at {α β : Type} {P : α → β → Prop} : ∀ {as : List α} {bs : List β} {i : Nat} {a : α}, All2 P as bs → as[i]? = some a → ∃ b, bs[i]? = some b ∧ P a b
  | _, _, _, _, .nil, e => by simp at e
  | _, _, 0, _, .cons x y, e => by simp at e; subst e; exact ⟨_, rfl, x⟩
  | _, _, i + 1, _, .cons x y, e => by simp at e; simpa using all2_at y e
theorem all2_app {α β : Type} {P : α → β → Prop} {as cs : List α} {bs es : List β} (x : All2 P as bs) (y : All2 P cs es) : All2 P (as ++ cs) (bs ++ es) := by
  induction x with
  | nil => exact y
  | cons a b ih => exact .cons a ih
theorem vstart_at {d : Def} {ds : List VV} {i : Nat} {x : VV} (e : (vstart d ds)[i]? = some (some x)) : i < ds.length ∧ ds[i]? = some x := by
  unfold vstart at e
  rw [List.getElem?_append] at e
  split at e
  · rename_i c
    rw [List.length_map] at c
    rw [List.getElem?_map] at e
    obtain ⟨y, h1, h2⟩ := mapsome e
    cases h2
    exact ⟨c, h1⟩
  · rw [List.getElem?_replicate] at e
    split at e <;> cases e
theorem start_at {d : Def} {vs : List Val} {i : Nat} {x : Val} (e : vs[i]? = some x) : (startV d vs)[i]? = some (some x) := by
  have hl : i < vs.length := by
    rcases Nat.lt_or_ge i vs.length with z | z
    · exact z
    · rw [List.getElem?_eq_none z] at e; cases e
  unfold startV
  rw [List.getElem?_append_left (by rw [List.length_map]; exact hl), List.getElem?_map, e]
  rfl
theorem start_vsr {M Y : List Nat} {b : Option Nat} {h : Heap} {d : Def} {ds : List VV} {vs : List Val} (a : All2 (AV Y b h) ds vs) (hM : ∀ i ∈ M, ds.length ≤ i) : VSR M [] Y b h (startV d vs) (vstart d ds) := by
  have hl := a.length
  refine ⟨by simp [vstart, startV, hl], fun i x e m => ?_, fun i x e m => ?_, fun i e => ?_, fun i e => ?_, fun i j p x y m1 m2 n1 h1 h2 h3 => ?_⟩
  · obtain ⟨h1, h2⟩ := vstart_at e
    obtain ⟨v, h3, h4⟩ := all2_at a h2
    exact ⟨v, start_at h3, h4⟩
  · have := hM i m
    have := (vstart_at e).1
    omega
  · obtain ⟨h1, h2⟩ := vstart_at e
    obtain ⟨v, h3, n, h4, rfl⟩ := all2_at a h2
    exact ⟨n, h4, start_at h3⟩
  · obtain ⟨h1, h2⟩ := vstart_at e
    obtain ⟨v, h3, h4⟩ := all2_at a h2
    cases (show v = .scr from h4)
    exact start_at h3
  · have := hM i m1
    have := (vstart_at h1).1
    omega
theorem run_ok {g : VG} {G : Mi.G} (C : VCtx g G) {b : Option Nat} {Y : List Nat} {d : Def} {ds : List VV} {vs : List Val} {s : VS} {h : Heap} (ne : vrun g d ds s ≠ .bad) (hb : ∀ n, b = some n → n ∈ Y) (hy : ∀ y ∈ Y, y < h.length) (a : All2 (AV Y b h) ds vs) (B : BxS b s h) :
    (runDef G d vs h).sat (PoV (fun h' d v => Is Y h' d v ∧ (g.fret = true → Nw h.length d v)) b h (vrun g d ds s)) (PoX Y b h (vrun g d ds s)) := by
  unfold vrun at ne ⊢
  unfold runDef
  have hl := a.length
  split at ne
  · rename_i c
    rw [if_pos c, if_pos (by rw [hl]; exact c.1), sat_fin]
    have W : VW [] Y b h.length h := ⟨fun a ha => (by cases ha), hy, Nat.le_refl _, hb⟩
    have R : VSR g.M [] Y b h (startV d vs) (vstart d ds) := start_vsr a fun i hi => by
      rw [c.1]
      exact of_decide_eq_true (List.all_eq_true.mp c.2 i hi)
    have n1 : vexes g d.body (vstart d ds) s ≠ .bad := fun z => ne (by rw [z]; rfl)
    refine (exes_ok d.body G C [] _ s _ h W R B n1).imp (fun f h1 z => ?_) fun _ _ _ z => z.elim
    obtain ⟨vf, s1, A1, ev, fl, F, gr, W1, B1⟩ := z
    rw [ev]
    have F : Fb b h h1 := F.sub fun n hn => by simpa using hn
    match vf, f, fl with
    | .nx τ, .nx σ, fl =>
      refine ⟨.none, s1, rfl, ⟨is_non, fun _ z => by cases z⟩, F, B1⟩
    | .rt d, .rt v, fl => exact ⟨d, s1, rfl, fl, F, B1⟩
    | .ex c fd τ, .ex c' fs σ, fl =>
      obtain ⟨rfl, fr, R1⟩ := fl
      exact ⟨fd, s1, rfl, fr.imp fun a b z => ⟨z.1, z.2.sub sub_r⟩, F, B1⟩
  · exact (ne rfl).elim
/-- the box's def, to the number -/
theorem take_ok {p q r : Int} {g : G} {n : Nat} {m : Int} {h : Heap} {d : Def} {β : BS} (hb : d.body = takeB p q r) (hp : d.params = 2) (hs : d.slots = 4) (hpq : 0 ≤ p ∧ p < 100000 ∧ 0 ≤ q ∧ q < 1000 ∧ 0 ≤ r ∧ r < 100000000) (e : h[n]? = some (.lst [.int β.x, .int β.y, .int β.z])) (hc : β.n < 100000000) (hm : 0 < m ∧ m < 1073741824) :
    (runDef g d [.ref n, .int m] h).sat (fun v h' => v = .int (tkN p q r β m) ∧ h'[n]? = some (.lst [.int (tkS β m hm.1).x, .int (tkS β m hm.1).y, .int (tkS β m hm.1).z]) ∧ Fx1 n h h') nox := by
  have hx := β.hx
  have hy0 := β.hy.1
  have hy := β.hy.2
  have hz0 := β.hz.1
  have hz := β.hz.2
  unfold runDef startV takeB at *
  rw [hb, hp, hs]
  simp [ix_lst e, lstAt, L2.atI, L2.ixN]
  refine sat_ite (fun c => ?_) fun c => ?_
  · simp [ix_lst e, lstAt, L2.atI, L2.ixN, hm]
    refine sat_set e rfl fun h' e' l' f => ?_
    try simp at e'
    try simp
    refine ⟨by unfold tkN; rw [if_pos c], ?_, f⟩
    rw [e']
    unfold tkS
    rw [dif_pos c]
  · simp [ix_lst e, lstAt, L2.atI, L2.ixN, hm]
    refine sat_set e rfl fun h' e' l' f => ?_
    try simp at e'
    simp [ix_lst e', lstAt, L2.atI, L2.ixN, hm]
    have h1 : 0 ≤ p * (β.z + 1) := Int.mul_nonneg hpq.1 (by omega)
    have h2 : p * (β.z + 1) ≤ 100000 * 100000001 := Int.mul_le_mul (by omega) (by omega) (by omega) (by omega)
    have h3 : 0 ≤ r * (β.z + 1) := Int.mul_nonneg hpq.2.2.2.2.1 (by omega)
    have h4 : r * (β.z + 1) ≤ 100000000 * 100000001 := Int.mul_le_mul (by omega) (by omega) (by omega) (by omega)
    have et : tkN p q r β m = (((β.y + p * (β.z + 1) + q) ^ 5 % 2147483647 + r * (β.z + 1)) ^ 3 % 2147483587) / 16 % m := by unfold tkN; rw [if_neg c]
    rw [et]
    have es : (tkS β m hm.1).x = β.x ∧ (tkS β m hm.1).y = β.y ∧ (tkS β m hm.1).z = β.z + 1 := by unfold tkS; rw [dif_neg c]; exact ⟨rfl, rfl, rfl⟩
    rw [es.1, es.2.1, es.2.2]
    generalize p * (β.z + 1) = u at *
    generalize r * (β.z + 1) = v at *
    have h5 : 0 ≤ (β.y + u + q) ^ 5 % 2147483647 := Int.emod_nonneg _ (by omega)
    have h6 : (β.y + u + q) ^ 5 % 2147483647 < 2147483647 := Int.emod_lt_of_pos _ (by omega)
    generalize (β.y + u + q) ^ 5 % 2147483647 = s at *
    refine ⟨by omega, by omega, by omega, by omega, rfl, e', f⟩
structure TOk (T : VT) : Prop where
  ex : ∃ d, T.D T.tk.id = some d ∧ d.body = takeB T.tk.p T.tk.q T.tk.r ∧ d.params = 2 ∧ d.slots = 4 ∧ d.dflt = []
  bd : 0 ≤ T.tk.p ∧ T.tk.p < 100000 ∧ 0 ≤ T.tk.q ∧ T.tk.q < 1000 ∧ 0 ≤ T.tk.r ∧ T.tk.r < 100000000
theorem mapO_cst {Y : List Nat} {b : Option Nat} {h : Heap} : ∀ {vs : List Val} {ds : List VV}, mapO cstV vs = some ds → All2 (AV Y b h) ds vs
  | [], ds, e => by cases e; exact .nil
  | v :: vs, ds, e => by
    unfold mapO at e
    split at e
    · rename_i y ys h1 h2
      cases e
      obtain ⟨d, h3, rfl⟩ := mapsome h1
      exact .cons (cst_is h3) (mapO_cst h2)
    · cases e
theorem calls_ok {T : VT} (hT : TOk T) (scr : List Int) : ∀ n, CallOk (vcalls T n) (calls T.D T.gl scr n) T.fr
  | 0 => fun b Y f ds vs s h ne _ _ _ _ => (ne rfl).elim
  | n + 1 => fun b Y f ds vs s h ne hb hy a B => by
    unfold vcalls at ne ⊢
    unfold calls
    have hl := a.length
    split at ne
    · rename_i hf
      rw [if_pos hf]
      subst hf
      obtain ⟨d, h1, h2, h3, h4, h5⟩ := hT.ex
      rw [h1]
      dsimp only
      unfold vtake at ne ⊢
      split at ne
      · rename_i m β
        split at ne
        · rename_i hm
          rw [dif_pos hm]
          split at ne
          · rename_i hn
            rw [if_pos hn]
            obtain ⟨v1, v2, rfl, a1, a2⟩ := all2_ a
            obtain ⟨k, hk, rfl⟩ := a1
            obtain ⟨k', hk', e⟩ := B β rfl
            rw [hk] at hk'
            cases hk'
            cases (show Is Y h (.int m) v2 from a2).int
            rw [h5]
            simp only [List.drop_nil, List.append_nil]
            refine (take_ok h2 h3 h4 hT.bd e hn hm).imp (fun v h' z => ?_) fun _ _ _ z => z.elim
            obtain ⟨rfl, e', F⟩ := z
            exact ⟨_, _, rfl, ⟨is_int, fun _ z => by cases z⟩, Fo.one F (by simp [hk]), fun β' eβ => by cases eβ; exact ⟨k, hk, e'⟩⟩
          · exact (ne rfl).elim
        · exact (ne rfl).elim
      · exact (ne rfl).elim
    · rename_i hf
      rw [if_neg hf]
      split at ne
      · rename_i d hd
        split at ne
        · rename_i ws hw
          have C : VCtx ⟨vcalls T n, T.gl, T.M f, T.fr, T.fr f⟩ ⟨calls T.D T.gl scr n, T.gl, scr, none⟩ := ⟨rfl, calls_ok hT scr n⟩
          first
          | (rw [hl, hd]; exact run_ok C ne hb hy (all2_app a (mapO_cst hw)) B)
          | (rw [hl]; exact run_ok C ne hb hy (all2_app a (mapO_cst hw)) B)
        · exact (ne rfl).elim
      · exact (ne rfl).elim
end Mi


/-! # Mi23: how a text is reckoned over data -/
namespace Mi
open PySem (Str PyData)
def Vr.sat {α : Type} (r : Vr α) (Q : α → VS → Prop) (E : Nat → List (Str × PyData) → VS → Prop) : Prop :=
  match r with
  | .ok a s => Q a s
  | .exc c fs s => E c fs s
  | .bad => False
abbrev nov : Nat → List (Str × PyData) → VS → Prop := fun _ _ _ => False
section
variable {α β : Type} {Q Q' : α → VS → Prop} {E E' : Nat → List (Str × PyData) → VS → Prop}
theorem Vr.sat.imp {r : Vr α} (s : r.sat Q E) (hq : ∀ a s, Q a s → Q' a s) (he : ∀ c fs s, E c fs s → E' c fs s) : r.sat Q' E' := by
  cases r with
  | ok a s => exact hq _ _ s
  | exc c fs s => exact he _ _ _ s
  | bad => exact s
theorem Vr.sat.nb {r : Vr α} (s : r.sat Q E) : r ≠ .bad := fun e => by rw [e] at s; exact s
theorem vr_of {r : Vr α} {a : α} {s : VS} (h : r.sat (fun b s' => b = a ∧ s' = s) nov) : r = .ok a s := by
  cases r with
  | ok b s' => obtain ⟨rfl, rfl⟩ := id h; rfl
  | exc c fs s => exact h.elim
  | bad => exact h.elim
@[simp] theorem vsat_ok {a : α} {s : VS} : (Vr.ok a s).sat Q E = Q a s := nrfl rfl
@[simp] theorem vsat_exc {c : Nat} {fs : List (Str × PyData)} {s : VS} : (Vr.exc c fs s : Vr α).sat Q E = E c fs s := nrfl rfl
@[simp] theorem vsat_bad : (Vr.bad : Vr α).sat Q E = False := nrfl rfl
@[simp] theorem vbind_ok {a : α} {s : VS} {f : α → VS → Vr β} : (Vr.ok a s).bind f = f a s := nrfl rfl
@[simp] theorem vbind_exc {c : Nat} {fs : List (Str × PyData)} {s : VS} {f : α → VS → Vr β} : (Vr.exc c fs s : Vr α).bind f = .exc c fs s := nrfl rfl
@[simp] theorem vbind_bad {f : α → VS → Vr β} : (Vr.bad : Vr α).bind f = .bad := nrfl rfl
theorem vsat_bind {r : Vr β} {f : β → VS → Vr α} : (r.bind f).sat Q E = r.sat (fun a s => (f a s).sat Q E) E := by cases r <;> rfl
@[simp] theorem vsb_ok {τ : VSl} {a : α} {s : VS} {f : α → VS → Vr VFl} : (Vr.ok a s).sb τ f = f a s := nrfl rfl
@[simp] theorem vsb_exc {τ : VSl} {c : Nat} {fs : List (Str × PyData)} {s : VS} {f : α → VS → Vr VFl} : (Vr.exc c fs s : Vr α).sb τ f = .ok (.ex c fs τ) s := nrfl rfl
@[simp] theorem vsb_bad {τ : VSl} {f : α → VS → Vr VFl} : (Vr.bad : Vr α).sb τ f = .bad := nrfl rfl
theorem vsat_sb {τ : VSl} {r : Vr β} {f : β → VS → Vr VFl} {Q : VFl → VS → Prop} : (r.sb τ f).sat Q E = r.sat (fun a s => (f a s).sat Q E) (fun c fs s => Q (.ex c fs τ) s) := by cases r <;> rfl
@[simp] theorem vgo_nx {τ : VSl} {s : VS} {k : VSl → VS → Vr VFl} : (VFl.nx τ).go s k = k τ s := nrfl rfl
@[simp] theorem vgo_rt {v : PyData} {s : VS} {k : VSl → VS → Vr VFl} : (VFl.rt v).go s k = .ok (.rt v) s := nrfl rfl
@[simp] theorem vgo_ex {c : Nat} {fs : List (Str × PyData)} {τ : VSl} {s : VS} {k : VSl → VS → Vr VFl} : (VFl.ex c fs τ).go s k = .ok (.ex c fs τ) s := nrfl rfl
@[simp] theorem ofD_s {a : α} {s : VS} : ofD (some a) s = .ok a s := nrfl rfl
@[simp] theorem ofD_n {s : VS} : ofD (none : Option α) s = .bad := nrfl rfl
@[simp] theorem fin_nx {τ : VSl} {s : VS} : (Vr.ok (VFl.nx τ) s).fin = .ok .none s := nrfl rfl
@[simp] theorem fin_rt {v : PyData} {s : VS} : (Vr.ok (VFl.rt v) s).fin = .ok v s := nrfl rfl
@[simp] theorem fin_ex {c : Nat} {fs : List (Str × PyData)} {τ : VSl} {s : VS} : (Vr.ok (VFl.ex c fs τ) s).fin = .exc c fs s := nrfl rfl
/-- a def's end -/
def finQ (Q : PyData → VS → Prop) (E : Nat → List (Str × PyData) → VS → Prop) (f : VFl) (s : VS) : Prop :=
  match f with
  | .nx _ => Q .none s
  | .rt v => Q v s
  | .ex c fs _ => E c fs s
@[simp] theorem finQ_nx {Q : PyData → VS → Prop} {τ : VSl} {s : VS} : finQ Q E (.nx τ) s = Q .none s := nrfl rfl
@[simp] theorem finQ_rt {Q : PyData → VS → Prop} {v : PyData} {s : VS} : finQ Q E (.rt v) s = Q v s := nrfl rfl
@[simp] theorem finQ_ex {Q : PyData → VS → Prop} {c : Nat} {fs : List (Str × PyData)} {τ : VSl} {s : VS} : finQ Q E (.ex c fs τ) s = E c fs s := nrfl rfl
theorem vsat_fin {r : Vr VFl} {Q : PyData → VS → Prop} : r.fin.sat Q E = r.sat (finQ Q E) nov := by
  cases r with
  | ok f s => cases f <;> rfl
  | exc => rfl
  | bad => rfl
end
/-! ## the equations -/
section
variable {g : VG} {τ : VSl} {s : VS} {md : Md}
@[simp] theorem vden_var {i : Nat} : vden g md (.var i) τ s = if md = .st ∧ i ∈ g.M then .bad else (match τ[i]? with | some (some (.d v)) => .ok v s | _ => .bad) := by rw [vden] <;> rfl
@[simp] theorem vden_cst {v : Val} : vden g md (.cst v) τ s = ofD (cstD v) s := by rw [vden] <;> rfl
@[simp] theorem vden_glb {x : Nat} : vden g md (.glb x) τ s = ofD ((g.glob x).bind cstD) s := by rw [vden] <;> rfl
@[simp] theorem vden_bin {o : Op} {a b : Ex} : vden g md (.bin o a b) τ s = (vden g .rd a τ s).bind fun x s => (vden g .rd b τ s).bind fun y s => ofD (vop o x y) s := by rw [vden] <;> rfl
@[simp] theorem vden_neg {a : Ex} : vden g md (.neg a) τ s = (vden g .rd a τ s).bind fun x s => ofD (vneg x) s := by rw [vden] <;> rfl
@[simp] theorem vden_not {a : Ex} : vden g md (.not a) τ s = (vden g .rd a τ s).bind fun x s => (ofD (vtru x) s).bind fun b s => .ok (.bool (!b)) s := by rw [vden] <;> rfl
@[simp] theorem vden_and {a b : Ex} : vden g md (.and a b) τ s = (vden g md a τ s).bind fun x s => (ofD (vtru x) s).bind fun t s => if t then vden g md b τ s else .ok x s := by rw [vden] <;> rfl
@[simp] theorem vden_or {a b : Ex} : vden g md (.or a b) τ s = (vden g md a τ s).bind fun x s => (ofD (vtru x) s).bind fun t s => if t then .ok x s else vden g md b τ s := by rw [vden] <;> rfl
def vchB (k : PyData) (s : VS) (f : VS → Vr PyData) : Vr PyData := vchK k s f
@[simp] theorem vden_chn {o p : Op} {a b c : Ex} : vden g md (.chn o p a b c) τ s = (vden g .rd a τ s).bind fun x s => (vden g .rd b τ s).bind fun y s => (ofD (vop o x y) s).bind fun k s => vchK k s fun s => (vden g .rd c τ s).bind fun z s => ofD (vop p y z) s := by
  rw [vden] <;> rfl
@[simp] theorem vden_ch3 {o p q : Op} {a b c d : Ex} : vden g md (.ch3 o p q a b c d) τ s = (vden g .rd a τ s).bind fun x s => (vden g .rd b τ s).bind fun y s => (ofD (vop o x y) s).bind fun k s => vchK k s fun s =>
    (vden g .rd c τ s).bind fun z s => (ofD (vop p y z) s).bind fun k s => vchK k s fun s => (vden g .rd d τ s).bind fun w s => ofD (vop q z w) s := by rw [vden] <;> rfl
@[simp] theorem vchK_b {b : Bool} {f : VS → Vr PyData} : vchK (.bool b) s f = if b then f s else .ok (.bool false) s := by cases b <;> rfl
@[simp] theorem vden_ite {c a b : Ex} : vden g md (.ite c a b) τ s = (vden g .rd c τ s).bind fun x s => (ofD (vtru x) s).bind fun t s => if t then vden g md a τ s else vden g md b τ s := by rw [vden] <;> rfl
@[simp] theorem vden_lst {es : Exs} : vden g md (.lst es) τ s = (vdens g md.in_ es τ s).bind fun vs s => if vs.length ≤ SL then .ok (.list vs) s else .bad := by rw [vden] <;> rfl
@[simp] theorem vden_tup {es : Exs} : vden g md (.tup es) τ s = (vdens g md.in_ es τ s).bind fun vs s => if vs.length ≤ SL then .ok (.tuple vs) s else .bad := by rw [vden] <;> rfl
@[simp] theorem vden_dnew : vden g md .dnew τ s = .ok (.dict []) s := by rw [vden] <;> rfl
@[simp] theorem vden_dic {es : Exs} : vden g md (.dic es) τ s = (vdens g .st es τ s).bind fun vs s => (match vkvs vs with
    | some kvs => if kvs.length ≤ 15 then .ok (.dict (kvs.foldl (fun acc kv => vputK acc kv.1 kv.2) [])) s else .bad
    | none => .bad) := by rw [vden] <;> rfl
@[simp] theorem vden_idx {a i : Ex} : vden g md (.idx a i) τ s = (vden g .rd a τ s).bind fun x s => (vden g .rd i τ s).bind fun y s => ofD (vidx x y) s := by rw [vden] <;> rfl
@[simp] theorem vden_slc {a : Ex} {lo hi : Exo} : vden g md (.slc a lo hi) τ s = (vden g .rd a τ s).bind fun x s => (vdeno g lo τ s).bind fun l s => (vdeno g hi τ s).bind fun u s => ofD (vslc x l u) s := by rw [vden] <;> rfl
@[simp] theorem vden_rev {a : Ex} : vden g md (.rev a) τ s = (vden g .rd a τ s).bind fun x s => ofD ((lstD x).map fun xs => .list xs.reverse) s := by rw [vden] <;> rfl
@[simp] theorem vden_inr {neg : Bool} {a : Ex} {es : Exs} : vden g md (.inr neg a es) τ s = (vden g .rd a τ s).bind fun x s => (vdens g .rd es τ s).bind fun vs s => ofD (vinr neg x vs) s := by rw [vden] <;> rfl
/-- a call's end, where a list that is written was handed in -/
def flatR (r : Vr PyData) : Vr PyData :=
  match r with
  | .ok d s => if flatD d then .ok d s else .bad
  | _ => .bad
@[simp] theorem flatR_ok {d : PyData} : flatR (.ok d s) = if flatD d then .ok d s else .bad := nrfl rfl
@[simp] theorem vden_cal {f : Nat} {es : Exs} : vden g md (.cal f es) τ s = if anyM g.M es then (vargs g .es es τ s).bind fun vs s => flatR (g.call f vs s) else (vargs g .st es τ s).bind fun vs s => g.call f vs s := by
  rw [vden]
  rfl
@[simp] theorem vden_isinst {a t : Ex} : vden g md (.pri .isinst (.cons a (.cons t .nil))) τ s = (match tyE t with
    | some ts => (vden g .rd a τ s).bind fun x s => .ok (.bool (ts.any (isTy (tyD x)))) s
    | none => .bad) := by rw [vden] <;> rfl
@[simp] theorem vden_len {es : Exs} : vden g md (.pri .len es) τ s = (vdens g .rd es τ s).bind fun vs s => ofD (vpri .len vs) s := vden_pri (.inl (by decide))
@[simp] theorem vden_max {es : Exs} : vden g md (.pri .max es) τ s = (vdens g .rd es τ s).bind fun vs s => ofD (vpri .max vs) s := vden_pri (.inl (by decide))
@[simp] theorem vden_min {es : Exs} : vden g md (.pri .min es) τ s = (vdens g .rd es τ s).bind fun vs s => ofD (vpri .min vs) s := vden_pri (.inl (by decide))
@[simp] theorem vden_sum {es : Exs} : vden g md (.pri .sum es) τ s = (vdens g .rd es τ s).bind fun vs s => ofD (vpri .sum vs) s := vden_pri (.inl (by decide))
@[simp] theorem vden_all {es : Exs} : vden g md (.pri .all es) τ s = (vdens g .rd es τ s).bind fun vs s => ofD (vpri .all vs) s := vden_pri (.inl (by decide))
@[simp] theorem vden_any {es : Exs} : vden g md (.pri .any es) τ s = (vdens g .rd es τ s).bind fun vs s => ofD (vpri .any vs) s := vden_pri (.inl (by decide))
@[simp] theorem vden_int {es : Exs} : vden g md (.pri .int es) τ s = (vdens g .rd es τ s).bind fun vs s => ofD (vpri .int vs) s := vden_pri (.inl (by decide))
@[simp] theorem vden_str {es : Exs} : vden g md (.pri .str es) τ s = (vdens g .rd es τ s).bind fun vs s => ofD (vpri .str vs) s := vden_pri (.inl (by decide))
@[simp] theorem vden_bool {es : Exs} : vden g md (.pri .bool es) τ s = (vdens g .rd es τ s).bind fun vs s => ofD (vpri .bool vs) s := vden_pri (.inl (by decide))
@[simp] theorem vden_list {es : Exs} : vden g md (.pri .list es) τ s = (vdens g .rd es τ s).bind fun vs s => ofD (vpri .list vs) s := vden_pri (.inl (by decide))
@[simp] theorem vden_tuple {es : Exs} : vden g md (.pri .tuple es) τ s = (vdens g .rd es τ s).bind fun vs s => ofD (vpri .tuple vs) s := vden_pri (.inl (by decide))
@[simp] theorem vden_repr {es : Exs} : vden g md (.pri .repr es) τ s = (vdens g .rd es τ s).bind fun vs s => ofD (vpri .repr vs) s := vden_pri (.inl (by decide))
@[simp] theorem vden_divmod {es : Exs} : vden g md (.pri .divmod es) τ s = (vdens g .rd es τ s).bind fun vs s => ofD (vpri .divmod vs) s := vden_pri (.inl (by decide))
@[simp] theorem vden_met {m : Me} {o : Ex} {es : Exs} : vden g md (.met m o es) τ s = (vden g .rd o τ s).bind fun x s => if vrcv m x = true then (vdens g .rd es τ s).bind fun vs s => ofD (vmet m x vs) s else .bad := by rw [vden] <;> rfl
@[simp] theorem vden_lz {es : Exs} : vden g md (.lz es) τ s = (vdens g .rd es τ s).bind fun vs s => ofD (vlz vs) s := by rw [vden] <;> rfl
@[simp] theorem vden_lc {e : Ex} {t : Tg} {sr : Src} {es : Exs} {own : List Nat} {c : Exo} : vden g md (.lc e t sr es own c) τ s = (vdens g .rd es τ s).bind fun vs s => (ofD (vsrc sr vs) s).bind fun its s => (vlc g.M t (vdenc g c) (vden g md.in_ e) (vwipe τ own) its [] s).bind fun vs s => .ok (.list vs) s := by rw [vden] <;> rfl
@[simp] theorem vdens_nil : vdens g md .nil τ s = .ok [] s := by rw [vdens] <;> rfl
@[simp] theorem vdens_cons {e : Ex} {es : Exs} : vdens g md (.cons e es) τ s = (vden g md e τ s).bind fun v s => (vdens g md es τ s).bind fun vs s => .ok (v :: vs) s := by rw [vdens] <;> rfl
@[simp] theorem vargs_nil : vargs g md .nil τ s = .ok [] s := by rw [vargs] <;> rfl
@[simp] theorem vargs_cons {e : Ex} {es : Exs} : vargs g md (.cons e es) τ s = if boxO τ e then (vargs g md es τ s).bind fun vs s => .ok (.box :: vs) s else (vden g md e τ s).bind fun v s => (vargs g md es τ s).bind fun vs s => .ok (.d v :: vs) s := by rw [vargs] <;> rfl
@[simp] theorem vdeno_none : vdeno g .none τ s = .ok none s := by rw [vdeno] <;> rfl
@[simp] theorem vdeno_some {e : Ex} : vdeno g (.some e) τ s = (vden g .rd e τ s).bind fun x s => ofD (vintO x) s := by rw [vdeno] <;> rfl
@[simp] theorem vdenc_none : vdenc g .none τ s = .ok true s := by rw [vdenc] <;> rfl
@[simp] theorem vdenc_some {e : Ex} : vdenc g (.some e) τ s = (vden g .rd e τ s).bind fun x s => ofD (vtru x) s := by rw [vdenc] <;> rfl
@[simp] theorem vexe_pass : vexe g .pass τ s = .ok (.nx τ) s := by rw [vexe] <;> rfl
@[simp] theorem vexe_exp {e : Ex} : vexe g (.exp e) τ s = vexp g e τ s := by rw [vexe] <;> rfl
@[simp] theorem vexe_ret {e : Ex} : vexe g (.ret e) τ s = if g.fret = true ∧ (isFresh g.fr e || isVarM g.M e) = false then .bad else (vden g .es e τ s).sb τ fun v s => .ok (.rt v) s := by rw [vexe] <;> rfl
@[simp] theorem vexe_asg {t : Tg} {e : Ex} : vexe g (.asg t e) τ s = vasg g t e τ s := by rw [vexe] <;> rfl
@[simp] theorem vexe_par {is : List Nat} {es : Exs} : vexe g (.par is es) τ s = (vdens g .st es τ s).sb τ fun vs s => (match vsetAll g.M is vs τ with
    | some τ' => .ok (.nx τ') s
    | none => .bad) := by rw [vexe] <;> rfl
@[simp] theorem vexe_sti {o i e : Ex} : vexe g (.sti o i e) τ s = vsti g o i e τ s := by rw [vexe] <;> rfl
@[simp] theorem vexe_aug {o : Op} {i : Nat} {e : Ex} : vexe g (.aug o i e) τ s = if i ∈ g.M then .bad else (vden g .st (.var i) τ s).sb τ fun x s => (vden g .rd e τ s).sb τ fun y s => (match vaop o x y with
    | some v => .ok (.nx (τ.set i (some (.d v)))) s
    | none => .bad) := by rw [vexe] <;> rfl
@[simp] theorem vexe_ite {c : Ex} {a b : Sts} : vexe g (.ite c a b) τ s = ((vden g .rd c τ s).bind fun x s => ofD (vtru x) s).sb τ fun t s => if t then vexes g a τ s else vexes g b τ s := by rw [vexe] <;> rfl
@[simp] theorem vexe_whl {c : Ex} {b : Sts} : vexe g (.whl c b) τ s = vloopW (fun τ s => (vden g .rd c τ s).bind fun x s => ofD (vtru x) s) (vexes g b) turns τ s := by rw [vexe] <;> rfl
@[simp] theorem vexe_frr {t : Tg} {sr : Src} {es : Exs} {b : Sts} : vexe g (.frr t sr es b) τ s = ((vfr g es τ s).bind fun q s => (ofD (vsrc sr q.1) s).bind fun its s => .ok (its, q.2) s).sb τ fun q s => vloop g.M t (vexes g b) q.1 q.2 s := by rw [vexe] <;> rfl
@[simp] theorem vokO_ok {α β : Type} {a : α} {f : α → β} : vokO (.ok a s) f = .ok (f a) s := nrfl rfl
@[simp] theorem vfr_nil : vfr g .nil τ s = .ok ([], τ) s := nrfl rfl
@[simp] theorem vfr_cons {e : Ex} {es : Exs} : vfr g (.cons e es) τ s = (match vmove g.M e with
    | some i => (match τ[i]? with
      | some (some (.d d)) => vokO (vfr g es (τ.set i none) s) fun q => (d :: q.1, q.2)
      | _ => .bad)
    | none => (vden g .st e τ s).bind fun v s => (vfr g es τ s).bind fun q s => .ok (v :: q.1, q.2) s) := nrfl rfl
@[simp] theorem vexe_rse {c : Nat} {fs : List Str} {es : Exs} : vexe g (.rse c fs es) τ s = (vdens g .st es τ s).sb τ fun vs s => if vs.length = fs.length then .ok (.ex c (fs.zip vs).reverse τ) s else .bad := by rw [vexe] <;> rfl
def VFl.tri (f : VFl) (s : VS) (k : Nat → List (Str × PyData) → VSl → VS → Vr VFl) : Vr VFl :=
  match f with
  | .ex c fs τ => k c fs τ s
  | .nx τ => .ok (.nx τ) s
  | .rt v => .ok (.rt v) s
@[simp] theorem vtri_nx {τ : VSl} {k : Nat → List (Str × PyData) → VSl → VS → Vr VFl} : (VFl.nx τ).tri s k = .ok (.nx τ) s := nrfl rfl
@[simp] theorem vtri_rt {v : PyData} {k : Nat → List (Str × PyData) → VSl → VS → Vr VFl} : (VFl.rt v).tri s k = .ok (.rt v) s := nrfl rfl
@[simp] theorem vtri_ex {c : Nat} {fs : List (Str × PyData)} {τ : VSl} {k : Nat → List (Str × PyData) → VSl → VS → Vr VFl} : (VFl.ex c fs τ).tri s k = k c fs τ s := nrfl rfl
@[simp] theorem vexe_tri {b : Sts} {hs : Hds} : vexe g (.tri b hs) τ s = (vexes g b τ s).bind fun f s => f.tri s (fun c fs τ s => vhands g hs c fs τ s) := by
  rw [vexe]
  all_goals first | rfl | (congr 1; funext f s; cases f <;> rfl)
@[simp] theorem vhands_nil {c : Nat} {fs : List (Str × PyData)} : vhands g .nil c fs τ s = .ok (.ex c fs τ) s := by rw [vhands] <;> rfl
@[simp] theorem vhands_cons {c : Nat} {fs : List (Str × PyData)} {ids : List Nat} {sl : Option Nat} {b : Sts} {r : Hds} : vhands g (.cons ids sl b r) c fs τ s = if c ∈ ids then (vexes g b (vgone sl τ) s).bind fun f s => vunx sl f s else vhands g r c fs τ s := by rw [vhands] <;> rfl
@[simp] theorem vunx_nx {sl : Option Nat} : vunx sl (.nx τ) s = .ok (.nx (vgone sl τ)) s := nrfl rfl
@[simp] theorem vunx_rt {sl : Option Nat} {v : PyData} : vunx sl (.rt v) s = .ok (.rt v) s := nrfl rfl
@[simp] theorem vgone_none : vgone none τ = τ := nrfl rfl
@[simp] theorem vgone_some {i : Nat} : vgone (some i) τ = τ.set i none := nrfl rfl
@[simp] theorem vexes_nil : vexes g .nil τ s = .ok (.nx τ) s := by rw [vexes] <;> rfl
@[simp] theorem vexes_cons {st : St} {ss : Sts} : vexes g (.cons st ss) τ s = (vexe g st τ s).bind fun f s => f.go s (vexes g ss) := by rw [vexes] <;> rfl
@[simp] theorem mdin_es : Md.in_ .es = .es := nrfl rfl
@[simp] theorem mdin_st : Md.in_ .st = .st := nrfl rfl
@[simp] theorem mdin_rd : Md.in_ .rd = .st := nrfl rfl
@[simp] theorem vwipe_nil : vwipe τ [] = τ := nrfl rfl
@[simp] theorem vwipe_cons {i : Nat} {is : List Nat} : vwipe τ (i :: is) = (vwipe τ is).set i none := nrfl rfl
/-! writing -/
theorem vexp_m {m : Me} {i : Nat} {es : Exs} (h : isMut m = true) : vexp g (.met m (.var i) es) τ s = vwrite g m i es τ s := by
  show (match (if isMut m = true then some (m, i, es) else none) with
    | some (m, i, es) => vwrite g m i es τ s
    | none => (vden g .st (.met m (.var i) es) τ s).sb τ fun _ s => .ok (.nx τ) s) = _
  rw [if_pos h]
@[simp] theorem vexp_app {i : Nat} {es : Exs} : vexp g (.met .append (.var i) es) τ s = vwrite g .append i es τ s := vexp_m rfl
@[simp] theorem vexp_ins {i : Nat} {es : Exs} : vexp g (.met .insert (.var i) es) τ s = vwrite g .insert i es τ s := vexp_m rfl
@[simp] theorem vexp_ext {i : Nat} {es : Exs} : vexp g (.met .extend (.var i) es) τ s = vwrite g .extend i es τ s := vexp_m rfl
@[simp] theorem vexp_clr {i : Nat} {es : Exs} : vexp g (.met .clear (.var i) es) τ s = vwrite g .clear i es τ s := vexp_m rfl
@[simp] theorem vexp_cal {f : Nat} {es : Exs} : vexp g (.cal f es) τ s = (vden g .st (.cal f es) τ s).sb τ fun _ s => .ok (.nx τ) s := nrfl rfl
theorem vwrite_is {m : Me} {i : Nat} {es : Exs} {xs : List PyData} (hi : i ∈ g.M) (e : τ[i]? = some (some (.d (.list xs)))) : vwrite g m i es τ s = (vdens g (if m = .extend then .rd else .st) es τ s).sb τ fun vs s => (match vmut m (.list xs) vs with
      | some d' => .ok (.nx (τ.set i (some (.d d')))) s
      | none => .bad) := by
  unfold vwrite
  rw [if_pos hi, e]
  all_goals rfl
@[simp] theorem vwrite_eq {m : Me} {i : Nat} {es : Exs} : vwrite g m i es τ s = if i ∈ g.M then (match τ[i]? with
    | some (some (.d (.list xs))) => (vdens g (if m = .extend then .rd else .st) es τ s).sb τ fun vs s => (match vmut m (.list xs) vs with
      | some d' => .ok (.nx (τ.set i (some (.d d')))) s
      | none => .bad)
    | _ => .bad) else .bad := nrfl rfl
@[simp] theorem vsti_eq {j : Nat} {i e : Ex} : vsti g (.var j) i e τ s = if j ∈ g.M then (vden g .st e τ s).sb τ fun v s => (match τ[j]? with
    | some (some (.d d)) => (vden g .rd i τ s).sb τ fun k s => (match vset d k v with
      | some d' => .ok (.nx (τ.set j (some (.d d')))) s
      | none => .bad)
    | _ => .bad) else .bad := nrfl rfl
@[simp] theorem vmut_app {xs : List PyData} {y : PyData} : vmut .append (.list xs) [y] = if xs.length < SL then some (.list (xs ++ [y])) else none := nrfl rfl
@[simp] theorem vmut_ins {xs : List PyData} {i : Int} {y : PyData} : vmut .insert (.list xs) [.int i, y] = if xs.length < SL ∧ 0 ≤ i ∧ i < 9223372036854775808 then some (.list (xs.take i.toNat ++ [y] ++ xs.drop i.toNat)) else none := nrfl rfl
@[simp] theorem vmut_ext {xs ys : List PyData} : vmut .extend (.list xs) [.list ys] = if xs.length + ys.length ≤ SL then some (.list (xs ++ ys)) else none := nrfl rfl
@[simp] theorem vmut_clr {xs : List PyData} : vmut .clear (.list xs) [] = some (.list []) := nrfl rfl
@[simp] theorem vasg_nm {j : Nat} {e : Ex} : vasg g (.nm j) e τ s = if j ∈ g.M then (if isFresh g.fr e then (vden g .st e τ s).sb τ fun v s => if isLD v then .ok (.nx (τ.set j (some (.d v)))) s else .bad else .bad)
    else (match vmove g.M e with
      | some i => (match τ[i]? with
        | some (some (.d d)) => .ok (.nx ((τ.set j (some (.d d))).set i none)) s
        | _ => .bad)
      | none => (vden g .st e τ s).sb τ fun v s => .ok (.nx (τ.set j (some (.d v)))) s) := nrfl rfl
@[simp] theorem vasg_tp {is : List Nat} {e : Ex} : vasg g (.tp is) e τ s = (vden g .st e τ s).sb τ fun v s => (match vtg g.M (.tp is) v τ with
    | some τ' => .ok (.nx τ') s
    | none => .bad) := nrfl rfl
@[simp] theorem vmove_var {M : List Nat} {i : Nat} : vmove M (.var i) = if i ∈ M then some i else none := nrfl rfl
end
/-! what an expression is, told by its head -/
@[simp] theorem vmove_cst {M : List Nat} {v : Val} : vmove M (.cst v) = none := nrfl rfl
@[simp] theorem boxO_cst {τ : VSl} {v : Val} : boxO τ (.cst v) = false := nrfl rfl
@[simp] theorem anyM_cst {M : List Nat} {rs : Exs} {v : Val} : anyM M (.cons (.cst v) rs) = anyM M rs := nrfl rfl
@[simp] theorem isVarM_cst {M : List Nat} {v : Val} : isVarM M (.cst v) = false := nrfl rfl
@[simp] theorem vmove_glb {M : List Nat} {x : Nat} : vmove M (.glb x) = none := nrfl rfl
@[simp] theorem boxO_glb {τ : VSl} {x : Nat} : boxO τ (.glb x) = false := nrfl rfl
@[simp] theorem anyM_glb {M : List Nat} {rs : Exs} {x : Nat} : anyM M (.cons (.glb x) rs) = anyM M rs := nrfl rfl
@[simp] theorem isVarM_glb {M : List Nat} {x : Nat} : isVarM M (.glb x) = false := nrfl rfl
@[simp] theorem vmove_bin {M : List Nat} {o : Op} {a b : Ex} : vmove M (.bin o a b) = none := nrfl rfl
@[simp] theorem boxO_bin {τ : VSl} {o : Op} {a b : Ex} : boxO τ (.bin o a b) = false := nrfl rfl
@[simp] theorem anyM_bin {M : List Nat} {rs : Exs} {o : Op} {a b : Ex} : anyM M (.cons (.bin o a b) rs) = anyM M rs := nrfl rfl
@[simp] theorem isVarM_bin {M : List Nat} {o : Op} {a b : Ex} : isVarM M (.bin o a b) = false := nrfl rfl
@[simp] theorem vmove_neg {M : List Nat} {a : Ex} : vmove M (.neg a) = none := nrfl rfl
@[simp] theorem boxO_neg {τ : VSl} {a : Ex} : boxO τ (.neg a) = false := nrfl rfl
@[simp] theorem anyM_neg {M : List Nat} {rs : Exs} {a : Ex} : anyM M (.cons (.neg a) rs) = anyM M rs := nrfl rfl
@[simp] theorem isVarM_neg {M : List Nat} {a : Ex} : isVarM M (.neg a) = false := nrfl rfl
@[simp] theorem vmove_not {M : List Nat} {a : Ex} : vmove M (.not a) = none := nrfl rfl
@[simp] theorem boxO_not {τ : VSl} {a : Ex} : boxO τ (.not a) = false := nrfl rfl
@[simp] theorem anyM_not {M : List Nat} {rs : Exs} {a : Ex} : anyM M (.cons (.not a) rs) = anyM M rs := nrfl rfl
@[simp] theorem isVarM_not {M : List Nat} {a : Ex} : isVarM M (.not a) = false := nrfl rfl
@[simp] theorem vmove_and {M : List Nat} {a b : Ex} : vmove M (.and a b) = none := nrfl rfl
@[simp] theorem boxO_and {τ : VSl} {a b : Ex} : boxO τ (.and a b) = false := nrfl rfl
@[simp] theorem anyM_and {M : List Nat} {rs : Exs} {a b : Ex} : anyM M (.cons (.and a b) rs) = anyM M rs := nrfl rfl
@[simp] theorem isVarM_and {M : List Nat} {a b : Ex} : isVarM M (.and a b) = false := nrfl rfl
@[simp] theorem vmove_or {M : List Nat} {a b : Ex} : vmove M (.or a b) = none := nrfl rfl
@[simp] theorem boxO_or {τ : VSl} {a b : Ex} : boxO τ (.or a b) = false := nrfl rfl
@[simp] theorem anyM_or {M : List Nat} {rs : Exs} {a b : Ex} : anyM M (.cons (.or a b) rs) = anyM M rs := nrfl rfl
@[simp] theorem isVarM_or {M : List Nat} {a b : Ex} : isVarM M (.or a b) = false := nrfl rfl
@[simp] theorem vmove_chn {M : List Nat} {o p : Op} {a b c : Ex} : vmove M (.chn o p a b c) = none := nrfl rfl
@[simp] theorem boxO_chn {τ : VSl} {o p : Op} {a b c : Ex} : boxO τ (.chn o p a b c) = false := nrfl rfl
@[simp] theorem anyM_chn {M : List Nat} {rs : Exs} {o p : Op} {a b c : Ex} : anyM M (.cons (.chn o p a b c) rs) = anyM M rs := nrfl rfl
@[simp] theorem isVarM_chn {M : List Nat} {o p : Op} {a b c : Ex} : isVarM M (.chn o p a b c) = false := nrfl rfl
@[simp] theorem vmove_ch3 {M : List Nat} {o p q : Op} {a b c d : Ex} : vmove M (.ch3 o p q a b c d) = none := nrfl rfl
@[simp] theorem boxO_ch3 {τ : VSl} {o p q : Op} {a b c d : Ex} : boxO τ (.ch3 o p q a b c d) = false := nrfl rfl
@[simp] theorem anyM_ch3 {M : List Nat} {rs : Exs} {o p q : Op} {a b c d : Ex} : anyM M (.cons (.ch3 o p q a b c d) rs) = anyM M rs := nrfl rfl
@[simp] theorem isVarM_ch3 {M : List Nat} {o p q : Op} {a b c d : Ex} : isVarM M (.ch3 o p q a b c d) = false := nrfl rfl
@[simp] theorem vmove_ite {M : List Nat} {a b c : Ex} : vmove M (.ite a b c) = none := nrfl rfl
@[simp] theorem boxO_ite {τ : VSl} {a b c : Ex} : boxO τ (.ite a b c) = false := nrfl rfl
@[simp] theorem anyM_ite {M : List Nat} {rs : Exs} {a b c : Ex} : anyM M (.cons (.ite a b c) rs) = anyM M rs := nrfl rfl
@[simp] theorem isVarM_ite {M : List Nat} {a b c : Ex} : isVarM M (.ite a b c) = false := nrfl rfl
@[simp] theorem vmove_lst {M : List Nat} {es : Exs} : vmove M (.lst es) = none := nrfl rfl
@[simp] theorem boxO_lst {τ : VSl} {es : Exs} : boxO τ (.lst es) = false := nrfl rfl
@[simp] theorem anyM_lst {M : List Nat} {rs : Exs} {es : Exs} : anyM M (.cons (.lst es) rs) = anyM M rs := nrfl rfl
@[simp] theorem isVarM_lst {M : List Nat} {es : Exs} : isVarM M (.lst es) = false := nrfl rfl
@[simp] theorem vmove_tup {M : List Nat} {es : Exs} : vmove M (.tup es) = none := nrfl rfl
@[simp] theorem boxO_tup {τ : VSl} {es : Exs} : boxO τ (.tup es) = false := nrfl rfl
@[simp] theorem anyM_tup {M : List Nat} {rs : Exs} {es : Exs} : anyM M (.cons (.tup es) rs) = anyM M rs := nrfl rfl
@[simp] theorem isVarM_tup {M : List Nat} {es : Exs} : isVarM M (.tup es) = false := nrfl rfl
@[simp] theorem vmove_dnew {M : List Nat}  : vmove M .dnew = none := nrfl rfl
@[simp] theorem boxO_dnew {τ : VSl}  : boxO τ .dnew = false := nrfl rfl
@[simp] theorem anyM_dnew {M : List Nat} {rs : Exs}  : anyM M (.cons .dnew rs) = anyM M rs := nrfl rfl
@[simp] theorem isVarM_dnew {M : List Nat}  : isVarM M .dnew = false := nrfl rfl
@[simp] theorem vmove_dic {M : List Nat} {es : Exs} : vmove M (.dic es) = none := nrfl rfl
@[simp] theorem boxO_dic {τ : VSl} {es : Exs} : boxO τ (.dic es) = false := nrfl rfl
@[simp] theorem anyM_dic {M : List Nat} {rs : Exs} {es : Exs} : anyM M (.cons (.dic es) rs) = anyM M rs := nrfl rfl
@[simp] theorem isVarM_dic {M : List Nat} {es : Exs} : isVarM M (.dic es) = false := nrfl rfl
@[simp] theorem vmove_idx {M : List Nat} {a b : Ex} : vmove M (.idx a b) = none := nrfl rfl
@[simp] theorem boxO_idx {τ : VSl} {a b : Ex} : boxO τ (.idx a b) = false := nrfl rfl
@[simp] theorem anyM_idx {M : List Nat} {rs : Exs} {a b : Ex} : anyM M (.cons (.idx a b) rs) = anyM M rs := nrfl rfl
@[simp] theorem isVarM_idx {M : List Nat} {a b : Ex} : isVarM M (.idx a b) = false := nrfl rfl
@[simp] theorem vmove_slc {M : List Nat} {a : Ex} {lo hi : Exo} : vmove M (.slc a lo hi) = none := nrfl rfl
@[simp] theorem boxO_slc {τ : VSl} {a : Ex} {lo hi : Exo} : boxO τ (.slc a lo hi) = false := nrfl rfl
@[simp] theorem anyM_slc {M : List Nat} {rs : Exs} {a : Ex} {lo hi : Exo} : anyM M (.cons (.slc a lo hi) rs) = anyM M rs := nrfl rfl
@[simp] theorem isVarM_slc {M : List Nat} {a : Ex} {lo hi : Exo} : isVarM M (.slc a lo hi) = false := nrfl rfl
@[simp] theorem vmove_rev {M : List Nat} {a : Ex} : vmove M (.rev a) = none := nrfl rfl
@[simp] theorem boxO_rev {τ : VSl} {a : Ex} : boxO τ (.rev a) = false := nrfl rfl
@[simp] theorem anyM_rev {M : List Nat} {rs : Exs} {a : Ex} : anyM M (.cons (.rev a) rs) = anyM M rs := nrfl rfl
@[simp] theorem isVarM_rev {M : List Nat} {a : Ex} : isVarM M (.rev a) = false := nrfl rfl
@[simp] theorem vmove_inr {M : List Nat} {n : Bool} {a : Ex} {es : Exs} : vmove M (.inr n a es) = none := nrfl rfl
@[simp] theorem boxO_inr {τ : VSl} {n : Bool} {a : Ex} {es : Exs} : boxO τ (.inr n a es) = false := nrfl rfl
@[simp] theorem anyM_inr {M : List Nat} {rs : Exs} {n : Bool} {a : Ex} {es : Exs} : anyM M (.cons (.inr n a es) rs) = anyM M rs := nrfl rfl
@[simp] theorem isVarM_inr {M : List Nat} {n : Bool} {a : Ex} {es : Exs} : isVarM M (.inr n a es) = false := nrfl rfl
@[simp] theorem vmove_cal {M : List Nat} {f : Nat} {es : Exs} : vmove M (.cal f es) = none := nrfl rfl
@[simp] theorem boxO_cal {τ : VSl} {f : Nat} {es : Exs} : boxO τ (.cal f es) = false := nrfl rfl
@[simp] theorem anyM_cal {M : List Nat} {rs : Exs} {f : Nat} {es : Exs} : anyM M (.cons (.cal f es) rs) = anyM M rs := nrfl rfl
@[simp] theorem isVarM_cal {M : List Nat} {f : Nat} {es : Exs} : isVarM M (.cal f es) = false := nrfl rfl
@[simp] theorem vmove_pri {M : List Nat} {p : Pr} {es : Exs} : vmove M (.pri p es) = none := nrfl rfl
@[simp] theorem boxO_pri {τ : VSl} {p : Pr} {es : Exs} : boxO τ (.pri p es) = false := nrfl rfl
@[simp] theorem anyM_pri {M : List Nat} {rs : Exs} {p : Pr} {es : Exs} : anyM M (.cons (.pri p es) rs) = anyM M rs := nrfl rfl
@[simp] theorem isVarM_pri {M : List Nat} {p : Pr} {es : Exs} : isVarM M (.pri p es) = false := nrfl rfl
@[simp] theorem vmove_met {M : List Nat} {m : Me} {a : Ex} {es : Exs} : vmove M (.met m a es) = none := nrfl rfl
@[simp] theorem boxO_met {τ : VSl} {m : Me} {a : Ex} {es : Exs} : boxO τ (.met m a es) = false := nrfl rfl
@[simp] theorem anyM_met {M : List Nat} {rs : Exs} {m : Me} {a : Ex} {es : Exs} : anyM M (.cons (.met m a es) rs) = anyM M rs := nrfl rfl
@[simp] theorem isVarM_met {M : List Nat} {m : Me} {a : Ex} {es : Exs} : isVarM M (.met m a es) = false := nrfl rfl
@[simp] theorem vmove_lz {M : List Nat} {es : Exs} : vmove M (.lz es) = none := nrfl rfl
@[simp] theorem boxO_lz {τ : VSl} {es : Exs} : boxO τ (.lz es) = false := nrfl rfl
@[simp] theorem anyM_lz {M : List Nat} {rs : Exs} {es : Exs} : anyM M (.cons (.lz es) rs) = anyM M rs := nrfl rfl
@[simp] theorem isVarM_lz {M : List Nat} {es : Exs} : isVarM M (.lz es) = false := nrfl rfl
@[simp] theorem vmove_lc {M : List Nat} {e : Ex} {t : Tg} {sr : Src} {es : Exs} {own : List Nat} {c : Exo} : vmove M (.lc e t sr es own c) = none := nrfl rfl
@[simp] theorem boxO_lc {τ : VSl} {e : Ex} {t : Tg} {sr : Src} {es : Exs} {own : List Nat} {c : Exo} : boxO τ (.lc e t sr es own c) = false := nrfl rfl
@[simp] theorem anyM_lc {M : List Nat} {rs : Exs} {e : Ex} {t : Tg} {sr : Src} {es : Exs} {own : List Nat} {c : Exo} : anyM M (.cons (.lc e t sr es own c) rs) = anyM M rs := nrfl rfl
@[simp] theorem isVarM_lc {M : List Nat} {e : Ex} {t : Tg} {sr : Src} {es : Exs} {own : List Nat} {c : Exo} : isVarM M (.lc e t sr es own c) = false := nrfl rfl
@[simp] theorem boxO_var {τ : VSl} {i : Nat} : boxO τ (.var i) = (match τ[i]? with | some (some .box) => true | _ => false) := nrfl rfl
@[simp] theorem anyM_nil {M : List Nat} : anyM M .nil = false := nrfl rfl
@[simp] theorem anyM_var {M : List Nat} {i : Nat} {rs : Exs} : anyM M (.cons (.var i) rs) = (decide (i ∈ M) || anyM M rs) := nrfl rfl
@[simp] theorem isVarM_var {M : List Nat} {i : Nat} : isVarM M (.var i) = decide (i ∈ M) := nrfl rfl
@[simp] theorem fresh_cst {fr : Nat → Bool} {v : Val} : isFresh fr (.cst v) = false := nrfl rfl
@[simp] theorem fresh_glb {fr : Nat → Bool} {x : Nat} : isFresh fr (.glb x) = false := nrfl rfl
@[simp] theorem fresh_neg {fr : Nat → Bool} {a : Ex} : isFresh fr (.neg a) = false := nrfl rfl
@[simp] theorem fresh_not {fr : Nat → Bool} {a : Ex} : isFresh fr (.not a) = false := nrfl rfl
@[simp] theorem fresh_and {fr : Nat → Bool} {a b : Ex} : isFresh fr (.and a b) = false := nrfl rfl
@[simp] theorem fresh_or {fr : Nat → Bool} {a b : Ex} : isFresh fr (.or a b) = false := nrfl rfl
@[simp] theorem fresh_chn {fr : Nat → Bool} {o p : Op} {a b c : Ex} : isFresh fr (.chn o p a b c) = false := nrfl rfl
@[simp] theorem fresh_ch3 {fr : Nat → Bool} {o p q : Op} {a b c d : Ex} : isFresh fr (.ch3 o p q a b c d) = false := nrfl rfl
@[simp] theorem fresh_lst {fr : Nat → Bool} {es : Exs} : isFresh fr (.lst es) = true := nrfl rfl
@[simp] theorem fresh_tup {fr : Nat → Bool} {es : Exs} : isFresh fr (.tup es) = false := nrfl rfl
@[simp] theorem fresh_dnew {fr : Nat → Bool}  : isFresh fr .dnew = true := nrfl rfl
@[simp] theorem fresh_dic {fr : Nat → Bool} {es : Exs} : isFresh fr (.dic es) = true := nrfl rfl
@[simp] theorem fresh_idx {fr : Nat → Bool} {a b : Ex} : isFresh fr (.idx a b) = false := nrfl rfl
@[simp] theorem fresh_slc {fr : Nat → Bool} {a : Ex} {lo hi : Exo} : isFresh fr (.slc a lo hi) = true := nrfl rfl
@[simp] theorem fresh_rev {fr : Nat → Bool} {a : Ex} : isFresh fr (.rev a) = true := nrfl rfl
@[simp] theorem fresh_inr {fr : Nat → Bool} {n : Bool} {a : Ex} {es : Exs} : isFresh fr (.inr n a es) = false := nrfl rfl
@[simp] theorem fresh_met {fr : Nat → Bool} {m : Me} {a : Ex} {es : Exs} : isFresh fr (.met m a es) = false := nrfl rfl
@[simp] theorem fresh_lz {fr : Nat → Bool} {es : Exs} : isFresh fr (.lz es) = true := nrfl rfl
@[simp] theorem fresh_lc {fr : Nat → Bool} {e : Ex} {t : Tg} {sr : Src} {es : Exs} {own : List Nat} {c : Exo} : isFresh fr (.lc e t sr es own c) = true := nrfl rfl
@[simp] theorem fresh_add {fr : Nat → Bool} {a b : Ex} : isFresh fr (.bin .add a b) = true := nrfl rfl
@[simp] theorem fresh_mul {fr : Nat → Bool} {a b : Ex} : isFresh fr (.bin .mul a b) = true := nrfl rfl
@[simp] theorem fresh_list {fr : Nat → Bool} {es : Exs} : isFresh fr (.pri .list es) = true := nrfl rfl
@[simp] theorem fresh_cal {fr : Nat → Bool} {f : Nat} {es : Exs} : isFresh fr (.cal f es) = fr f := nrfl rfl
@[simp] theorem fresh_ite {fr : Nat → Bool} {a b c : Ex} : isFresh fr (.ite a b c) = (isFresh fr b && isFresh fr c) := nrfl rfl
@[simp] theorem fresh_var {fr : Nat → Bool} {i : Nat} : isFresh fr (.var i) = false := nrfl rfl
/-! ## operators -/
section
variable {i j : Int} {a b : Str} {x y : PyData} {xs ys : List PyData}
@[simp] theorem cstD_non : cstD .non = some .none := nrfl rfl
@[simp] theorem cstD_bl {b : Bool} : cstD (.bl b) = some (.bool b) := nrfl rfl
@[simp] theorem cstD_int : cstD (.int i) = some (.int i) := nrfl rfl
@[simp] theorem cstD_str : cstD (.str a) = some (.str a) := nrfl rfl
@[simp] theorem vtru_b {b : Bool} : vtru (.bool b) = some b := nrfl rfl
@[simp] theorem vtru_i : vtru (.int i) = some (i != 0) := nrfl rfl
@[simp] theorem vtru_n : vtru .none = some false := nrfl rfl
@[simp] theorem vtru_l : vtru (.list xs) = some (!xs.isEmpty) := nrfl rfl
@[simp] theorem vneg_i : vneg (.int i) = some (.int (-i)) := nrfl rfl
@[simp] theorem vintO_i : vintO (.int i) = some (some i) := nrfl rfl
@[simp] theorem vadd_i : vop .add (.int i) (.int j) = some (.int (i + j)) := nrfl rfl
@[simp] theorem vadd_s : vop .add (.str a) (.str b) = if a.length + b.length ≤ SL then some (.str (a ++ b)) else none := nrfl rfl
@[simp] theorem vadd_l : vop .add (.list xs) (.list ys) = if xs.length + ys.length ≤ SL then some (.list (xs ++ ys)) else none := nrfl rfl
@[simp] theorem vadd_t : vop .add (.tuple xs) (.tuple ys) = if xs.length + ys.length ≤ SL then some (.tuple (xs ++ ys)) else none := nrfl rfl
@[simp] theorem vsub_i : vop .sub (.int i) (.int j) = some (.int (i - j)) := nrfl rfl
@[simp] theorem vmul_i : vop .mul (.int i) (.int j) = if (-18446744073709551616 < i ∧ i < 18446744073709551616) ∨ (-18446744073709551616 < j ∧ j < 18446744073709551616) then some (.int (i * j)) else none := nrfl rfl
@[simp] theorem vmul_l : vop .mul (.list xs) (.int j) = if -9223372036854775808 ≤ j ∧ j < 9223372036854775808 ∧ xs.length * j.toNat ≤ SL then some (.list (List.replicate j.toNat xs).flatten) else none := nrfl rfl
@[simp] theorem vmul_s : vop .mul (.str a) (.int j) = if -9223372036854775808 ≤ j ∧ j < 9223372036854775808 ∧ a.length * j.toNat ≤ SL then some (.str (repS a j)) else none := nrfl rfl
@[simp] theorem vfdiv_i : vop .fdiv (.int i) (.int j) = if 0 < j ∧ j < 1073741824 then some (.int (i / j)) else none := nrfl rfl
@[simp] theorem vmod_i : vop .mod (.int i) (.int j) = if 0 < j then some (.int (i % j)) else none := nrfl rfl
@[simp] theorem vpow_i : vop .pow (.int i) (.int j) = if 0 ≤ j ∧ j ≤ 1000000 ∧ i.natAbs < 18446744073709551616 then some (.int (i ^ j.toNat)) else none := nrfl rfl
@[simp] theorem veq_i : vop .eq (.int i) (.int j) = some (.bool (decide (i = j))) := nrfl rfl
@[simp] theorem veq_s : vop .eq (.str a) (.str b) = some (.bool (decide (a = b))) := nrfl rfl
@[simp] theorem veq_b {a b : Bool} : vop .eq (.bool a) (.bool b) = some (.bool (decide (a = b))) := nrfl rfl
@[simp] theorem vne_i : vop .ne (.int i) (.int j) = some (.bool (!decide (i = j))) := nrfl rfl
@[simp] theorem vne_s : vop .ne (.str a) (.str b) = some (.bool (!decide (a = b))) := nrfl rfl
@[simp] theorem vne_b {a b : Bool} : vop .ne (.bool a) (.bool b) = some (.bool (!decide (a = b))) := nrfl rfl
@[simp] theorem vlt_i : vop .lt (.int i) (.int j) = some (.bool (decide (i < j))) := nrfl rfl
@[simp] theorem vle_i : vop .le (.int i) (.int j) = some (.bool (decide (i ≤ j))) := nrfl rfl
@[simp] theorem vgt_i : vop .gt (.int i) (.int j) = some (.bool (decide (j < i))) := nrfl rfl
@[simp] theorem vge_i : vop .ge (.int i) (.int j) = some (.bool (decide (j ≤ i))) := nrfl rfl
def isNonD : PyData → Bool
  | .none => true
  | _ => false
@[simp] theorem vis_n : vop .is x .none = some (.bool (isNonD x)) := by cases x <;> rfl
@[simp] theorem visnot_n : vop .isnot x .none = some (.bool (!isNonD x)) := by cases x <;> rfl
@[simp] theorem isNonD_n : isNonD .none = true := nrfl rfl
@[simp] theorem isNonD_i : isNonD (.int i) = false := nrfl rfl
@[simp] theorem isNonD_b {b : Bool} : isNonD (.bool b) = false := nrfl rfl
@[simp] theorem isNonD_s : isNonD (.str a) = false := nrfl rfl
@[simp] theorem isNonD_l : isNonD (.list xs) = false := nrfl rfl
@[simp] theorem isNonD_t : isNonD (.tuple xs) = false := nrfl rfl
@[simp] theorem isNonD_d {xs : List (PyData × PyData)} : isNonD (.dict xs) = false := nrfl rfl
@[simp] theorem vis_b {a b : Bool} : vop .is (.bool a) (.bool b) = some (.bool (decide (a = b))) := nrfl rfl
@[simp] theorem visnot_b {a b : Bool} : vop .isnot (.bool a) (.bool b) = some (.bool (!decide (a = b))) := nrfl rfl
theorem veq_d (h1 : shd x = true) (h2 : shd y = true) : vop .eq x y = some (.bool (PyData.eqv x y)) := by
  show (veq x y).map PyData.bool = _
  unfold veq
  split
  · simp [PyData.eqv]; rw [Bool.eq_iff_iff]; simp
  · simp [PyData.eqv]; rw [Bool.eq_iff_iff]; simp
  · simp [PyData.eqv]; rw [Bool.eq_iff_iff]; simp
  · rw [if_pos ⟨h1, h2⟩]; rfl
theorem vne_d (h1 : shd x = true) (h2 : shd y = true) : vop .ne x y = some (.bool (!PyData.eqv x y)) := by
  have h := veq_d h1 h2
  have h' : (veq x y).map PyData.bool = some (.bool (PyData.eqv x y)) := h
  show (veq x y).map (fun b => PyData.bool (!b)) = _
  cases e : veq x y with
  | none => rw [e] at h'; cases h'
  | some b => rw [e] at h'; cases h'; rfl
@[simp] theorem vaop_add : vaop .add (.int i) (.int j) = some (.int (i + j)) := nrfl rfl
@[simp] theorem vaop_sub : vaop .sub (.int i) (.int j) = some (.int (i - j)) := nrfl rfl
@[simp] theorem vaop_adds : vaop .add (.str a) (.str b) = if a.length + b.length ≤ SL then some (.str (a ++ b)) else none := nrfl rfl
@[simp] theorem seqD_l : seqD (.list xs) = some xs := nrfl rfl
@[simp] theorem seqD_t : seqD (.tuple xs) = some xs := nrfl rfl
@[simp] theorem lstD_l : lstD (.list xs) = some xs := nrfl rfl
@[simp] theorem vlen_l : vpri .len [.list xs] = some (.int xs.length) := nrfl rfl
@[simp] theorem vlen_t : vpri .len [.tuple xs] = some (.int xs.length) := nrfl rfl
@[simp] theorem vlen_d {xs : List (PyData × PyData)} : vpri .len [.dict xs] = some (.int xs.length) := nrfl rfl
@[simp] theorem vlen_s : vpri .len [.str a] = if a.length ≤ SL then some (.int a.length) else none := by
  show ((if a.length ≤ SL then some a.length else none).map fun (n : Nat) => PyData.int (n : Int)) = _
  split <;> rfl
@[simp] theorem vmax_2 : vpri .max [.int i, .int j] = some (.int (max i j)) := by
  show some (PyData.int (if j > i then j else i)) = _
  congr 2
  split <;> omega
@[simp] theorem vmin_2 : vpri .min [.int i, .int j] = some (.int (min i j)) := by
  show some (PyData.int (if j < i then j else i)) = _
  congr 2
  split <;> omega
theorem vints_map : ∀ ns : List Int, vints (ns.map .int) = some ns
  | [] => rfl
  | n :: ns => by show (vints (ns.map .int)).map _ = _; rw [vints_map ns]; rfl
theorem vbls_map : ∀ ns : List Bool, vbls (ns.map .bool) = some ns
  | [] => rfl
  | n :: ns => by show (vbls (ns.map .bool)).map _ = _; rw [vbls_map ns]; rfl
theorem vstrs_map : ∀ ns : List Str, vstrs (ns.map .str) = some ns
  | [] => rfl
  | n :: ns => by show (vstrs (ns.map .str)).map _ = _; rw [vstrs_map ns]; rfl
theorem vmax_l {ns : List Int} (h : ns ≠ []) (e : xs = ns.map .int) : vpri .max [.list xs] = some (.int (maxL ns)) := by
  subst e
  show (match some (ns.map PyData.int) |>.bind vints with | some ns => if 0 < ns.length then some (PyData.int (maxL ns)) else none | none => none) = _
  simp only [Option.bind_some, vints_map]
  rw [if_pos (List.length_pos_iff.mpr h)]
theorem vmin_l {ns : List Int} (h : ns ≠ []) (e : xs = ns.map .int) : vpri .min [.list xs] = some (.int (minL ns)) := by
  subst e
  show (match some (ns.map PyData.int) |>.bind vints with | some ns => if 0 < ns.length then some (PyData.int (minL ns)) else none | none => none) = _
  simp only [Option.bind_some, vints_map]
  rw [if_pos (List.length_pos_iff.mpr h)]
@[simp] theorem vsum_l {ns : List Int} : vpri .sum [.list (ns.map .int)] = some (.int ns.sum) := by
  show ((some (ns.map PyData.int)).bind vints).map _ = _
  simp [vints_map]
@[simp] theorem vsum_t {ns : List Int} : vpri .sum [.tuple (ns.map .int)] = some (.int ns.sum) := by
  show ((some (ns.map PyData.int)).bind vints).map _ = _
  simp [vints_map]
@[simp] theorem vall_l {ns : List Bool} : vpri .all [.list (ns.map .bool)] = some (.bool (ns.all id)) := by
  show ((some (ns.map PyData.bool)).bind vbls).map _ = _
  simp [vbls_map]
@[simp] theorem vany_l {ns : List Bool} : vpri .any [.list (ns.map .bool)] = some (.bool (ns.any id)) := by
  show ((some (ns.map PyData.bool)).bind vbls).map _ = _
  simp [vbls_map]
@[simp] theorem vint_i : vpri .int [.int i] = some (.int i) := nrfl rfl
@[simp] theorem vint_b {b : Bool} : vpri .int [.bool b] = some (.int (if b then 1 else 0)) := nrfl rfl
@[simp] theorem vstr_i : vpri .str [.int i] = if i.natAbs.log2 < 1920 then some (.str (istr i)) else none := nrfl rfl
@[simp] theorem vstr_s : vpri .str [.str a] = some (.str a) := nrfl rfl
@[simp] theorem vlist_l : vpri .list [.list xs] = some (.list xs) := nrfl rfl
@[simp] theorem vlist_t : vpri .list [.tuple xs] = some (.list xs) := nrfl rfl
@[simp] theorem vtuple_l : vpri .tuple [.list xs] = some (.tuple xs) := nrfl rfl
@[simp] theorem vtuple_t : vpri .tuple [.tuple xs] = some (.tuple xs) := nrfl rfl
@[simp] theorem vdivmod_i : vpri .divmod [.int i, .int j] = if 0 < j ∧ j < 1073741824 then some (.tuple [.int (i / j), .int (i % j)]) else none := nrfl rfl
@[simp] theorem vcount_l {ns : List Int} : vmet .count (.list (ns.map .int)) [.int i] = some (.int (ns.count i : Nat)) := by
  show (vints (ns.map .int)).map _ = _
  rw [vints_map]
  rfl
@[simp] theorem vrcv_count : vrcv .count (.list xs) = true := nrfl rfl
@[simp] theorem vrcv_join : vrcv .join (.str a) = true := nrfl rfl
@[simp] theorem vrcv_split : vrcv .split (.str a) = true := nrfl rfl
@[simp] theorem vrcv_sindex : vrcv .sindex (.str a) = true := nrfl rfl
@[simp] theorem tyD_n : tyD .none = "NoneType" := nrfl rfl
@[simp] theorem tyD_b {b : Bool} : tyD (.bool b) = "bool" := nrfl rfl
@[simp] theorem tyD_i : tyD (.int i) = "int" := nrfl rfl
@[simp] theorem tyD_s : tyD (.str a) = "str" := nrfl rfl
@[simp] theorem tyD_l : tyD (.list xs) = "list" := nrfl rfl
@[simp] theorem tyD_t : tyD (.tuple xs) = "tuple" := nrfl rfl
@[simp] theorem tyD_d {xs : List (PyData × PyData)} : tyD (.dict xs) = "dict" := nrfl rfl
@[simp] theorem flatD_i : flatD (.int i) = true := nrfl rfl
@[simp] theorem flatD_b {b : Bool} : flatD (.bool b) = true := nrfl rfl
@[simp] theorem flatD_n : flatD .none = true := nrfl rfl
@[simp] theorem flatD_s : flatD (.str a) = true := nrfl rfl
@[simp] theorem isLD_l : isLD (.list xs) = true := nrfl rfl
@[simp] theorem isLD_d {xs : List (PyData × PyData)} : isLD (.dict xs) = true := nrfl rfl
@[simp] theorem vsrc_l : vsrc .val [.list xs] = some xs := nrfl rfl
@[simp] theorem vsrc_t : vsrc .val [.tuple xs] = some xs := nrfl rfl
@[simp] theorem vsrc_s : vsrc .val [.str a] = some (a.cps.toList.map fun c => .str ⟨#[c]⟩) := nrfl rfl
@[simp] theorem vsrc_enum : vsrc .enum [.list xs] = some (venum 0 xs) := nrfl rfl
@[simp] theorem vsrc_rev : vsrc .rev [.list xs] = some xs.reverse := nrfl rfl
@[simp] theorem vsrc_zip {xs ys : List PyData} (h1 : seqD x = some xs) (h2 : seqD y = some ys) : vsrc .zip [x, y] = some (vpair xs ys) := by
  show (match seqD x, seqD y with | some xs, some ys => some (vpair xs ys) | _, _ => none) = _
  rw [h1, h2]
theorem vsrc_zip3 {z : PyData} {xs ys zs : List PyData} (h1 : seqD x = some xs) (h2 : seqD y = some ys) (h3 : seqD z = some zs) : vsrc .zip3 [x, y, z] = some (vtrip xs ys zs) := by
  show (match seqD x, seqD y, seqD z with | some xs, some ys, some zs => some (vtrip xs ys zs) | _, _, _ => none) = _
  rw [h1, h2, h3]
theorem vlz_is {xs ys : List PyData} (h1 : seqD x = some xs) (h2 : seqD y = some ys) : vlz [x, y] = some (.list (vpair xs ys)) := by
  show (match seqD x, seqD y with | some xs, some ys => some (PyData.list (vpair xs ys)) | _, _ => none) = _
  rw [h1, h2]
@[simp] theorem vsrc_r1 : vsrc .rng1 [.int j] = if -4611686018427387904 ≤ j ∧ j < 4611686018427387904 then some (vrng 0 j.toNat) else none := nrfl rfl
@[simp] theorem vsrc_r2 : vsrc .rng2 [.int i, .int j] = if -4611686018427387904 ≤ i ∧ i < 4611686018427387904 ∧ -4611686018427387904 ≤ j ∧ j < 4611686018427387904 then some (vrng i (j - i).toNat) else none := nrfl rfl
@[simp] theorem vtg_nm {M : List Nat} {k : Nat} {τ : VSl} : vtg M (.nm k) x τ = if k ∈ M then none else some (τ.set k (some (.d x))) := nrfl rfl
theorem vtg_2 {M : List Nat} {k l : Nat} {τ : VSl} (h1 : k ∉ M) (h2 : l ∉ M) : vtg M (.tp [k, l]) (.tuple [x, y]) τ = some ((τ.set k (some (.d x))).set l (some (.d y))) := by
  unfold vtg seqD
  simp [vsetAll, h1, h2]
theorem vtg_3 {M : List Nat} {k l m : Nat} {z : PyData} {τ : VSl} (h1 : k ∉ M) (h2 : l ∉ M) (h3 : m ∉ M) : vtg M (.tp [k, l, m]) (.tuple [x, y, z]) τ = some (((τ.set k (some (.d x))).set l (some (.d y))).set m (some (.d z))) := by
  unfold vtg seqD
  simp [vsetAll, h1, h2, h3]
@[simp] theorem vsl_l {lo hi : Option Int} : vslc (.list xs) lo hi = some (.list (cutP xs lo hi)) := nrfl rfl
@[simp] theorem vsl_t {lo hi : Option Int} : vslc (.tuple xs) lo hi = some (.tuple (cutP xs lo hi)) := nrfl rfl
end
theorem vrng_eq (lo : Int) (n : Nat) : vrng lo n = (List.range n).map fun (k : Nat) => PyData.int (lo + (k : Int)) := by
  have : ∀ (n : Nat) (lo : Int) (m : Nat), vrng (lo + m) n = (List.range' m n).map fun (k : Nat) => PyData.int (lo + (k : Int)) := by
    intro n
    induction n with
    | zero => intro lo m; rfl
    | succ n ih =>
      intro lo m
      rw [List.range'_succ, List.map_cons, ← ih lo (m + 1)]
      show PyData.int (lo + m) :: vrng (lo + m + 1) n = _
      rw [show lo + (m : Int) + 1 = lo + ((m + 1 : Nat) : Int) by omega]
  have h := this n lo 0
  rw [show lo + ((0 : Nat) : Int) = lo by omega] at h
  rw [h, List.range_eq_range']
theorem vpair_map {α β : Type} (f : α → PyData) (g : β → PyData) : ∀ (xs : List α) (ys : List β), vpair (xs.map f) (ys.map g) = (xs.zip ys).map fun p => .tuple [f p.1, g p.2]
  | [], ys => by cases ys <;> rfl
  | x :: xs, [] => rfl
  | x :: xs, y :: ys => by
    show PyData.tuple [f x, g y] :: vpair (xs.map f) (ys.map g) = _
    rw [vpair_map f g xs ys]
    rfl
theorem vtrip_map {α β γ : Type} (f : α → PyData) (g : β → PyData) (k : γ → PyData) : ∀ (xs : List α) (ys : List β) (zs : List γ), vtrip (xs.map f) (ys.map g) (zs.map k) = (xs.zip (ys.zip zs)).map fun p => .tuple [f p.1, g p.2.1, k p.2.2]
  | [], ys, zs => by cases ys <;> cases zs <;> rfl
  | x :: xs, [], zs => by cases zs <;> rfl
  | x :: xs, y :: ys, [] => rfl
  | x :: xs, y :: ys, z :: zs => by
    show PyData.tuple [f x, g y, k z] :: vtrip (xs.map f) (ys.map g) (zs.map k) = _
    rw [vtrip_map f g k xs ys zs]
    rfl
theorem venum_map {α : Type} (f : α → PyData) : ∀ (n : Nat) (xs : List α), venum n (xs.map f) = (xs.zipIdx n).map fun p => .tuple [.int (p.2 : Nat), f p.1]
  | n, [] => rfl
  | n, x :: xs => by
    show PyData.tuple [.int n, f x] :: venum (n + 1) (xs.map f) = _
    rw [venum_map f (n + 1) xs]
    rfl
/-- an item -/
theorem vix_nat {α : Type} {f : α → PyData} {xs : List α} {k : Nat} {a : α} (e : xs[k]? = some a) : vidx (.list (xs.map f)) (.int (k : Nat)) = some (f a) := by
  show L2.atI (xs.map f) (k : Int) = _
  have hk := (List.getElem?_eq_some_iff.mp e).1
  unfold L2.atI L2.ixN
  rw [if_pos (by omega), if_pos (by rw [List.length_map]; omega)]
  simp [e]
theorem vixt_nat {α : Type} {f : α → PyData} {xs : List α} {k : Nat} {a : α} (e : xs[k]? = some a) : vidx (.tuple (xs.map f)) (.int (k : Nat)) = some (f a) := vix_nat e
theorem vix_int {α : Type} {f : α → PyData} {xs : List α} {k : Int} {a : α} (h0 : 0 ≤ k) (e : xs[k.toNat]? = some a) : vidx (.list (xs.map f)) (.int k) = some (f a) := by
  have := vix_nat (f := f) e
  rw [show ((k.toNat : Nat) : Int) = k by omega] at this
  exact this
/-! ## loops -/
section
variable {M : List Nat} {t : Tg} {E : Nat → List (Str × PyData) → VS → Prop}
theorem vloop_inv {β : Type} {k : β → PyData} {b : VSl → VS → Vr VFl} {Q : VFl → VS → Prop} (I : List β → VSl → VS → Prop)
    (step : ∀ x r τ s, I (x :: r) τ s → ∃ τ', vtg M t (k x) τ = some τ' ∧ (b τ' s).sat (fun f s' => (match f with | .nx τ'' => I r τ'' s' | .rt v => Q (.rt v) s' | .ex c fs τ => Q (.ex c fs τ) s')) E)
    (done : ∀ τ s, I [] τ s → Q (.nx τ) s) : ∀ {xs : List β} {τ : VSl} {s : VS}, I xs τ s → (vloop M t b (xs.map k) τ s).sat Q E
  | [], τ, s, i => done τ s i
  | x :: xs, τ, s, i => by
    obtain ⟨τ', e, h⟩ := step x xs τ s i
    rw [List.map_cons]
    unfold vloop
    rw [e]
    dsimp only
    rw [vsat_bind]
    refine h.imp (fun f s' z => ?_) fun _ _ _ z => z
    cases f with
    | nx τ'' => exact vloop_inv I step done z
    | rt v => exact z
    | ex c fs τ => exact z
/-- .. item by item, what comes by the number of those that are done -/
theorem vloopW_inv {c : VSl → VS → Vr Bool} {b : VSl → VS → Vr VFl} {Q : VFl → VS → Prop} (I : Nat → VSl → VS → Prop)
    (step : ∀ n τ s, I n τ s → (c τ s).sat (fun t s1 => if t then ∃ m, n = m + 1 ∧ (b τ s1).sat (fun f s' => (match f with | .nx τ'' => I m τ'' s' | .rt v => Q (.rt v) s' | .ex c fs τ => Q (.ex c fs τ) s')) E else Q (.nx τ) s1) (fun c fs s => Q (.ex c fs τ) s)) :
    ∀ (k n : Nat) (τ : VSl) (s : VS), n < k → I n τ s → (vloopW c b k τ s).sat Q E
  | 0, n, _, _, hk, _ => by omega
  | k + 1, n, τ, s, hk, i => by
    unfold vloopW
    rw [vsat_sb]
    refine (step _ _ _ i).imp (fun t s1 z => ?_) fun _ _ _ z => z
    cases t with
    | false => exact z
    | true =>
      obtain ⟨m, e, h⟩ := z
      rw [if_pos rfl, vsat_bind]
      refine h.imp (fun f s' z => ?_) fun _ _ _ z => z
      cases f with
      | nx τ'' => exact vloopW_inv I step k m τ'' s' (by omega) z
      | rt v => exact z
      | ex c fs τ => exact z
theorem vlc_step {c : VSl → VS → Vr Bool} {e : VSl → VS → Vr PyData} {τ τ' : VSl} {i : PyData} {is acc : List PyData} {s : VS} (et : vtg M t i τ = some τ') : vlc M t c e τ (i :: is) acc s = (match c τ' s with
      | .ok true s1 => (match e τ' s1 with
        | .ok v s2 => if acc.length < SL then vlc M t c e τ is (acc ++ [v]) s2 else .bad
        | _ => .bad)
      | .ok false s1 => vlc M t c e τ is acc s1
      | _ => .bad) := by
  show (match vtg M t i τ with | none => Vr.bad | some τ' => _) = _
  rw [et]
  all_goals rfl
theorem vlc_inv {β : Type} {k : β → PyData} {c : VSl → VS → Vr Bool} {e : VSl → VS → Vr PyData} {τ : VSl} {Q : List PyData → VS → Prop} (I : List β → List PyData → VS → Prop)
    (ha : ∀ x r a s, I (x :: r) a s → a.length < SL)
    (step : ∀ x r a s, I (x :: r) a s → ∃ τ', vtg M t (k x) τ = some τ' ∧ (c τ' s).sat (fun b s1 => if b then (e τ' s1).sat (fun v s2 => I r (a ++ [v]) s2) nov else I r a s1) nov)
    (done : ∀ a s, I [] a s → Q a s) : ∀ {xs : List β} {a : List PyData} {s : VS}, I xs a s → (vlc M t c e τ (xs.map k) a s).sat Q E
  | [], a, s, i => done a s i
  | x :: xs, a, s, i => by
    obtain ⟨τ', et, h⟩ := step x xs a s i
    rw [List.map_cons, vlc_step et]
    cases hc : c τ' s with
    | bad => rw [hc] at h; exact h.elim
    | exc k fs s1 => rw [hc] at h; exact h.elim
    | ok b s1 =>
      rw [hc, vsat_ok] at h
      cases b with
      | false => exact vlc_inv I ha step done (by simpa using h)
      | true =>
        have h : (e τ' s1).sat (fun v s2 => I xs (a ++ [v]) s2) nov := by simpa using h
        cases he : e τ' s1 with
        | bad => rw [he] at h; exact h.elim
        | exc k fs s1 => rw [he] at h; exact h.elim
        | ok v s2 =>
          rw [he, vsat_ok] at h
          simp only [he, if_pos (ha x xs a s i)]
          exact vlc_inv I ha step done h
/-- a comprehension that takes nothing out of the box -/
theorem vlc_pure {β : Type} {k : β → PyData} {c : VSl → VS → Vr Bool} {e : VSl → VS → Vr PyData} {τ : VSl} {s : VS} {p : β → Bool} {f : β → PyData} :
    ∀ {xs : List β} {acc : List PyData}, (∀ x ∈ xs, ∃ τ', vtg M t (k x) τ = some τ' ∧ c τ' s = .ok (p x) s ∧ (p x = true → e τ' s = .ok (f x) s)) → acc.length + xs.length ≤ SL → vlc M t c e τ (xs.map k) acc s = .ok (acc ++ (xs.filter p).map f) s
  | [], acc, _, _ => by show Vr.ok acc s = _; simp
  | x :: xs, acc, h, hl => by
    obtain ⟨τ', e1, e2, e3⟩ := h x (List.mem_cons_self ..)
    have h' := fun y hy => h y (List.mem_cons_of_mem _ hy)
    simp only [List.length_cons] at hl
    rw [List.map_cons]
    unfold vlc
    rw [e1]
    dsimp only
    rw [e2]
    cases hp : p x with
    | false =>
      dsimp only
      rw [vlc_pure h' (by omega), List.filter_cons_of_neg (by simp [hp])]
    | true =>
      dsimp only
      rw [e3 hp]
      dsimp only
      rw [if_pos (by omega), vlc_pure h' (by simp only [List.length_append, List.length_singleton]; omega), List.filter_cons_of_pos hp]
      simp
theorem vlc_map {β : Type} {k : β → PyData} {c : VSl → VS → Vr Bool} {e : VSl → VS → Vr PyData} {τ : VSl} {s : VS} {f : β → PyData} {xs : List β}
    (h : ∀ x ∈ xs, ∃ τ', vtg M t (k x) τ = some τ' ∧ c τ' s = .ok true s ∧ e τ' s = .ok (f x) s) (hl : xs.length ≤ SL) : vlc M t c e τ (xs.map k) [] s = .ok (xs.map f) s := by
  rw [vlc_pure (p := fun _ => true) (f := f) (fun x hx => by obtain ⟨a, b, c, d⟩ := h x hx; exact ⟨a, b, c, fun _ => d⟩) (by simpa using hl), List.filter_eq_self.mpr fun _ _ => rfl]
  rfl
end
/-! ## data that can be compared, shown -/
theorem Okd.shd {d : PyData} {n w : Nat} (o : Okd d n w) (hn : n ≤ 60) : Mi.shd d = true := by
  unfold Mi.shd
  rw [o.lay, Bool.true_and]
  exact decide_eq_true (Nat.le_trans o.dep hn)
/-- what can be compared, by its depth -/
def Lyd (n : Nat) (d : PyData) : Prop := d.canLay0 = true ∧ d.depth ≤ n
theorem Lyd.shd {n : Nat} {d : PyData} (l : Lyd n d) (hn : n ≤ 60) : Mi.shd d = true := by
  unfold Mi.shd
  rw [l.1, Bool.true_and]
  exact decide_eq_true (Nat.le_trans l.2 hn)
theorem Lyd.up {n m : Nat} {d : PyData} (l : Lyd n d) (h : n ≤ m) : Lyd m d := ⟨l.1, Nat.le_trans l.2 h⟩
theorem lyd_i {i : Int} {n : Nat} : Lyd n (.int i) := ⟨rfl, Nat.zero_le _⟩
theorem lyd_b {i : Bool} {n : Nat} : Lyd n (.bool i) := ⟨rfl, Nat.zero_le _⟩
theorem lyd_n {n : Nat} : Lyd n .none := ⟨rfl, Nat.zero_le _⟩
theorem lyd_l {ds : List PyData} {n : Nat} (h : ∀ d ∈ ds, Lyd n d) : Lyd (n + 1) (.list ds) := ⟨canLayAll_of fun d hd => (h d hd).1, Nat.succ_le_succ (depthAll_of fun d hd => (h d hd).2)⟩
theorem lyd_t {ds : List PyData} {n : Nat} (h : ∀ d ∈ ds, Lyd n d) : Lyd (n + 1) (.tuple ds) := ⟨canLayAll_of fun d hd => (h d hd).1, Nat.succ_le_succ (depthAll_of fun d hd => (h d hd).2)⟩
theorem lyd_ints {ns : List Int} {n : Nat} : Lyd (n + 1) (.list (ns.map .int)) := lyd_l fun d hd => by
  obtain ⟨i, _, rfl⟩ := List.mem_map.mp hd
  exact lyd_i
theorem vrepr_ok {d : PyData} {n w : Nat} (o : Okr d n w) (hn : n ≤ 60) (hw : w ≤ 16777216) : vpri .repr [d] = some (.str d.shown) := by
  show (if d.showable = true ∧ d.depth ≤ 60 ∧ d.shown.length ≤ SL then some (PyData.str d.shown) else none) = _
  rw [if_pos ⟨o.shb, Nat.le_trans o.dep hn, Nat.le_trans o.len hw⟩]
theorem eqvAll_map {α : Type} (f : α → PyData) : ∀ {xs ys : List α}, (∀ a ∈ xs, ∀ b ∈ ys, (PyData.eqv (f a) (f b) = true ↔ a = b)) → (PyData.eqvAll (xs.map f) (ys.map f) = true ↔ xs = ys)
  | [], [], _ => Iff.intro (fun _ => rfl) fun _ => rfl
  | [], y :: ys, _ => Iff.intro (fun h => absurd h (by simp [PyData.eqvAll])) fun h => by cases h
  | x :: xs, [], _ => Iff.intro (fun h => absurd h (by simp [PyData.eqvAll])) fun h => by cases h
  | x :: xs, y :: ys, h => by
    show (PyData.eqv (f x) (f y) && PyData.eqvAll (xs.map f) (ys.map f)) = true ↔ _
    rw [Bool.and_eq_true, h x (List.mem_cons_self ..) y (List.mem_cons_self ..), eqvAll_map f fun a ha b hb => h a (List.mem_cons_of_mem _ ha) b (List.mem_cons_of_mem _ hb), List.cons.injEq]
theorem eqvAll_len : ∀ {xs ys : List PyData}, PyData.eqvAll xs ys = true → xs.length = ys.length
  | [], [], _ => rfl
  | [], y :: ys, h => by cases h
  | x :: xs, [], h => by cases h
  | x :: xs, y :: ys, h => by
    have h : (PyData.eqv x y && PyData.eqvAll xs ys) = true := h
    rw [Bool.and_eq_true] at h
    rw [List.length_cons, List.length_cons, eqvAll_len h.2]
/-! ## the box -/
theorem tkN_lt {p q r : Int} {β : BS} {m : Int} (hm : 0 < m) : 0 ≤ tkN p q r β m ∧ tkN p q r β m < m := by
  unfold tkN
  split
  · exact ⟨Int.emod_nonneg _ (by omega), Int.emod_lt_of_pos _ hm⟩
  · exact ⟨Int.emod_nonneg _ (by omega), Int.emod_lt_of_pos _ hm⟩
theorem tkS_n {β : BS} {m : Int} {hm : 0 < m} : (tkS β m hm).n = β.n + 1 := by
  unfold tkS
  split <;> rfl
/-- there is a box, asked at most c times -/
def Bxs (c : Nat) (s : VS) : Prop := ∃ β, s = some β ∧ β.n ≤ c
theorem Bxs.up {c d : Nat} {s : VS} (b : Bxs c s) (h : c ≤ d) : Bxs d s := by
  obtain ⟨β, e, l⟩ := b
  exact ⟨β, e, Nat.le_trans l h⟩
theorem v_take {T : VT} {L c : Nat} {m : Int} {s : VS} {Q : PyData → VS → Prop} {E : Nat → List (Str × PyData) → VS → Prop} (B : Bxs c s) (hc : c < 100000000) (hm : 0 < m ∧ m < 1073741824) (Z : ∀ (x : Int) (s' : VS), 0 ≤ x → x < m → Bxs (c + 1) s' → Q (.int x) s') :
    (vcalls T (L + 1) T.tk.id [.box, .d (.int m)] s).sat Q E := by
  obtain ⟨β, rfl, l⟩ := B
  unfold vcalls
  rw [if_pos rfl]
  unfold vtake
  dsimp only
  rw [dif_pos hm, if_pos (by omega)]
  have := tkN_lt (p := T.tk.p) (q := T.tk.q) (r := T.tk.r) (β := β) hm.1
  exact Z _ _ this.1 this.2 ⟨_, rfl, by rw [tkS_n]; omega⟩
/-- a suite's first statements, the others -/
def takeS : Nat → Sts → Sts
  | 0, _ => .nil
  | _, .nil => .nil
  | n + 1, .cons s r => .cons s (takeS n r)
def dropS : Nat → Sts → Sts
  | 0, b => b
  | _, .nil => .nil
  | n + 1, .cons _ r => dropS n r
theorem vexes_cut {g : VG} : ∀ (n : Nat) (b : Sts) (τ : VSl) (s : VS), vexes g b τ s = (vexes g (takeS n b) τ s).bind fun f s => f.go s (vexes g (dropS n b))
  | 0, b, τ, s => by simp [takeS, dropS]
  | n + 1, .nil, τ, s => by simp [takeS, dropS]
  | n + 1, .cons st b, τ, s => by
    simp only [takeS, dropS, vexes_cons]
    cases vexe g st τ s with
    | ok f s1 =>
      cases f with
      | nx τ' => simp only [vbind_ok, vgo_nx]; exact vexes_cut n b τ' s1
      | rt v => rfl
      | ex c fs τ => rfl
    | exc c fs s1 => rfl
    | bad => rfl
theorem Res_go {α : Type} {r : Vr α} {Q P : α → VS → Prop} {E : Nat → List (Str × PyData) → VS → Prop} (h : r.sat Q nov) (k : ∀ a s, Q a s → P a s) : r.sat P E := h.imp k fun _ _ _ z => z.elim
end Mi


/-! # Mi24: a law's own loop: its turns over data -/
namespace Mi
open PySem (Str PyData)
def SlR (Y : List Nat) (b : Option Nat) (h : Heap) : Option VV → Option Val → Prop
  | none, _ => True
  | some .box, x => ∃ n, b = some n ∧ x = some (.ref n)
  | some .scr, x => x = some .scr
  | some (.d d), x => ∃ v, x = some v ∧ Is Y h d v
theorem slr_n {Y : List Nat} {b : Option Nat} {h : Heap} {x : Option Val} : SlR Y b h none x := trivial
theorem slr_s {Y : List Nat} {b : Option Nat} {h : Heap} : SlR Y b h (some .scr) (some .scr) := rfl
theorem slr_b {Y : List Nat} {n : Nat} {h : Heap} : SlR Y (some n) h (some .box) (some (.ref n)) := ⟨n, rfl, rfl⟩
theorem slr_i {Y : List Nat} {b : Option Nat} {h : Heap} {i : Int} : SlR Y b h (some (.d (.int i))) (some (.int i)) := ⟨_, rfl, is_int⟩
theorem slr_d {Y : List Nat} {b : Option Nat} {h : Heap} {d : PyData} {v : Val} (i : Is Y h d v) : SlR Y b h (some (.d d)) (some v) := ⟨_, rfl, i⟩
theorem vsr_start {M Y : List Nat} {b : Option Nat} {h : Heap} {σ : Sl} {τ : VSl} (a : All2 (SlR Y b h) τ σ) (hM : ∀ i ∈ M, ∀ d, τ[i]? ≠ some (some (.d d))) : VSR M [] Y b h σ τ := by
  refine ⟨a.length.symm, fun i d e m => ?_, fun i d e m => (hM i m d e).elim, fun i e => ?_, fun i e => ?_, fun i j p d e m1 m2 n1 h1 h2 h3 => (hM i m1 d h1).elim⟩
  · obtain ⟨x, h1, v, rfl, h3⟩ := all2_at a e
    exact ⟨v, h1, h3⟩
  · obtain ⟨x, h1, n, h2, rfl⟩ := all2_at a e
    exact ⟨n, h2, h1⟩
  · obtain ⟨x, h1, h2⟩ := all2_at a e
    cases (show x = some .scr from h2)
    exact h1
/-- a suite, told over data, the box at n -/
theorem v_suite {T : VT} (hT : TOk T) {scr : List Int} {L : Nat} {M : List Nat} {fret : Bool} {ss : Sts} {τ : VSl} {s : VS} {σ : Sl} {h : Heap} {n : Nat} {P : VFl → VS → Prop} {ex : Option (List (Str × Val))}
    (hv : (vexes ⟨vcalls T L, T.gl, M, T.fr, fret⟩ ss τ s).sat P nov) (a : All2 (SlR [n] (some n) h) τ σ) (hM : ∀ i ∈ M, ∀ d, τ[i]? ≠ some (some (.d d))) (hn : n < h.length) (B : BxS (some n) s h) :
    (exes ⟨calls T.D T.gl scr L, T.gl, scr, ex⟩ ss σ h).sat (fun f h' => ∃ vf s' A', P vf s' ∧ FlR M A' [n] (some n) h.length fret h' vf f ∧ Fx1 n h h' ∧ BxS (some n) s' h') nox := by
  have C : VCtx ⟨vcalls T L, T.gl, M, T.fr, fret⟩ ⟨calls T.D T.gl scr L, T.gl, scr, ex⟩ := ⟨rfl, calls_ok hT scr L⟩
  have W : VW [] [n] (some n) h.length h := ⟨fun a ha => (by cases ha), fun y hy => by rw [List.mem_singleton.mp hy]; exact hn, Nat.le_refl _, fun m e => by cases e; simp⟩
  refine (exes_ok ss _ C [] τ s σ h W (vsr_start a hM) B hv.nb).imp (fun f h' z => ?_) fun _ _ _ z => z
  obtain ⟨vf, s', A', e, fl, F, gr, W', B'⟩ := z
  rw [e] at hv
  exact ⟨vf, s', A', hv, fl, by have := F; simp at this; exact this.fx, B'⟩
theorem exes_cut {g : G} : ∀ (n : Nat) (b : Sts) (σ : Sl) (h : Heap), exes g b σ h = (exes g (takeS n b) σ h).bind fun f h => f.go h (exes g (dropS n b))
  | 0, b, σ, h => by simp [takeS, dropS]
  | n + 1, .nil, σ, h => by simp [takeS, dropS]
  | n + 1, .cons st b, σ, h => by
    simp only [takeS, dropS, exes_cons]
    cases exe g st σ h with
    | ok f h1 =>
      cases f with
      | nx σ' => simp only [Res.bind_ok, Fl.go_nx]; exact exes_cut n b σ' h1
      | rt v => rfl
      | ex c fs σ' => rfl
    | exc c fs h1 => rfl
    | bad => rfl
/-- the box as it is made -/
theorem Bx.bs {n : Nat} {h : Heap} (B : Bx n 0 h) : ∃ s : VS, Bxs 0 s ∧ BxS (some n) s h := by
  obtain ⟨x, y, z, e, hx, hy0, hy, hz0, hz⟩ := B
  refine ⟨some ⟨x, y, z, 0, hx, ⟨hy0, hy⟩, ⟨hz0, by omega⟩⟩, ⟨_, rfl, Nat.le_refl _⟩, fun β e' => ?_⟩
  cases e'
  exact ⟨n, rfl, e⟩
/-- the law's slots: the script at the first place -/
def Scr (m : Nat) (σ : Sl) : Prop := σ.length = m ∧ σ[0]? = some (some .scr)
def VScr (m : Nat) (τ : VSl) : Prop := τ.length = m ∧ τ[0]? = some (some .scr)
theorem VScr.scr {M A Y : List Nat} {b : Option Nat} {h : Heap} {σ : Sl} {τ : VSl} {m : Nat} (v : VScr m τ) (R : VSR M A Y b h σ τ) : Scr m σ := ⟨R.len.symm.trans v.1, R.scr 0 v.2⟩
theorem Scr.ex {m : Nat} {σ : Sl} (s : Scr (m + 1) σ) : ∃ r : Sl, r.length = m ∧ σ = some .scr :: r := by
  obtain ⟨h1, h2⟩ := s
  cases σ with
  | nil => cases h1
  | cons x r =>
    simp at h1 h2
    exact ⟨r, h1, by rw [h2]⟩
theorem len_s {α : Type} {m : Nat} {l : List α} (h : l.length = m + 1) : ∃ x r, r.length = m ∧ l = x :: r := by
  cases l with
  | nil => cases h
  | cons x r => exact ⟨x, r, by simpa using h, rfl⟩
theorem len_z {α : Type} {l : List α} (h : l.length = 0) : l = [] := List.eq_nil_of_length_eq_zero h
end Mi


/-! # the defs of shelvesmoved_k49_whole_no_cart_less in Mi, printed by gen.py -/
namespace Mi
open PySem PySem.Spec PyProof.Rows L2
def z0 : Str := "carts"
def z1 : Str := "never"
def top (i : Nat) : Stmt := PySem.Challenge.pw_shelvesmoved_k49_whole_no_cart_less.main.body.getD i (.Pass ⟨0, 0, 0, 0⟩)
/-- is_whole(thing, low, high); slots: thing=0 low=1 high=2 -/
abbrev s0 : Stmt := top 7
abbrev N0 : List Str := ["thing", "low", "high"]
def b0 : Sts := .cons (.ret (.and (.pri .isinst (.cons (.var 0) (.cons (.cst (.ty "int")) (.nil)))) (.and (.not (.pri .isinst (.cons (.var 0) (.cons (.cst (.ty "bool")) (.nil))))) (.chn .le .le (.var 1) (.var 0) (.var 2))))) (.nil)
def d0 : Def := ⟨3, 3, [], b0⟩
/-- are_few(thing, most); slots: thing=0 most=1 -/
abbrev s1 : Stmt := top 12
abbrev N1 : List Str := ["thing", "most"]
def b1 : Sts := .cons (.ret (.and (.pri .isinst (.cons (.var 0) (.cons (.tup (.cons (.cst (.ty "list")) (.cons (.cst (.ty "tuple")) (.nil)))) (.nil)))) (.bin .le (.pri .len (.cons (.var 0) (.nil))) (.var 1)))) (.nil)
def d1 : Def := ⟨2, 2, [], b1⟩
/-- is_window(thing); slots: thing=0 -/
abbrev s2 : Stmt := top 13
abbrev N2 : List Str := ["thing"]
def b2 : Sts := .cons (.ite (.or (.not (.pri .isinst (.cons (.var 0) (.cons (.cst (.ty "tuple")) (.nil))))) (.or (.bin .ne (.pri .len (.cons (.var 0) (.nil))) (.cst (.int 2))) (.not (.cal 0 (.cons (.idx (.var 0) (.cst (.int 0))) (.cons (.cst (.int 1)) (.cons (.glb 2) (.nil)))))))) (.cons (.ret (.cst (.bl false))) (.nil)) (.nil)) (.cons (.ret (.cal 0 (.cons (.idx (.var 0) (.cst (.int 1))) (.cons (.idx (.var 0) (.cst (.int 0))) (.cons (.glb 2) (.nil)))))) (.nil))
def d2 : Def := ⟨1, 1, [], b2⟩
/-- need_days(counts, windows, days); slots: counts=0 windows=1 days=2 one=3 window=4 -/
abbrev s3 : Stmt := top 14
abbrev N3 : List Str := ["counts", "windows", "days", "one", "window"]
def b3 : Sts := .cons (.ite (.or (.not (.cal 1 (.cons (.var 0) (.cons (.glb 1) (.nil))))) (.not (.pri .all (.cons (.lc (.cal 0 (.cons (.var 3) (.cons (.cst (.int 0)) (.cons (.glb 0) (.nil))))) (.nm 3) .val (.cons (.var 0) .nil) [3] (.none)) (.nil))))) (.cons (.rse 0 ["found"] (.cons (.var 0) (.nil))) (.nil)) (.nil)) (.cons (.ite (.or (.not (.cal 1 (.cons (.var 1) (.cons (.glb 1) (.nil))))) (.not (.pri .all (.cons (.lc (.cal 2 (.cons (.var 3) (.nil))) (.nm 3) .val (.cons (.var 1) .nil) [3] (.none)) (.nil))))) (.cons (.rse 0 ["found"] (.cons (.var 1) (.nil))) (.nil)) (.nil)) (.cons (.ite (.not (.cal 0 (.cons (.var 2) (.cons (.cst (.int 1)) (.cons (.glb 2) (.nil)))))) (.cons (.rse 1 ["found"] (.cons (.var 2) (.nil))) (.nil)) (.nil)) (.cons (.ite (.bin .ne (.pri .len (.cons (.var 0) (.nil))) (.pri .len (.cons (.var 1) (.nil)))) (.cons (.rse 2 ["found"] (.cons (.var 1) (.nil))) (.nil)) (.nil)) (.cons (.frr (.nm 4) .val (.cons (.var 1) .nil) (.cons (.ite (.bin .gt (.idx (.var 4) (.cst (.int 1))) (.var 2)) (.cons (.rse 3 ["found"] (.cons (.var 4) (.nil))) (.nil)) (.nil)) (.nil))) (.nil)))))
def d3 : Def := ⟨3, 5, [], b3⟩
/-- spans_of(counts, windows); slots: counts=0 windows=1 lasts=2 last=3 many=4 window=5 found=6 first=7 -/
abbrev s4 : Stmt := top 15
abbrev N4 : List Str := ["counts", "windows", "lasts", "last", "many", "window", "found", "first"]
def b4 : Sts := .cons (.asg (.nm 2) (.lst (.nil))) (.cons (.asg (.nm 3) (.glb 2)) (.cons (.frr (.tp [4, 5]) .rev (.cons (.lz (.cons (.var 0) (.cons (.var 1) (.nil)))) .nil) (.cons (.ite (.bin .gt (.var 4) (.cst (.int 0))) (.cons (.asg (.nm 3) (.pri .min (.cons (.var 3) (.cons (.idx (.var 5) (.cst (.int 1))) (.nil))))) (.nil)) (.nil)) (.cons (.exp (.met .insert (.var 2) (.cons (.cst (.int 0)) (.cons (.var 3) (.nil))))) (.nil)))) (.cons (.asg (.nm 6) (.lst (.nil))) (.cons (.asg (.nm 7) (.cst (.int 1))) (.cons (.frr (.tp [4, 5, 3]) .zip3 (.cons (.var 0) (.cons (.var 1) (.cons (.var 2) (.nil)))) (.cons (.ite (.bin .gt (.var 4) (.cst (.int 0))) (.cons (.asg (.nm 7) (.pri .max (.cons (.var 7) (.cons (.idx (.var 5) (.cst (.int 0))) (.nil))))) (.cons (.exp (.met .append (.var 6) (.cons (.tup (.cons (.var 7) (.cons (.var 3) (.nil)))) (.nil)))) (.nil))) (.cons (.exp (.met .append (.var 6) (.cons (.cst .non) (.nil)))) (.nil))) (.nil))) (.cons (.ret (.var 6)) (.nil)))))))
def d4 : Def := ⟨2, 8, [], b4⟩
/-- crossed(counts, windows); slots: counts=0 windows=1 other=2 last=3 one=4 -/
abbrev s5 : Stmt := top 16
abbrev N5 : List Str := ["counts", "windows", "other", "last", "one"]
def b5 : Sts := .cons (.frr (.tp [2, 3]) .enum (.cons (.var 1) (.nil)) (.cons (.frr (.nm 4) .rng1 (.cons (.var 2) (.nil)) (.cons (.ite (.and (.bin .gt (.idx (.var 0) (.var 4)) (.cst (.int 0))) (.and (.bin .gt (.idx (.var 0) (.var 2)) (.cst (.int 0))) (.bin .gt (.idx (.idx (.var 1) (.var 4)) (.cst (.int 0))) (.idx (.var 3) (.cst (.int 1)))))) (.cons (.ret (.tup (.cons (.var 4) (.cons (.var 2) (.nil))))) (.nil)) (.nil)) (.nil))) (.nil))) (.cons (.ret (.cst .non)) (.nil))
def d5 : Def := ⟨2, 5, [], b5⟩
/-- within(counts, spans, begin, end); slots: counts=0 spans=1 begin=2 end=3 found=4 many=5 span=6 -/
abbrev s6 : Stmt := top 17
abbrev N6 : List Str := ["counts", "spans", "begin", "end", "found", "many", "span"]
def b6 : Sts := .cons (.asg (.nm 4) (.cst (.int 0))) (.cons (.frr (.tp [5, 6]) .zip (.cons (.var 0) (.cons (.var 1) (.nil))) (.cons (.ite (.and (.bin .isnot (.var 6) (.cst .non)) (.and (.bin .le (.var 2) (.idx (.var 6) (.cst (.int 0)))) (.bin .le (.idx (.var 6) (.cst (.int 1))) (.var 3)))) (.cons (.aug .add 4 (.var 5)) (.nil)) (.nil)) (.nil))) (.cons (.ret (.var 4)) (.nil)))
def d6 : Def := ⟨4, 7, [], b6⟩
/-- days_of(counts, spans, carts); slots: counts=0 spans=1 carts=2 found=3 day=4 gone=5 many=6 span=7 turn=8 -/
abbrev s7 : Stmt := top 18
abbrev N7 : List Str := ["counts", "spans", "carts", "found", "day", "gone", "many", "span", "turn"]
def b7 : Sts := .cons (.asg (.nm 3) (.lst (.nil))) (.cons (.asg (.tp [4, 5]) (.tup (.cons (.cst (.int 1)) (.cons (.cst (.int 0)) (.nil))))) (.cons (.frr (.tp [6, 7]) .zip (.cons (.var 0) (.cons (.var 1) (.nil))) (.cons (.frr (.nm 8) .rng1 (.cons (.var 6) (.nil)) (.cons (.ite (.bin .lt (.var 4) (.idx (.var 7) (.cst (.int 0)))) (.cons (.par [4, 5] (.cons (.idx (.var 7) (.cst (.int 0))) (.cons (.cst (.int 0)) (.nil)))) (.nil)) (.nil)) (.cons (.ite (.bin .eq (.var 5) (.var 2)) (.cons (.par [4, 5] (.cons (.bin .add (.var 4) (.cst (.int 1))) (.cons (.cst (.int 0)) (.nil)))) (.nil)) (.nil)) (.cons (.aug .add 5 (.cst (.int 1))) (.cons (.exp (.met .append (.var 3) (.cons (.var 4) (.nil)))) (.nil)))))) (.nil))) (.cons (.ret (.var 3)) (.nil))))
def d7 : Def := ⟨3, 9, [], b7⟩
/-- fewest_carts(counts, windows, days); slots: counts=0 windows=1 days=2 paper=3 spans=4 carts=5 begin=6 end=7 need=8 rest=9 -/
abbrev s8 : Stmt := top 19
abbrev N8 : List Str := ["counts", "windows", "days", "paper", "spans", "carts", "begin", "end", "need", "rest"]
def b8 : Sts := .cons (.exp (.cal 3 (.cons (.var 0) (.cons (.var 1) (.cons (.var 2) (.nil)))))) (.cons (.asg (.nm 3) (.cal 5 (.cons (.var 0) (.cons (.var 1) (.nil))))) (.cons (.ite (.bin .isnot (.var 3) (.cst .non)) (.cons (.ret (.tup (.cons (.cst (.str z1)) (.cons (.var 3) (.nil))))) (.nil)) (.nil)) (.cons (.asg (.nm 4) (.cal 4 (.cons (.var 0) (.cons (.var 1) (.nil))))) (.cons (.asg (.nm 5) (.cst (.int 0))) (.cons (.frr (.nm 6) .rng2 (.cons (.cst (.int 1)) (.cons (.bin .add (.var 2) (.cst (.int 1))) (.nil))) (.cons (.frr (.nm 7) .rng2 (.cons (.var 6) (.cons (.bin .add (.var 2) (.cst (.int 1))) (.nil))) (.cons (.asg (.tp [8, 9]) (.pri .divmod (.cons (.cal 6 (.cons (.var 0) (.cons (.var 4) (.cons (.var 6) (.cons (.var 7) (.nil)))))) (.cons (.bin .add (.bin .sub (.var 7) (.var 6)) (.cst (.int 1))) (.nil))))) (.cons (.ite (.bin .gt (.bin .add (.var 8) (.pri .int (.cons (.bin .gt (.var 9) (.cst (.int 0))) (.nil)))) (.var 5)) (.cons (.asg (.nm 5) (.bin .add (.var 8) (.pri .int (.cons (.bin .gt (.var 9) (.cst (.int 0))) (.nil))))) (.cons (.asg (.nm 3) (.tup (.cons (.var 6) (.cons (.var 7) (.nil))))) (.nil))) (.nil)) (.nil)))) (.nil))) (.cons (.ret (.tup (.cons (.cst (.str z0)) (.cons (.var 5) (.cons (.cal 7 (.cons (.var 0) (.cons (.var 4) (.cons (.var 5) (.nil))))) (.cons (.var 3) (.nil))))))) (.nil)))))))
def d8 : Def := ⟨3, 10, [], b8⟩
/-- _law_cell(script, k); slots: script=0 k=1 -/
abbrev s9 : Stmt := top 21
abbrev N9 : List Str := ["script", "k"]
def b9 : Sts := .cons (.ite (.bin .lt (.var 1) (.pri .len (.cons (.var 0) (.nil)))) (.cons (.ret (.idx (.var 0) (.var 1))) (.nil)) (.nil)) (.cons (.ret (.bin .add (.bin .mul (.cst (.int 104729)) (.var 1)) (.cst (.int 71)))) (.nil))
def d9 : Def := ⟨2, 2, [], b9⟩
/-- _law_bag(cell); slots: cell=0 -/
abbrev s10 : Stmt := top 22
abbrev N10 : List Str := ["cell"]
def b10 : Sts := .cons (.ret (.lst (.cons (.pri .max (.cons (.cst (.int 0)) (.cons (.bin .sub (.var 0) (.bin .pow (.cst (.int 10)) (.cst (.int 18)))) (.nil)))) (.cons (.bin .mod (.var 0) (.cst (.int 2147483629))) (.cons (.cst (.int 0)) (.nil)))))) (.nil)
def d10 : Def := ⟨1, 1, [], b10⟩
/-- _law_take(bag, many); slots: bag=0 many=1 digit=2 number=3 -/
abbrev s11 : Stmt := top 23
abbrev N11 : List Str := ["bag", "many", "digit", "number"]
def b11 : Sts := .cons (.ite (.bin .gt (.idx (.var 0) (.cst (.int 0))) (.cst (.int 0))) (.cons (.asg (.nm 2) (.bin .mod (.idx (.var 0) (.cst (.int 0))) (.var 1))) (.cons (.sti (.var 0) (.cst (.int 0)) (.bin .fdiv (.idx (.var 0) (.cst (.int 0))) (.var 1))) (.cons (.ret (.var 2)) (.nil)))) (.nil)) (.cons (.sti (.var 0) (.cst (.int 2)) (.bin .add (.idx (.var 0) (.cst (.int 2))) (.cst (.int 1)))) (.cons (.asg (.nm 3) (.bin .mod (.bin .pow (.bin .add (.bin .add (.idx (.var 0) (.cst (.int 1))) (.bin .mul (.cst (.int 7919)) (.idx (.var 0) (.cst (.int 2))))) (.cst (.int 49))) (.cst (.int 5))) (.cst (.int 2147483647)))) (.cons (.asg (.nm 3) (.bin .mod (.bin .pow (.bin .add (.var 3) (.bin .mul (.cst (.int 15485863)) (.idx (.var 0) (.cst (.int 2))))) (.cst (.int 3))) (.cst (.int 2147483587)))) (.cons (.ret (.bin .mod (.bin .fdiv (.var 3) (.cst (.int 16))) (.var 1))) (.nil)))))
def d11 : Def := ⟨2, 4, [], b11⟩
/-- _law_row(bag); slots: bag=0 days=1 counts=2 windows=3 k=4 one=5 other=6 -/
abbrev s12 : Stmt := top 24
abbrev N12 : List Str := ["bag", "days", "counts", "windows", "k", "one", "other"]
def b12 : Sts := .cons (.asg (.nm 1) (.bin .add (.cst (.int 1)) (.cal 11 (.cons (.var 0) (.cons (.cst (.int 4)) (.nil)))))) (.cons (.asg (.nm 2) (.lst (.nil))) (.cons (.asg (.nm 3) (.lst (.nil))) (.cons (.frr (.nm 4) .rng1 (.cons (.bin .add (.cst (.int 1)) (.cal 11 (.cons (.var 0) (.cons (.cst (.int 4)) (.nil))))) (.nil)) (.cons (.exp (.met .append (.var 2) (.cons (.pri .min (.cons (.cal 11 (.cons (.var 0) (.cons (.cst (.int 3)) (.nil)))) (.cons (.bin .sub (.cst (.int 6)) (.pri .sum (.cons (.var 2) (.nil)))) (.nil)))) (.nil)))) (.cons (.asg (.nm 5) (.bin .add (.cst (.int 1)) (.cal 11 (.cons (.var 0) (.cons (.var 1) (.nil)))))) (.cons (.asg (.nm 6) (.bin .add (.cst (.int 1)) (.cal 11 (.cons (.var 0) (.cons (.var 1) (.nil)))))) (.cons (.exp (.met .append (.var 3) (.cons (.tup (.cons (.pri .min (.cons (.var 5) (.cons (.var 6) (.nil)))) (.cons (.pri .max (.cons (.var 5) (.cons (.var 6) (.nil)))) (.nil)))) (.nil)))) (.nil)))))) (.cons (.ret (.lst (.cons (.var 2) (.cons (.var 3) (.cons (.var 1) (.nil)))))) (.nil)))))
def d12 : Def := ⟨1, 7, [], b12⟩
/-- _law_all_days(counts, windows); slots: counts=0 windows=1 found=2 many=3 window=4 turn=5 longer=6 row=7 begun=8 day=9 -/
abbrev s13 : Stmt := top 25
abbrev N13 : List Str := ["counts", "windows", "found", "many", "window", "turn", "longer", "row", "begun", "day"]
def b13 : Sts := .cons (.asg (.nm 2) (.lst (.cons (.lst (.nil)) (.nil)))) (.cons (.frr (.tp [3, 4]) .zip (.cons (.var 0) (.cons (.var 1) (.nil))) (.cons (.frr (.nm 5) .rng1 (.cons (.var 3) (.nil)) (.cons (.asg (.nm 6) (.lst (.nil))) (.cons (.frr (.nm 7) .val (.cons (.var 2) .nil) (.cons (.asg (.nm 8) (.pri .max (.cons (.bin .add (.lst (.cons (.idx (.var 4) (.cst (.int 0))) (.nil))) (.slc (.var 7) (.some (.neg (.cst (.int 1)))) (.none))) (.nil)))) (.cons (.exp (.met .extend (.var 6) (.cons (.lc (.bin .add (.var 7) (.lst (.cons (.var 9) (.nil)))) (.nm 9) .rng2 (.cons (.var 8) (.cons (.bin .add (.idx (.var 4) (.cst (.int 1))) (.cst (.int 1))) (.nil))) [9] (.none)) (.nil)))) (.nil)))) (.cons (.asg (.nm 2) (.var 6)) (.nil))))) (.nil))) (.cons (.ret (.var 2)) (.nil)))
def d13 : Def := ⟨2, 10, [], b13⟩
/-- _law_most(row); slots: row=0 day=1 -/
abbrev s14 : Stmt := top 26
abbrev N14 : List Str := ["row", "day"]
def b14 : Sts := .cons (.ret (.pri .max (.cons (.bin .add (.lst (.cons (.cst (.int 0)) (.nil))) (.lc (.met .count (.var 0) (.cons (.var 1) (.nil))) (.nm 1) .val (.cons (.var 0) .nil) [1] (.none))) (.nil)))) (.nil)
def d14 : Def := ⟨1, 2, [], b14⟩
/-- _law_right(counts, windows, days); slots: counts=0 windows=1 days=2 told=3 rows=4 least=5 row=6 good=7 k=8 day=9 -/
abbrev s15 : Stmt := top 27
abbrev N15 : List Str := ["counts", "windows", "days", "told", "rows", "least", "row", "good", "k", "day"]
def b15 : Sts := .cons (.asg (.nm 3) (.cal 8 (.cons (.var 0) (.cons (.var 1) (.cons (.var 2) (.nil)))))) (.cons (.asg (.nm 4) (.cal 13 (.cons (.var 0) (.cons (.var 1) (.nil))))) (.cons (.ite (.bin .eq (.var 4) (.lst (.nil))) (.cons (.ret (.and (.bin .eq (.idx (.var 3) (.cst (.int 0))) (.cst (.str z1))) (.bin .eq (.pri .len (.cons (.var 3) (.nil))) (.cst (.int 2))))) (.nil)) (.nil)) (.cons (.ite (.or (.bin .ne (.idx (.var 3) (.cst (.int 0))) (.cst (.str z0))) (.or (.bin .ne (.pri .len (.cons (.var 3) (.nil))) (.cst (.int 4))) (.bin .notin (.idx (.var 3) (.cst (.int 2))) (.var 4)))) (.cons (.ret (.cst (.bl false))) (.nil)) (.nil)) (.cons (.asg (.nm 5) (.pri .min (.cons (.lc (.cal 14 (.cons (.var 6) (.nil))) (.nm 6) .val (.cons (.var 4) .nil) [6] (.none)) (.nil)))) (.cons (.ite (.or (.bin .ne (.pri .repr (.cons (.idx (.var 3) (.cst (.int 1))) (.nil))) (.pri .repr (.cons (.var 5) (.nil)))) (.bin .ne (.cal 14 (.cons (.idx (.var 3) (.cst (.int 2))) (.nil))) (.var 5))) (.cons (.ret (.cst (.bl false))) (.nil)) (.nil)) (.cons (.asg (.nm 7) (.lc (.var 6) (.nm 6) .val (.cons (.var 4) .nil) [6] (.some (.bin .eq (.cal 14 (.cons (.var 6) (.nil))) (.var 5))))) (.cons (.ret (.bin .eq (.lc (.var 6) (.nm 6) .val (.cons (.var 7) .nil) [6] (.some (.bin .ne (.lc (.var 8) (.tp [8, 9]) .enum (.cons (.var 6) (.nil)) [8, 9] (.some (.bin .lt (.var 9) (.idx (.idx (.var 3) (.cst (.int 2))) (.var 8))))) (.lst (.nil))))) (.lst (.nil)))) (.nil))))))))
def d15 : Def := ⟨3, 10, [], b15⟩
/-- law(script); slots: script=0 k=1 bag=2 lap=3 counts=4 windows=5 days=6 -/
abbrev s16 : Stmt := top 28
abbrev N16 : List Str := ["script", "k", "bag", "lap", "counts", "windows", "days"]
def b16 : Sts := .cons (.frr (.nm 1) .rng1 (.cons (.pri .max (.cons (.cst (.int 2)) (.cons (.pri .min (.cons (.cst (.int 5)) (.cons (.pri .len (.cons (.var 0) (.nil))) (.nil)))) (.nil)))) (.nil)) (.cons (.asg (.nm 2) (.cal 10 (.cons (.cal 9 (.cons (.var 0) (.cons (.var 1) (.nil)))) (.nil)))) (.cons (.frr (.nm 3) .rng1 (.cons (.cst (.int 3)) (.nil)) (.cons (.asg (.tp [4, 5, 6]) (.cal 12 (.cons (.var 2) (.nil)))) (.cons (.ite (.not (.cal 15 (.cons (.var 4) (.cons (.var 5) (.cons (.var 6) (.nil)))))) (.cons (.ret (.cst (.bl false))) (.nil)) (.nil)) (.nil)))) (.nil)))) (.cons (.ret (.cst (.bl true))) (.nil))
def d16 : Def := ⟨1, 7, [], b16⟩
def clsM : Stmt → Stmt
  | .ClassDef _ _ _ body _ _ _ _ _ _ _ => body.getD 0 (.Pass ⟨0, 0, 0, 0⟩)
  | _ => .Pass ⟨0, 0, 0, 0⟩
abbrev sI_ShelvesError : Stmt := clsM (top 1)
theorem scI_ShelvesError : FnScope ["self", "text"] ["self", "text"] (defScope sI_ShelvesError) := ⟨rfl, rfl, rfl, by decide +kernel, rfl, by decide +kernel, by decide +kernel⟩
abbrev sI_NoList : Stmt := clsM (top 3)
theorem scI_NoList : FnScope ["self", "found"] ["self", "found"] (defScope sI_NoList) := ⟨rfl, rfl, rfl, by decide +kernel, rfl, by decide +kernel, by decide +kernel⟩
abbrev sI_NoNumber : Stmt := clsM (top 2)
theorem scI_NoNumber : FnScope ["self", "found"] ["self", "found"] (defScope sI_NoNumber) := ⟨rfl, rfl, rfl, by decide +kernel, rfl, by decide +kernel, by decide +kernel⟩
abbrev sI_Unlike : Stmt := clsM (top 5)
theorem scI_Unlike : FnScope ["self", "found"] ["self", "found"] (defScope sI_Unlike) := ⟨rfl, rfl, rfl, by decide +kernel, rfl, by decide +kernel, by decide +kernel⟩
abbrev sI_Outside : Stmt := clsM (top 4)
theorem scI_Outside : FnScope ["self", "found"] ["self", "found"] (defScope sI_Outside) := ⟨rfl, rfl, rfl, by decide +kernel, rfl, by decide +kernel, by decide +kernel⟩
def D : Nat → Option Def
  | 0 => some d0
  | 1 => some d1
  | 2 => some d2
  | 3 => some d3
  | 4 => some d4
  | 5 => some d5
  | 6 => some d6
  | 7 => some d7
  | 8 => some d8
  | 9 => some d9
  | 10 => some d10
  | 11 => some d11
  | 12 => some d12
  | 13 => some d13
  | 14 => some d14
  | 15 => some d15
  | 16 => some d16
  | _ => none
def gl : Nat → Option Val
  | 0 => some (.int 60)
  | 1 => some (.int 12)
  | 2 => some (.int 60)
  | _ => none
def vM : Nat → List Nat
  | 4 => [2, 6]
  | 7 => [3]
  | 12 => [2, 3]
  | 13 => [6]
  | _ => []
def vF : Nat → Bool
  | 4 => true
  | 7 => true
  | 10 => true
  | 12 => true
  | _ => false
def VTb : VT := ⟨D, gl, vM, vF, ⟨11, 7919, 49, 15485863⟩⟩
theorem vtok : TOk VTb := ⟨⟨d11, rfl, rfl, rfl, rfl, rfl⟩, by decide⟩
theorem vc0 {n : Nat} {s : VS} {x0 x1 x2 : VV} : vcalls VTb (n + 1) 0 [x0, x1, x2] s = (vexes ⟨vcalls VTb n, gl, [], vF, false⟩ b0 [some x0, some x1, some x2] s).fin := rfl
theorem vc1 {n : Nat} {s : VS} {x0 x1 : VV} : vcalls VTb (n + 1) 1 [x0, x1] s = (vexes ⟨vcalls VTb n, gl, [], vF, false⟩ b1 [some x0, some x1] s).fin := rfl
theorem vc2 {n : Nat} {s : VS} {x0 : VV} : vcalls VTb (n + 1) 2 [x0] s = (vexes ⟨vcalls VTb n, gl, [], vF, false⟩ b2 [some x0] s).fin := rfl
theorem vc3 {n : Nat} {s : VS} {x0 x1 x2 : VV} : vcalls VTb (n + 1) 3 [x0, x1, x2] s = (vexes ⟨vcalls VTb n, gl, [], vF, false⟩ b3 [some x0, some x1, some x2, none, none] s).fin := rfl
theorem vc4 {n : Nat} {s : VS} {x0 x1 : VV} : vcalls VTb (n + 1) 4 [x0, x1] s = (vexes ⟨vcalls VTb n, gl, [2, 6], vF, true⟩ b4 [some x0, some x1, none, none, none, none, none, none] s).fin := rfl
theorem vc5 {n : Nat} {s : VS} {x0 x1 : VV} : vcalls VTb (n + 1) 5 [x0, x1] s = (vexes ⟨vcalls VTb n, gl, [], vF, false⟩ b5 [some x0, some x1, none, none, none] s).fin := rfl
theorem vc6 {n : Nat} {s : VS} {x0 x1 x2 x3 : VV} : vcalls VTb (n + 1) 6 [x0, x1, x2, x3] s = (vexes ⟨vcalls VTb n, gl, [], vF, false⟩ b6 [some x0, some x1, some x2, some x3, none, none, none] s).fin := rfl
theorem vc7 {n : Nat} {s : VS} {x0 x1 x2 : VV} : vcalls VTb (n + 1) 7 [x0, x1, x2] s = (vexes ⟨vcalls VTb n, gl, [3], vF, true⟩ b7 [some x0, some x1, some x2, none, none, none, none, none, none] s).fin := rfl
theorem vc8 {n : Nat} {s : VS} {x0 x1 x2 : VV} : vcalls VTb (n + 1) 8 [x0, x1, x2] s = (vexes ⟨vcalls VTb n, gl, [], vF, false⟩ b8 [some x0, some x1, some x2, none, none, none, none, none, none, none] s).fin := rfl
theorem vc9 {n : Nat} {s : VS} {x0 x1 : VV} : vcalls VTb (n + 1) 9 [x0, x1] s = (vexes ⟨vcalls VTb n, gl, [], vF, false⟩ b9 [some x0, some x1] s).fin := rfl
theorem vc10 {n : Nat} {s : VS} {x0 : VV} : vcalls VTb (n + 1) 10 [x0] s = (vexes ⟨vcalls VTb n, gl, [], vF, true⟩ b10 [some x0] s).fin := rfl
theorem vc12 {n : Nat} {s : VS} {x0 : VV} : vcalls VTb (n + 1) 12 [x0] s = (vexes ⟨vcalls VTb n, gl, [2, 3], vF, true⟩ b12 [some x0, none, none, none, none, none, none] s).fin := rfl
theorem vc13 {n : Nat} {s : VS} {x0 x1 : VV} : vcalls VTb (n + 1) 13 [x0, x1] s = (vexes ⟨vcalls VTb n, gl, [6], vF, false⟩ b13 [some x0, some x1, none, none, none, none, none, none, none, none] s).fin := rfl
theorem vc14 {n : Nat} {s : VS} {x0 : VV} : vcalls VTb (n + 1) 14 [x0] s = (vexes ⟨vcalls VTb n, gl, [], vF, false⟩ b14 [some x0, none] s).fin := rfl
theorem vc15 {n : Nat} {s : VS} {x0 x1 x2 : VV} : vcalls VTb (n + 1) 15 [x0, x1, x2] s = (vexes ⟨vcalls VTb n, gl, [], vF, false⟩ b15 [some x0, some x1, some x2, none, none, none, none, none, none, none] s).fin := rfl
theorem vc16 {n : Nat} {s : VS} {x0 : VV} : vcalls VTb (n + 1) 16 [x0] s = (vexes ⟨vcalls VTb n, gl, [], vF, false⟩ b16 [some x0, none, none, none, none, none, none] s).fin := rfl
theorem sc0 : FnScope N0 ["thing", "low", "high"] (defScope s0) := ⟨rfl, rfl, rfl, by decide +kernel, rfl, by decide +kernel, by decide +kernel⟩
theorem sc1 : FnScope N1 ["thing", "most"] (defScope s1) := ⟨rfl, rfl, rfl, by decide +kernel, rfl, by decide +kernel, by decide +kernel⟩
theorem sc2 : FnScope N2 ["thing"] (defScope s2) := ⟨rfl, rfl, rfl, by decide +kernel, rfl, by decide +kernel, by decide +kernel⟩
theorem sc3 : FnScope N3 ["counts", "windows", "days"] (defScope s3) := ⟨rfl, rfl, rfl, by decide +kernel, rfl, by decide +kernel, by decide +kernel⟩
theorem sc4 : FnScope N4 ["counts", "windows"] (defScope s4) := ⟨rfl, rfl, rfl, by decide +kernel, rfl, by decide +kernel, by decide +kernel⟩
theorem sc5 : FnScope N5 ["counts", "windows"] (defScope s5) := ⟨rfl, rfl, rfl, by decide +kernel, rfl, by decide +kernel, by decide +kernel⟩
theorem sc6 : FnScope N6 ["counts", "spans", "begin", "end"] (defScope s6) := ⟨rfl, rfl, rfl, by decide +kernel, rfl, by decide +kernel, by decide +kernel⟩
theorem sc7 : FnScope N7 ["counts", "spans", "carts"] (defScope s7) := ⟨rfl, rfl, rfl, by decide +kernel, rfl, by decide +kernel, by decide +kernel⟩
theorem sc8 : FnScope N8 ["counts", "windows", "days"] (defScope s8) := ⟨rfl, rfl, rfl, by decide +kernel, rfl, by decide +kernel, by decide +kernel⟩
theorem sc9 : FnScope N9 ["script", "k"] (defScope s9) := ⟨rfl, rfl, rfl, by decide +kernel, rfl, by decide +kernel, by decide +kernel⟩
theorem sc10 : FnScope N10 ["cell"] (defScope s10) := ⟨rfl, rfl, rfl, by decide +kernel, rfl, by decide +kernel, by decide +kernel⟩
theorem sc11 : FnScope N11 ["bag", "many"] (defScope s11) := ⟨rfl, rfl, rfl, by decide +kernel, rfl, by decide +kernel, by decide +kernel⟩
theorem sc12 : FnScope N12 ["bag"] (defScope s12) := ⟨rfl, rfl, rfl, by decide +kernel, rfl, by decide +kernel, by decide +kernel⟩
theorem sc13 : FnScope N13 ["counts", "windows"] (defScope s13) := ⟨rfl, rfl, rfl, by decide +kernel, rfl, by decide +kernel, by decide +kernel⟩
theorem sc14 : FnScope N14 ["row"] (defScope s14) := ⟨rfl, rfl, rfl, by decide +kernel, rfl, by decide +kernel, by decide +kernel⟩
theorem sc15 : FnScope N15 ["counts", "windows", "days"] (defScope s15) := ⟨rfl, rfl, rfl, by decide +kernel, rfl, by decide +kernel, by decide +kernel⟩
theorem sc16 : FnScope N16 ["script"] (defScope s16) := ⟨rfl, rfl, rfl, by decide +kernel, rfl, by decide +kernel, by decide +kernel⟩
/-- what stands fast for every def -/
structure Tx (P : Program) (w : World) (K : PySem.W.Frag) (mg : Str → Option Value) (base : PySem.Heap) (t : Th) (k : Nat) : Prop where
  sm : ∃ mm, base.Ns sysModules mm
  px : t.ex = none
  r_NoList : CE P w K mg base t "NoList" 0 ["found"]
  r_NoNumber : CE P w K mg base t "NoNumber" 1 ["found"]
  r_Unlike : CE P w K mg base t "Unlike" 2 ["found"]
  r_Outside : CE P w K mg base t "Outside" 3 ["found"]
  n_all : mg "all" = none
  n_bool : mg "bool" = none
  n_divmod : mg "divmod" = none
  n_enumerate : mg "enumerate" = none
  n_int : mg "int" = none
  n_isinstance : mg "isinstance" = none
  n_len : mg "len" = none
  n_list : mg "list" = none
  n_max : mg "max" = none
  n_min : mg "min" = none
  n_range : mg "range" = none
  n_repr : mg "repr" = none
  n_reversed : mg "reversed" = none
  n_sum : mg "sum" = none
  n_tuple : mg "tuple" = none
  n_zip : mg "zip" = none
  c_MOST_DAYS : ∃ u, mg "MOST_DAYS" = some (.int 60 u)
  c_MOST_GROUPS : ∃ u, mg "MOST_GROUPS" = some (.int 12 u)
  c_MOST_THINGS : ∃ u, mg "MOST_THINGS" = some (.int 60 u)
  f_is_whole : CF P w K mg base t (k + 3) "is_whole" (mOf D gl t.S k d0)
  f_are_few : CF P w K mg base t (k + 3) "are_few" (mOf D gl t.S k d1)
  f_is_window : CF P w K mg base t (k + 3) "is_window" (mOf D gl t.S k d2)
  f_need_days : CF P w K mg base t (k + 3) "need_days" (mOf D gl t.S k d3)
  f_spans_of : CF P w K mg base t (k + 3) "spans_of" (mOf D gl t.S k d4)
  f_crossed : CF P w K mg base t (k + 3) "crossed" (mOf D gl t.S k d5)
  f_within : CF P w K mg base t (k + 3) "within" (mOf D gl t.S k d6)
  f_days_of : CF P w K mg base t (k + 3) "days_of" (mOf D gl t.S k d7)
  f_fewest_carts : CF P w K mg base t (k + 3) "fewest_carts" (mOf D gl t.S k d8)
  f__law_cell : CF P w K mg base t (k + 3) "_law_cell" (mOf D gl t.S k d9)
  f__law_bag : CF P w K mg base t (k + 3) "_law_bag" (mOf D gl t.S k d10)
  f__law_take : CF P w K mg base t (k + 3) "_law_take" (mOf D gl t.S k d11)
  f__law_row : CF P w K mg base t (k + 3) "_law_row" (mOf D gl t.S k d12)
  f__law_all_days : CF P w K mg base t (k + 3) "_law_all_days" (mOf D gl t.S k d13)
  f__law_most : CF P w K mg base t (k + 3) "_law_most" (mOf D gl t.S k d14)
  f__law_right : CF P w K mg base t (k + 3) "_law_right" (mOf D gl t.S k d15)
  f_law : CF P w K mg base t (k + 3) "law" (mOf D gl t.S k d16)
section
variable {P : Program} {w : World} {K : PySem.W.Frag} {mg : Str → Option Value} {base : PySem.Heap} {t : Th} {k : Nat} {f : Addr} {cdv : Value} {A : Around} {outer : List Env} {s : Shared} {H : Hp} {E : XK}
theorem w0 (T : Tx P w K mg base t k) (O : OkC (cxOf (L2.CX P w) P w K mg base N0 "is_whole" (defScope s0) f cdv A outer s H E) t (WE E)) (hr : Room (k + 3) (A.deeper (envOfC "is_whole" (defScope s0) s.heap.objs.size f cdv))) :
    PSs (cxOf (L2.CX P w) P w K mg base N0 "is_whole" (defScope s0) f cdv A outer s H E) (defBody s0) (tS t (WE E) (exes ⟨calls D gl t.S k, gl, t.S, none⟩ b0)) :=
  ss_cons (s_ret (e_and O.ok (e_pri O.ok (cl_isinst O.hK) bt_isinstance T.n_isinstance (a_cons O.ok (e_var O.ok (i := 0)) (a_cons O.ok (e_ty O.ok rfl T.n_int bt_int) (a_nil O.ok)))) (e_and O.ok (e_not O.ok (e_pri O.ok (cl_isinst O.hK) bt_isinstance T.n_isinstance (a_cons O.ok (e_var O.ok (i := 0)) (a_cons O.ok (e_ty O.ok rfl T.n_bool bt_bool) (a_nil O.ok))))) (e_one O.ok (e_chn O.ok (q_le O.ok) (q_le O.ok) (fun _ _ _ => bB rfl) (e_var O.ok (i := 1)) (e_var O.ok (i := 0)) (e_var O.ok (i := 2))))))) (ss_nil)
theorem w1 (T : Tx P w K mg base t k) (O : OkC (cxOf (L2.CX P w) P w K mg base N1 "are_few" (defScope s1) f cdv A outer s H E) t (WE E)) (hr : Room (k + 3) (A.deeper (envOfC "are_few" (defScope s1) s.heap.objs.size f cdv))) :
    PSs (cxOf (L2.CX P w) P w K mg base N1 "are_few" (defScope s1) f cdv A outer s H E) (defBody s1) (tS t (WE E) (exes ⟨calls D gl t.S k, gl, t.S, none⟩ b1)) :=
  ss_cons (s_ret (e_and O.ok (e_pri O.ok (cl_isinst O.hK) bt_isinstance T.n_isinstance (a_cons O.ok (e_var O.ok (i := 0)) (a_cons O.ok (e_tup O.ok (a_cons O.ok (e_ty O.ok rfl T.n_list bt_list) (a_cons O.ok (e_ty O.ok rfl T.n_tuple bt_tuple) (a_nil O.ok)))) (a_nil O.ok)))) (e_one O.ok (e_cmp O.ok (q_le O.ok) (e_pri O.ok (cl_len O.hK rfl) bt_len T.n_len (a_cons O.ok (e_var O.ok (i := 0)) (a_nil O.ok))) (e_var O.ok (i := 1)) (nomark _))))) (ss_nil)
theorem w2 (T : Tx P w K mg base t k) (O : OkC (cxOf (L2.CX P w) P w K mg base N2 "is_window" (defScope s2) f cdv A outer s H E) t (WE E)) (hr : Room (k + 3) (A.deeper (envOfC "is_window" (defScope s2) s.heap.objs.size f cdv))) :
    PSs (cxOf (L2.CX P w) P w K mg base N2 "is_window" (defScope s2) f cdv A outer s H E) (defBody s2) (tS t (WE E) (exes ⟨calls D gl t.S k, gl, t.S, none⟩ b2)) :=
  ss_cons (s_ite (PW.pt (w_or O.ok (t_not O.ok (t_plain O.ok (e_pri O.ok (cl_isinst O.hK) bt_isinstance T.n_isinstance (a_cons O.ok (e_var O.ok (i := 0)) (a_cons O.ok (e_ty O.ok rfl T.n_tuple bt_tuple) (a_nil O.ok)))))) (w_or O.ok (t_cmp O.ok (q_ne O.ok) (fun _ _ _ => bB rfl) (e_pri O.ok (cl_len O.hK rfl) bt_len T.n_len (a_cons O.ok (e_var O.ok (i := 0)) (a_nil O.ok))) (e_int O.ok) (nomark _)) (w_or1 O.ok (t_not O.ok (t_plain O.ok (e_cal O.ok (T.f_is_whole.n) hr (a_cons O.ok (e_idx O.ok rfl (e_var O.ok (i := 0)) (e_int O.ok)) (a_cons O.ok (e_int O.ok) (a_cons O.ok (e_glbI O.ok rfl T.c_MOST_DAYS rfl) (a_nil O.ok)))) (calls_eq rfl rfl)))))))) (ss_cons (s_ret (e_bl O.ok)) (ss_nil)) (ss_nil)) (ss_cons (s_ret (e_cal O.ok (T.f_is_whole.n) hr (a_cons O.ok (e_idx O.ok rfl (e_var O.ok (i := 0)) (e_int O.ok)) (a_cons O.ok (e_idx O.ok rfl (e_var O.ok (i := 0)) (e_int O.ok)) (a_cons O.ok (e_glbI O.ok rfl T.c_MOST_DAYS rfl) (a_nil O.ok)))) (calls_eq rfl rfl))) (ss_nil))
theorem w3 (T : Tx P w K mg base t k) (O : OkC (cxOf (L2.CX P w) P w K mg base N3 "need_days" (defScope s3) f cdv A outer s H E) t (WE E)) (hr : Room (k + 3) (A.deeper (envOfC "need_days" (defScope s3) s.heap.objs.size f cdv))) :
    PSs (cxOf (L2.CX P w) P w K mg base N3 "need_days" (defScope s3) f cdv A outer s H E) (defBody s3) (tS t (WE E) (exes ⟨calls D gl t.S k, gl, t.S, none⟩ b3)) :=
  ss_cons (s_ite (PW.pt (w_or O.ok (t_not O.ok (t_plain O.ok (e_cal O.ok (T.f_are_few.n) hr (a_cons O.ok (e_var O.ok (i := 0)) (a_cons O.ok (e_glbI O.ok rfl T.c_MOST_GROUPS rfl) (a_nil O.ok))) (calls_eq rfl rfl)))) (w_or1 O.ok (t_not O.ok (t_plain O.ok (e_pri O.ok (cl_all O.hK O.calm) bt_all T.n_all (a_cons O.ok (e_lc O (own := [("one", 3)]) (i_val O (e_var O.ok (i := 0))) (blkOk_by (by first | (show blkC N3 (defScope s3) _ _ = true; decide +kernel) | rfl)) (by decide) (fun _ _ _ _ _ O => g_nm O.ok (j := 3)) (fun _ _ _ _ _ O => c_none) (fun _ _ _ _ _ O => e_cal O.ok (T.f_is_whole.n) hr (a_cons O.ok (e_var O.ok (i := 3)) (a_cons O.ok (e_int O.ok) (a_cons O.ok (e_glbI O.ok rfl T.c_MOST_THINGS rfl) (a_nil O.ok)))) (calls_eq rfl rfl))) (a_nil O.ok)))))))) (ss_cons (s_rse O T.r_NoList hr (a_cons O.ok (e_var O.ok (i := 0)) (a_nil O.ok))) (ss_nil)) (ss_nil)) (ss_cons (s_ite (PW.pt (w_or O.ok (t_not O.ok (t_plain O.ok (e_cal O.ok (T.f_are_few.n) hr (a_cons O.ok (e_var O.ok (i := 1)) (a_cons O.ok (e_glbI O.ok rfl T.c_MOST_GROUPS rfl) (a_nil O.ok))) (calls_eq rfl rfl)))) (w_or1 O.ok (t_not O.ok (t_plain O.ok (e_pri O.ok (cl_all O.hK O.calm) bt_all T.n_all (a_cons O.ok (e_lc O (own := [("one", 3)]) (i_val O (e_var O.ok (i := 1))) (blkOk_by (by first | (show blkC N3 (defScope s3) _ _ = true; decide +kernel) | rfl)) (by decide) (fun _ _ _ _ _ O => g_nm O.ok (j := 3)) (fun _ _ _ _ _ O => c_none) (fun _ _ _ _ _ O => e_cal O.ok (T.f_is_window.n) hr (a_cons O.ok (e_var O.ok (i := 3)) (a_nil O.ok)) (calls_eq rfl rfl))) (a_nil O.ok)))))))) (ss_cons (s_rse O T.r_NoList hr (a_cons O.ok (e_var O.ok (i := 1)) (a_nil O.ok))) (ss_nil)) (ss_nil)) (ss_cons (s_ite (t_not O.ok (t_plain O.ok (e_cal O.ok (T.f_is_whole.n) hr (a_cons O.ok (e_var O.ok (i := 2)) (a_cons O.ok (e_int O.ok) (a_cons O.ok (e_glbI O.ok rfl T.c_MOST_DAYS rfl) (a_nil O.ok)))) (calls_eq rfl rfl)))) (ss_cons (s_rse O T.r_NoNumber hr (a_cons O.ok (e_var O.ok (i := 2)) (a_nil O.ok))) (ss_nil)) (ss_nil)) (ss_cons (s_ite (t_cmp O.ok (q_ne O.ok) (fun _ _ _ => bB rfl) (e_pri O.ok (cl_len O.hK rfl) bt_len T.n_len (a_cons O.ok (e_var O.ok (i := 0)) (a_nil O.ok))) (e_pri O.ok (cl_len O.hK rfl) bt_len T.n_len (a_cons O.ok (e_var O.ok (i := 1)) (a_nil O.ok))) (nomark _)) (ss_cons (s_rse O T.r_Unlike hr (a_cons O.ok (e_var O.ok (i := 1)) (a_nil O.ok))) (ss_nil)) (ss_nil)) (ss_cons (s_frr O (i_val O (e_var O.ok (i := 1))) (g_nm O.ok (j := 4)) (ss_cons (s_ite (t_cmp O.ok (q_gt O.ok) (fun _ _ _ => bB rfl) (e_idx O.ok rfl (e_var O.ok (i := 4)) (e_int O.ok)) (e_var O.ok (i := 2)) (nomark _)) (ss_cons (s_rse O T.r_Outside hr (a_cons O.ok (e_var O.ok (i := 4)) (a_nil O.ok))) (ss_nil)) (ss_nil)) (ss_nil))) (ss_nil)))))
theorem w4 (T : Tx P w K mg base t k) (O : OkC (cxOf (L2.CX P w) P w K mg base N4 "spans_of" (defScope s4) f cdv A outer s H E) t (WE E)) (hr : Room (k + 3) (A.deeper (envOfC "spans_of" (defScope s4) s.heap.objs.size f cdv))) :
    PSs (cxOf (L2.CX P w) P w K mg base N4 "spans_of" (defScope s4) f cdv A outer s H E) (defBody s4) (tS t (WE E) (exes ⟨calls D gl t.S k, gl, t.S, none⟩ b4)) :=
  ss_cons (s_asg (e_lst O.ok (a_nil O.ok)) (g_nm O.ok (j := 2))) (ss_cons (s_asg (e_glbI O.ok rfl T.c_MOST_DAYS rfl) (g_nm O.ok (j := 3))) (ss_cons (s_frr O (i_rev O T.n_reversed (e_lz O T.n_list T.n_zip (a_cons O.ok (e_var O.ok (i := 0)) (a_cons O.ok (e_var O.ok (i := 1)) (a_nil O.ok))))) (g_tp O (gs_cons O.ok (j := 4) (gs_cons O.ok (j := 5) (gs_nil)))) (ss_cons (s_ite (t_cmp O.ok (q_gt O.ok) (fun _ _ _ => bB rfl) (e_var O.ok (i := 4)) (e_int O.ok) (nomark _)) (ss_cons (s_asg (e_pri O.ok (cl_min O.hK O.calm O.hu) bt_min T.n_min (a_cons O.ok (e_var O.ok (i := 3)) (a_cons O.ok (e_idx O.ok rfl (e_var O.ok (i := 5)) (e_int O.ok)) (a_nil O.ok)))) (g_nm O.ok (j := 3))) (ss_nil)) (ss_nil)) (ss_cons (s_exp (e_met O.ok PySem.F.plainAttrs_list PySem.F.slot_list_insert PySem.F.type_list_insert mt_insert' (e_var O.ok (i := 2)) (a_cons O.ok (e_int O.ok) (a_cons O.ok (e_var O.ok (i := 3)) (a_nil O.ok))))) (ss_nil)))) (ss_cons (s_asg (e_lst O.ok (a_nil O.ok)) (g_nm O.ok (j := 6))) (ss_cons (s_asg (e_int O.ok) (g_nm O.ok (j := 7))) (ss_cons (s_frr O (i_zip3 O T.n_zip (a_cons O.ok (e_var O.ok (i := 0)) (a_cons O.ok (e_var O.ok (i := 1)) (a_cons O.ok (e_var O.ok (i := 2)) (a_nil O.ok))))) (g_tp O (gs_cons O.ok (j := 4) (gs_cons O.ok (j := 5) (gs_cons O.ok (j := 3) (gs_nil))))) (ss_cons (s_ite (t_cmp O.ok (q_gt O.ok) (fun _ _ _ => bB rfl) (e_var O.ok (i := 4)) (e_int O.ok) (nomark _)) (ss_cons (s_asg (e_pri O.ok (cl_max O.hK O.calm O.hu) bt_max T.n_max (a_cons O.ok (e_var O.ok (i := 7)) (a_cons O.ok (e_idx O.ok rfl (e_var O.ok (i := 5)) (e_int O.ok)) (a_nil O.ok)))) (g_nm O.ok (j := 7))) (ss_cons (s_exp (e_met O.ok PySem.F.plainAttrs_list PySem.F.slot_list_append PySem.F.type_list_append mt_append' (e_var O.ok (i := 6)) (a_cons O.ok (e_tup O.ok (a_cons O.ok (e_var O.ok (i := 7)) (a_cons O.ok (e_var O.ok (i := 3)) (a_nil O.ok)))) (a_nil O.ok)))) (ss_nil))) (ss_cons (s_exp (e_met O.ok PySem.F.plainAttrs_list PySem.F.slot_list_append PySem.F.type_list_append mt_append' (e_var O.ok (i := 6)) (a_cons O.ok (e_non O.ok) (a_nil O.ok)))) (ss_nil))) (ss_nil))) (ss_cons (s_ret (e_var O.ok (i := 6))) (ss_nil)))))))
theorem w5 (T : Tx P w K mg base t k) (O : OkC (cxOf (L2.CX P w) P w K mg base N5 "crossed" (defScope s5) f cdv A outer s H E) t (WE E)) (hr : Room (k + 3) (A.deeper (envOfC "crossed" (defScope s5) s.heap.objs.size f cdv))) :
    PSs (cxOf (L2.CX P w) P w K mg base N5 "crossed" (defScope s5) f cdv A outer s H E) (defBody s5) (tS t (WE E) (exes ⟨calls D gl t.S k, gl, t.S, none⟩ b5)) :=
  ss_cons (s_frr O (i_enum O T.n_enumerate (a_cons O.ok (e_var O.ok (i := 1)) (a_nil O.ok))) (g_tp O (gs_cons O.ok (j := 2) (gs_cons O.ok (j := 3) (gs_nil)))) (ss_cons (s_frr O (i_rng1 T.n_range (a_cons O.ok (e_var O.ok (i := 2)) (a_nil O.ok))) (g_nm O.ok (j := 4)) (ss_cons (s_ite (PW.pt (w_and O.ok (t_cmp O.ok (q_gt O.ok) (fun _ _ _ => bB rfl) (e_idx O.ok rfl (e_var O.ok (i := 0)) (e_var O.ok (i := 4))) (e_int O.ok) (nomark _)) (w_and O.ok (t_cmp O.ok (q_gt O.ok) (fun _ _ _ => bB rfl) (e_idx O.ok rfl (e_var O.ok (i := 0)) (e_var O.ok (i := 2))) (e_int O.ok) (nomark _)) (w_and1 O.ok (t_cmp O.ok (q_gt O.ok) (fun _ _ _ => bB rfl) (e_idx O.ok rfl (e_idx O.ok rfl (e_var O.ok (i := 1)) (e_var O.ok (i := 4))) (e_int O.ok)) (e_idx O.ok rfl (e_var O.ok (i := 3)) (e_int O.ok)) (nomark _)))))) (ss_cons (s_ret (e_tup O.ok (a_cons O.ok (e_var O.ok (i := 4)) (a_cons O.ok (e_var O.ok (i := 2)) (a_nil O.ok))))) (ss_nil)) (ss_nil)) (ss_nil))) (ss_nil))) (ss_cons (s_ret (e_non O.ok)) (ss_nil))
theorem w6 (T : Tx P w K mg base t k) (O : OkC (cxOf (L2.CX P w) P w K mg base N6 "within" (defScope s6) f cdv A outer s H E) t (WE E)) (hr : Room (k + 3) (A.deeper (envOfC "within" (defScope s6) s.heap.objs.size f cdv))) :
    PSs (cxOf (L2.CX P w) P w K mg base N6 "within" (defScope s6) f cdv A outer s H E) (defBody s6) (tS t (WE E) (exes ⟨calls D gl t.S k, gl, t.S, none⟩ b6)) :=
  ss_cons (s_asg (e_int O.ok) (g_nm O.ok (j := 4))) (ss_cons (s_frr O (i_zip O T.n_zip (a_cons O.ok (e_var O.ok (i := 0)) (a_cons O.ok (e_var O.ok (i := 1)) (a_nil O.ok)))) (g_tp O (gs_cons O.ok (j := 5) (gs_cons O.ok (j := 6) (gs_nil)))) (ss_cons (s_ite (PW.pt (w_and O.ok (t_cmp O.ok (q_isnot O.ok) (fun _ _ _ => bB rfl) (e_var O.ok (i := 6)) (e_non O.ok) (nomark _)) (w_and O.ok (t_cmp O.ok (q_le O.ok) (fun _ _ _ => bB rfl) (e_var O.ok (i := 2)) (e_idx O.ok rfl (e_var O.ok (i := 6)) (e_int O.ok)) (nomark _)) (w_and1 O.ok (t_cmp O.ok (q_le O.ok) (fun _ _ _ => bB rfl) (e_idx O.ok rfl (e_var O.ok (i := 6)) (e_int O.ok)) (e_var O.ok (i := 3)) (nomark _)))))) (ss_cons (s_aug (j := 4) O (ip_V (.inl ⟨rfl, rfl⟩)) (e_var O.ok (i := 5))) (ss_nil)) (ss_nil)) (ss_nil))) (ss_cons (s_ret (e_var O.ok (i := 4))) (ss_nil)))
theorem w7 (T : Tx P w K mg base t k) (O : OkC (cxOf (L2.CX P w) P w K mg base N7 "days_of" (defScope s7) f cdv A outer s H E) t (WE E)) (hr : Room (k + 3) (A.deeper (envOfC "days_of" (defScope s7) s.heap.objs.size f cdv))) :
    PSs (cxOf (L2.CX P w) P w K mg base N7 "days_of" (defScope s7) f cdv A outer s H E) (defBody s7) (tS t (WE E) (exes ⟨calls D gl t.S k, gl, t.S, none⟩ b7)) :=
  ss_cons (s_asg (e_lst O.ok (a_nil O.ok)) (g_nm O.ok (j := 3))) (ss_cons (s_asg (e_tup O.ok (a_cons O.ok (e_int O.ok) (a_cons O.ok (e_int O.ok) (a_nil O.ok)))) (g_tp O (gs_cons O.ok (j := 4) (gs_cons O.ok (j := 5) (gs_nil))))) (ss_cons (s_frr O (i_zip O T.n_zip (a_cons O.ok (e_var O.ok (i := 0)) (a_cons O.ok (e_var O.ok (i := 1)) (a_nil O.ok)))) (g_tp O (gs_cons O.ok (j := 6) (gs_cons O.ok (j := 7) (gs_nil)))) (ss_cons (s_frr O (i_rng1 T.n_range (a_cons O.ok (e_var O.ok (i := 6)) (a_nil O.ok))) (g_nm O.ok (j := 8)) (ss_cons (s_ite (t_cmp O.ok (q_lt O.ok) (fun _ _ _ => bB rfl) (e_var O.ok (i := 4)) (e_idx O.ok rfl (e_var O.ok (i := 7)) (e_int O.ok)) (nomark _)) (ss_cons (s_par2 (j := 4) (k := 5) O (a_cons O.ok (e_idx O.ok rfl (e_var O.ok (i := 7)) (e_int O.ok)) (a_cons O.ok (e_int O.ok) (a_nil O.ok))) (by rfl)) (ss_nil)) (ss_nil)) (ss_cons (s_ite (t_cmp O.ok (q_eq O.ok) (fun _ _ _ => bB rfl) (e_var O.ok (i := 5)) (e_var O.ok (i := 2)) (nomark _)) (ss_cons (s_par2 (j := 4) (k := 5) O (a_cons O.ok (e_bin O.ok (q_add O.ok) (e_var O.ok (i := 4)) (e_int O.ok)) (a_cons O.ok (e_int O.ok) (a_nil O.ok))) (by rfl)) (ss_nil)) (ss_nil)) (ss_cons (s_aug (j := 5) O (ip_V (.inl ⟨rfl, rfl⟩)) (e_int O.ok)) (ss_cons (s_exp (e_met O.ok PySem.F.plainAttrs_list PySem.F.slot_list_append PySem.F.type_list_append mt_append' (e_var O.ok (i := 3)) (a_cons O.ok (e_var O.ok (i := 4)) (a_nil O.ok)))) (ss_nil)))))) (ss_nil))) (ss_cons (s_ret (e_var O.ok (i := 3))) (ss_nil))))
theorem w8 (T : Tx P w K mg base t k) (O : OkC (cxOf (L2.CX P w) P w K mg base N8 "fewest_carts" (defScope s8) f cdv A outer s H E) t (WE E)) (hr : Room (k + 3) (A.deeper (envOfC "fewest_carts" (defScope s8) s.heap.objs.size f cdv))) :
    PSs (cxOf (L2.CX P w) P w K mg base N8 "fewest_carts" (defScope s8) f cdv A outer s H E) (defBody s8) (tS t (WE E) (exes ⟨calls D gl t.S k, gl, t.S, none⟩ b8)) :=
  ss_cons (s_exp (e_cal O.ok (T.f_need_days.n) hr (a_cons O.ok (e_var O.ok (i := 0)) (a_cons O.ok (e_var O.ok (i := 1)) (a_cons O.ok (e_var O.ok (i := 2)) (a_nil O.ok)))) (calls_eq rfl rfl))) (ss_cons (s_asg (e_cal O.ok (T.f_crossed.n) hr (a_cons O.ok (e_var O.ok (i := 0)) (a_cons O.ok (e_var O.ok (i := 1)) (a_nil O.ok))) (calls_eq rfl rfl)) (g_nm O.ok (j := 3))) (ss_cons (s_ite (t_cmp O.ok (q_isnot O.ok) (fun _ _ _ => bB rfl) (e_var O.ok (i := 3)) (e_non O.ok) (nomark _)) (ss_cons (s_ret (e_tup O.ok (a_cons O.ok (e_str O.ok) (a_cons O.ok (e_var O.ok (i := 3)) (a_nil O.ok))))) (ss_nil)) (ss_nil)) (ss_cons (s_asg (e_cal O.ok (T.f_spans_of.n) hr (a_cons O.ok (e_var O.ok (i := 0)) (a_cons O.ok (e_var O.ok (i := 1)) (a_nil O.ok))) (calls_eq rfl rfl)) (g_nm O.ok (j := 4))) (ss_cons (s_asg (e_int O.ok) (g_nm O.ok (j := 5))) (ss_cons (s_frr O (i_rng2 T.n_range (a_cons O.ok (e_int O.ok) (a_cons O.ok (e_bin O.ok (q_add O.ok) (e_var O.ok (i := 2)) (e_int O.ok)) (a_nil O.ok)))) (g_nm O.ok (j := 6)) (ss_cons (s_frr O (i_rng2 T.n_range (a_cons O.ok (e_var O.ok (i := 6)) (a_cons O.ok (e_bin O.ok (q_add O.ok) (e_var O.ok (i := 2)) (e_int O.ok)) (a_nil O.ok)))) (g_nm O.ok (j := 7)) (ss_cons (s_asg (e_pri O.ok (cl_divmod) bt_divmod T.n_divmod (a_cons O.ok (e_cal O.ok (T.f_within.n) hr (a_cons O.ok (e_var O.ok (i := 0)) (a_cons O.ok (e_var O.ok (i := 4)) (a_cons O.ok (e_var O.ok (i := 6)) (a_cons O.ok (e_var O.ok (i := 7)) (a_nil O.ok))))) (calls_eq rfl rfl)) (a_cons O.ok (e_bin O.ok (q_add O.ok) (e_bin O.ok (q_sub O.ok) (e_var O.ok (i := 7)) (e_var O.ok (i := 6))) (e_int O.ok)) (a_nil O.ok)))) (g_tp O (gs_cons O.ok (j := 8) (gs_cons O.ok (j := 9) (gs_nil))))) (ss_cons (s_ite (t_cmp O.ok (q_gt O.ok) (fun _ _ _ => bB rfl) (e_bin O.ok (q_add O.ok) (e_var O.ok (i := 8)) (e_prt O.ok (cl_int) bt_int T.n_int (a_cons O.ok (e_cmp O.ok (q_gt O.ok) (e_var O.ok (i := 9)) (e_int O.ok) (nomark _)) (a_nil O.ok)))) (e_var O.ok (i := 5)) (nomark _)) (ss_cons (s_asg (e_bin O.ok (q_add O.ok) (e_var O.ok (i := 8)) (e_prt O.ok (cl_int) bt_int T.n_int (a_cons O.ok (e_cmp O.ok (q_gt O.ok) (e_var O.ok (i := 9)) (e_int O.ok) (nomark _)) (a_nil O.ok)))) (g_nm O.ok (j := 5))) (ss_cons (s_asg (e_tup O.ok (a_cons O.ok (e_var O.ok (i := 6)) (a_cons O.ok (e_var O.ok (i := 7)) (a_nil O.ok)))) (g_nm O.ok (j := 3))) (ss_nil))) (ss_nil)) (ss_nil)))) (ss_nil))) (ss_cons (s_ret (e_tup O.ok (a_cons O.ok (e_str O.ok) (a_cons O.ok (e_var O.ok (i := 5)) (a_cons O.ok (e_cal O.ok (T.f_days_of.n) hr (a_cons O.ok (e_var O.ok (i := 0)) (a_cons O.ok (e_var O.ok (i := 4)) (a_cons O.ok (e_var O.ok (i := 5)) (a_nil O.ok)))) (calls_eq rfl rfl)) (a_cons O.ok (e_var O.ok (i := 3)) (a_nil O.ok))))))) (ss_nil)))))))
theorem w9 (T : Tx P w K mg base t k) (O : OkC (cxOf (L2.CX P w) P w K mg base N9 "_law_cell" (defScope s9) f cdv A outer s H E) t (WE E)) (hr : Room (k + 3) (A.deeper (envOfC "_law_cell" (defScope s9) s.heap.objs.size f cdv))) :
    PSs (cxOf (L2.CX P w) P w K mg base N9 "_law_cell" (defScope s9) f cdv A outer s H E) (defBody s9) (tS t (WE E) (exes ⟨calls D gl t.S k, gl, t.S, none⟩ b9)) :=
  ss_cons (s_ite (t_cmp O.ok (q_lt O.ok) (fun _ _ _ => bB rfl) (e_var O.ok (i := 1)) (e_pri O.ok (cl_len O.hK rfl) bt_len T.n_len (a_cons O.ok (e_var O.ok (i := 0)) (a_nil O.ok))) (nomark _)) (ss_cons (s_ret (e_idx O.ok rfl (e_var O.ok (i := 0)) (e_var O.ok (i := 1)))) (ss_nil)) (ss_nil)) (ss_cons (s_ret (e_bin O.ok (q_add O.ok) (e_bin O.ok (q_mul O.ok) (e_int O.ok) (e_var O.ok (i := 1))) (e_int O.ok))) (ss_nil))
theorem w10 (T : Tx P w K mg base t k) (O : OkC (cxOf (L2.CX P w) P w K mg base N10 "_law_bag" (defScope s10) f cdv A outer s H E) t (WE E)) (hr : Room (k + 3) (A.deeper (envOfC "_law_bag" (defScope s10) s.heap.objs.size f cdv))) :
    PSs (cxOf (L2.CX P w) P w K mg base N10 "_law_bag" (defScope s10) f cdv A outer s H E) (defBody s10) (tS t (WE E) (exes ⟨calls D gl t.S k, gl, t.S, none⟩ b10)) :=
  ss_cons (s_ret (e_lst O.ok (a_cons O.ok (e_pri O.ok (cl_max O.hK O.calm O.hu) bt_max T.n_max (a_cons O.ok (e_int O.ok) (a_cons O.ok (e_bin O.ok (q_sub O.ok) (e_var O.ok (i := 0)) (e_bin O.ok (q_pow O.ok) (e_int O.ok) (e_int O.ok))) (a_nil O.ok)))) (a_cons O.ok (e_bin O.ok (q_mod O.ok) (e_var O.ok (i := 0)) (e_int O.ok)) (a_cons O.ok (e_int O.ok) (a_nil O.ok)))))) (ss_nil)
theorem w11 (T : Tx P w K mg base t k) (O : OkC (cxOf (L2.CX P w) P w K mg base N11 "_law_take" (defScope s11) f cdv A outer s H E) t (WE E)) (hr : Room (k + 3) (A.deeper (envOfC "_law_take" (defScope s11) s.heap.objs.size f cdv))) :
    PSs (cxOf (L2.CX P w) P w K mg base N11 "_law_take" (defScope s11) f cdv A outer s H E) (defBody s11) (tS t (WE E) (exes ⟨calls D gl t.S k, gl, t.S, none⟩ b11)) :=
  ss_cons (s_ite (t_cmp O.ok (q_gt O.ok) (fun _ _ _ => bB rfl) (e_idx O.ok rfl (e_var O.ok (i := 0)) (e_int O.ok)) (e_int O.ok) (nomark _)) (ss_cons (s_asg (e_bin O.ok (q_mod O.ok) (e_idx O.ok rfl (e_var O.ok (i := 0)) (e_int O.ok)) (e_var O.ok (i := 1))) (g_nm O.ok (j := 2))) (ss_cons (s_sti O.ok (e_var O.ok (i := 0)) (e_int O.ok) (e_bin O.ok (q_fdiv O.ok) (e_idx O.ok rfl (e_var O.ok (i := 0)) (e_int O.ok)) (e_var O.ok (i := 1)))) (ss_cons (s_ret (e_var O.ok (i := 2))) (ss_nil)))) (ss_nil)) (ss_cons (s_sti O.ok (e_var O.ok (i := 0)) (e_int O.ok) (e_bin O.ok (q_add O.ok) (e_idx O.ok rfl (e_var O.ok (i := 0)) (e_int O.ok)) (e_int O.ok))) (ss_cons (s_asg (e_bin O.ok (q_mod O.ok) (e_bin O.ok (q_pow O.ok) (e_bin O.ok (q_add O.ok) (e_bin O.ok (q_add O.ok) (e_idx O.ok rfl (e_var O.ok (i := 0)) (e_int O.ok)) (e_bin O.ok (q_mul O.ok) (e_int O.ok) (e_idx O.ok rfl (e_var O.ok (i := 0)) (e_int O.ok)))) (e_int O.ok)) (e_int O.ok)) (e_int O.ok)) (g_nm O.ok (j := 3))) (ss_cons (s_asg (e_bin O.ok (q_mod O.ok) (e_bin O.ok (q_pow O.ok) (e_bin O.ok (q_add O.ok) (e_var O.ok (i := 3)) (e_bin O.ok (q_mul O.ok) (e_int O.ok) (e_idx O.ok rfl (e_var O.ok (i := 0)) (e_int O.ok)))) (e_int O.ok)) (e_int O.ok)) (g_nm O.ok (j := 3))) (ss_cons (s_ret (e_bin O.ok (q_mod O.ok) (e_bin O.ok (q_fdiv O.ok) (e_var O.ok (i := 3)) (e_int O.ok)) (e_var O.ok (i := 1)))) (ss_nil)))))
theorem w12 (T : Tx P w K mg base t k) (O : OkC (cxOf (L2.CX P w) P w K mg base N12 "_law_row" (defScope s12) f cdv A outer s H E) t (WE E)) (hr : Room (k + 3) (A.deeper (envOfC "_law_row" (defScope s12) s.heap.objs.size f cdv))) :
    PSs (cxOf (L2.CX P w) P w K mg base N12 "_law_row" (defScope s12) f cdv A outer s H E) (defBody s12) (tS t (WE E) (exes ⟨calls D gl t.S k, gl, t.S, none⟩ b12)) :=
  ss_cons (s_asg (e_bin O.ok (q_add O.ok) (e_int O.ok) (e_cal O.ok (T.f__law_take.n) hr (a_cons O.ok (e_var O.ok (i := 0)) (a_cons O.ok (e_int O.ok) (a_nil O.ok))) (calls_eq rfl rfl))) (g_nm O.ok (j := 1))) (ss_cons (s_asg (e_lst O.ok (a_nil O.ok)) (g_nm O.ok (j := 2))) (ss_cons (s_asg (e_lst O.ok (a_nil O.ok)) (g_nm O.ok (j := 3))) (ss_cons (s_frr O (i_rng1 T.n_range (a_cons O.ok (e_bin O.ok (q_add O.ok) (e_int O.ok) (e_cal O.ok (T.f__law_take.n) hr (a_cons O.ok (e_var O.ok (i := 0)) (a_cons O.ok (e_int O.ok) (a_nil O.ok))) (calls_eq rfl rfl))) (a_nil O.ok))) (g_nm O.ok (j := 4)) (ss_cons (s_exp (e_met O.ok PySem.F.plainAttrs_list PySem.F.slot_list_append PySem.F.type_list_append mt_append' (e_var O.ok (i := 2)) (a_cons O.ok (e_pri O.ok (cl_min O.hK O.calm O.hu) bt_min T.n_min (a_cons O.ok (e_cal O.ok (T.f__law_take.n) hr (a_cons O.ok (e_var O.ok (i := 0)) (a_cons O.ok (e_int O.ok) (a_nil O.ok))) (calls_eq rfl rfl)) (a_cons O.ok (e_bin O.ok (q_sub O.ok) (e_int O.ok) (e_pri O.ok (cl_sum O.hK O.calm) bt_sum T.n_sum (a_cons O.ok (e_var O.ok (i := 2)) (a_nil O.ok)))) (a_nil O.ok)))) (a_nil O.ok)))) (ss_cons (s_asg (e_bin O.ok (q_add O.ok) (e_int O.ok) (e_cal O.ok (T.f__law_take.n) hr (a_cons O.ok (e_var O.ok (i := 0)) (a_cons O.ok (e_var O.ok (i := 1)) (a_nil O.ok))) (calls_eq rfl rfl))) (g_nm O.ok (j := 5))) (ss_cons (s_asg (e_bin O.ok (q_add O.ok) (e_int O.ok) (e_cal O.ok (T.f__law_take.n) hr (a_cons O.ok (e_var O.ok (i := 0)) (a_cons O.ok (e_var O.ok (i := 1)) (a_nil O.ok))) (calls_eq rfl rfl))) (g_nm O.ok (j := 6))) (ss_cons (s_exp (e_met O.ok PySem.F.plainAttrs_list PySem.F.slot_list_append PySem.F.type_list_append mt_append' (e_var O.ok (i := 3)) (a_cons O.ok (e_tup O.ok (a_cons O.ok (e_pri O.ok (cl_min O.hK O.calm O.hu) bt_min T.n_min (a_cons O.ok (e_var O.ok (i := 5)) (a_cons O.ok (e_var O.ok (i := 6)) (a_nil O.ok)))) (a_cons O.ok (e_pri O.ok (cl_max O.hK O.calm O.hu) bt_max T.n_max (a_cons O.ok (e_var O.ok (i := 5)) (a_cons O.ok (e_var O.ok (i := 6)) (a_nil O.ok)))) (a_nil O.ok)))) (a_nil O.ok)))) (ss_nil)))))) (ss_cons (s_ret (e_lst O.ok (a_cons O.ok (e_var O.ok (i := 2)) (a_cons O.ok (e_var O.ok (i := 3)) (a_cons O.ok (e_var O.ok (i := 1)) (a_nil O.ok)))))) (ss_nil)))))
theorem w13 (T : Tx P w K mg base t k) (O : OkC (cxOf (L2.CX P w) P w K mg base N13 "_law_all_days" (defScope s13) f cdv A outer s H E) t (WE E)) (hr : Room (k + 3) (A.deeper (envOfC "_law_all_days" (defScope s13) s.heap.objs.size f cdv))) :
    PSs (cxOf (L2.CX P w) P w K mg base N13 "_law_all_days" (defScope s13) f cdv A outer s H E) (defBody s13) (tS t (WE E) (exes ⟨calls D gl t.S k, gl, t.S, none⟩ b13)) :=
  ss_cons (s_asg (e_lst O.ok (a_cons O.ok (e_lst O.ok (a_nil O.ok)) (a_nil O.ok))) (g_nm O.ok (j := 2))) (ss_cons (s_frr O (i_zip O T.n_zip (a_cons O.ok (e_var O.ok (i := 0)) (a_cons O.ok (e_var O.ok (i := 1)) (a_nil O.ok)))) (g_tp O (gs_cons O.ok (j := 3) (gs_cons O.ok (j := 4) (gs_nil)))) (ss_cons (s_frr O (i_rng1 T.n_range (a_cons O.ok (e_var O.ok (i := 3)) (a_nil O.ok))) (g_nm O.ok (j := 5)) (ss_cons (s_asg (e_lst O.ok (a_nil O.ok)) (g_nm O.ok (j := 6))) (ss_cons (s_frr O (i_val O (e_var O.ok (i := 2))) (g_nm O.ok (j := 7)) (ss_cons (s_asg (e_pri O.ok (cl_max O.hK O.calm O.hu) bt_max T.n_max (a_cons O.ok (e_bin O.ok (q_add O.ok) (e_lst O.ok (a_cons O.ok (e_idx O.ok rfl (e_var O.ok (i := 4)) (e_int O.ok)) (a_nil O.ok))) (e_slc O.ok (e_var O.ok (i := 7)) (o_some O.ok (e_neg O.ok (e_int O.ok))) (o_none O.ok))) (a_nil O.ok))) (g_nm O.ok (j := 8))) (ss_cons (s_exp (e_met O.ok PySem.F.plainAttrs_list PySem.F.slot_list_extend PySem.F.type_list_extend mt_extend' (e_var O.ok (i := 6)) (a_cons O.ok (e_lc O (own := [("day", 9)]) (i_rng2 T.n_range (a_cons O.ok (e_var O.ok (i := 8)) (a_cons O.ok (e_bin O.ok (q_add O.ok) (e_idx O.ok rfl (e_var O.ok (i := 4)) (e_int O.ok)) (e_int O.ok)) (a_nil O.ok)))) (blkOk_by (by first | (show blkC N13 (defScope s13) _ _ = true; decide +kernel) | rfl)) (by decide) (fun _ _ _ _ _ O => g_nm O.ok (j := 9)) (fun _ _ _ _ _ O => c_none) (fun _ _ _ _ _ O => e_bin O.ok (q_add O.ok) (e_var O.ok (i := 7)) (e_lst O.ok (a_cons O.ok (e_var O.ok (i := 9)) (a_nil O.ok))))) (a_nil O.ok)))) (ss_nil)))) (ss_cons (s_asg (e_var O.ok (i := 6)) (g_nm O.ok (j := 2))) (ss_nil))))) (ss_nil))) (ss_cons (s_ret (e_var O.ok (i := 2))) (ss_nil)))
theorem w14 (T : Tx P w K mg base t k) (O : OkC (cxOf (L2.CX P w) P w K mg base N14 "_law_most" (defScope s14) f cdv A outer s H E) t (WE E)) (hr : Room (k + 3) (A.deeper (envOfC "_law_most" (defScope s14) s.heap.objs.size f cdv))) :
    PSs (cxOf (L2.CX P w) P w K mg base N14 "_law_most" (defScope s14) f cdv A outer s H E) (defBody s14) (tS t (WE E) (exes ⟨calls D gl t.S k, gl, t.S, none⟩ b14)) :=
  ss_cons (s_ret (e_pri O.ok (cl_max O.hK O.calm O.hu) bt_max T.n_max (a_cons O.ok (e_bin O.ok (q_add O.ok) (e_lst O.ok (a_cons O.ok (e_int O.ok) (a_nil O.ok))) (e_lc O (own := [("day", 1)]) (i_val O (e_var O.ok (i := 0))) (blkOk_by (by first | (show blkC N14 (defScope s14) _ _ = true; decide +kernel) | rfl)) (by decide) (fun _ _ _ _ _ O => g_nm O.ok (j := 1)) (fun _ _ _ _ _ O => c_none) (fun _ _ _ _ _ O => e_met O.ok PySem.F.plainAttrs_list PySem.F.slot_list_count PySem.F.type_list_count (mt_count' O.hK) (e_var O.ok (i := 0)) (a_cons O.ok (e_var O.ok (i := 1)) (a_nil O.ok))))) (a_nil O.ok)))) (ss_nil)
theorem w15 (T : Tx P w K mg base t k) (O : OkC (cxOf (L2.CX P w) P w K mg base N15 "_law_right" (defScope s15) f cdv A outer s H E) t (WE E)) (hr : Room (k + 3) (A.deeper (envOfC "_law_right" (defScope s15) s.heap.objs.size f cdv))) :
    PSs (cxOf (L2.CX P w) P w K mg base N15 "_law_right" (defScope s15) f cdv A outer s H E) (defBody s15) (tS t (WE E) (exes ⟨calls D gl t.S k, gl, t.S, none⟩ b15)) :=
  ss_cons (s_asg (e_cal O.ok (T.f_fewest_carts.n) hr (a_cons O.ok (e_var O.ok (i := 0)) (a_cons O.ok (e_var O.ok (i := 1)) (a_cons O.ok (e_var O.ok (i := 2)) (a_nil O.ok)))) (calls_eq rfl rfl)) (g_nm O.ok (j := 3))) (ss_cons (s_asg (e_cal O.ok (T.f__law_all_days.n) hr (a_cons O.ok (e_var O.ok (i := 0)) (a_cons O.ok (e_var O.ok (i := 1)) (a_nil O.ok))) (calls_eq rfl rfl)) (g_nm O.ok (j := 4))) (ss_cons (s_ite (t_cmp O.ok (q_eq O.ok) (fun _ _ _ => bB rfl) (e_var O.ok (i := 4)) (e_lst O.ok (a_nil O.ok)) (nomark _)) (ss_cons (s_ret (e_and O.ok (e_cmp O.ok (q_eq O.ok) (e_idx O.ok rfl (e_var O.ok (i := 3)) (e_int O.ok)) (e_str O.ok) (nomark _)) (e_one O.ok (e_cmp O.ok (q_eq O.ok) (e_pri O.ok (cl_len O.hK rfl) bt_len T.n_len (a_cons O.ok (e_var O.ok (i := 3)) (a_nil O.ok))) (e_int O.ok) (nomark _))))) (ss_nil)) (ss_nil)) (ss_cons (s_ite (PW.pt (w_or O.ok (t_cmp O.ok (q_ne O.ok) (fun _ _ _ => bB rfl) (e_idx O.ok rfl (e_var O.ok (i := 3)) (e_int O.ok)) (e_str O.ok) (nomark _)) (w_or O.ok (t_cmp O.ok (q_ne O.ok) (fun _ _ _ => bB rfl) (e_pri O.ok (cl_len O.hK rfl) bt_len T.n_len (a_cons O.ok (e_var O.ok (i := 3)) (a_nil O.ok))) (e_int O.ok) (nomark _)) (w_or1 O.ok (t_cmp O.ok (q_notin O.ok) (fun _ _ _ => bB rfl) (e_idx O.ok rfl (e_var O.ok (i := 3)) (e_int O.ok)) (e_var O.ok (i := 4)) (by rfl)))))) (ss_cons (s_ret (e_bl O.ok)) (ss_nil)) (ss_nil)) (ss_cons (s_asg (e_pri O.ok (cl_min O.hK O.calm O.hu) bt_min T.n_min (a_cons O.ok (e_lc O (own := [("row", 6)]) (i_val O (e_var O.ok (i := 4))) (blkOk_by (by first | (show blkC N15 (defScope s15) _ _ = true; decide +kernel) | rfl)) (by decide) (fun _ _ _ _ _ O => g_nm O.ok (j := 6)) (fun _ _ _ _ _ O => c_none) (fun _ _ _ _ _ O => e_cal O.ok (T.f__law_most.n) hr (a_cons O.ok (e_var O.ok (i := 6)) (a_nil O.ok)) (calls_eq rfl rfl))) (a_nil O.ok))) (g_nm O.ok (j := 5))) (ss_cons (s_ite (PW.pt (w_or O.ok (t_cmp O.ok (q_ne O.ok) (fun _ _ _ => bB rfl) (e_pri O.ok (cl_repr O.hK O.hu O.hg O.sm) bt_repr T.n_repr (a_cons O.ok (e_idx O.ok rfl (e_var O.ok (i := 3)) (e_int O.ok)) (a_nil O.ok))) (e_pri O.ok (cl_repr O.hK O.hu O.hg O.sm) bt_repr T.n_repr (a_cons O.ok (e_var O.ok (i := 5)) (a_nil O.ok))) (nomark _)) (w_or1 O.ok (t_cmp O.ok (q_ne O.ok) (fun _ _ _ => bB rfl) (e_cal O.ok (T.f__law_most.n) hr (a_cons O.ok (e_idx O.ok rfl (e_var O.ok (i := 3)) (e_int O.ok)) (a_nil O.ok)) (calls_eq rfl rfl)) (e_var O.ok (i := 5)) (nomark _))))) (ss_cons (s_ret (e_bl O.ok)) (ss_nil)) (ss_nil)) (ss_cons (s_asgLc (j := 7) O (own := [("row", 6)]) (i_val O (e_var O.ok (i := 4))) (blkOk_by (by first | (show blkC N15 (defScope s15) _ _ = true; decide +kernel) | rfl)) (by decide) (fun _ _ _ _ _ O => g_nm O.ok (j := 6)) (fun _ _ _ _ _ O => c_some (t_cmp O.ok (q_eq O.ok) (fun _ _ _ => bB rfl) (e_cal O.ok (T.f__law_most.n) hr (a_cons O.ok (e_var O.ok (i := 6)) (a_nil O.ok)) (calls_eq rfl rfl)) (e_var O.ok (i := 5)) (nomark _))) (fun _ _ _ _ _ O => e_var O.ok (i := 6)) (sw_true rfl rfl rfl (by decide +kernel))) (ss_cons (s_ret (e_cmp O.ok (q_eq O.ok) (e_lc O (own := [("row", 6)]) (i_val O (e_var O.ok (i := 7))) (blkOk_by (by first | (show blkC N15 (defScope s15) _ _ = true; decide +kernel) | rfl)) (by decide) (fun _ _ _ _ _ O => g_nm O.ok (j := 6)) (fun _ _ _ _ _ O => c_some (t_cmp O.ok (q_ne O.ok) (fun _ _ _ => bB rfl) (e_lc O (own := [("k", 8), ("day", 9)]) (i_enum O T.n_enumerate (a_cons O.ok (e_var O.ok (i := 6)) (a_nil O.ok))) (blkOk_by (by first | (show blkC N15 (defScope s15) _ _ = true; decide +kernel) | rfl)) (by decide) (fun _ _ _ _ _ O => g_tp O (gs_cons O.ok (j := 8) (gs_cons O.ok (j := 9) (gs_nil)))) (fun _ _ _ _ _ O => c_some (t_cmp O.ok (q_lt O.ok) (fun _ _ _ => bB rfl) (e_var O.ok (i := 9)) (e_idx O.ok rfl (e_idx O.ok rfl (e_var O.ok (i := 3)) (e_int O.ok)) (e_var O.ok (i := 8))) (nomark _))) (fun _ _ _ _ _ O => e_var O.ok (i := 8))) (e_lst O.ok (a_nil O.ok)) (nomark _))) (fun _ _ _ _ _ O => e_var O.ok (i := 6))) (e_lst O.ok (a_nil O.ok)) (nomark _))) (ss_nil))))))))
theorem w16 (T : Tx P w K mg base t k) (O : OkC (cxOf (L2.CX P w) P w K mg base N16 "law" (defScope s16) f cdv A outer s H E) t (WE E)) (hr : Room (k + 3) (A.deeper (envOfC "law" (defScope s16) s.heap.objs.size f cdv))) :
    PSs (cxOf (L2.CX P w) P w K mg base N16 "law" (defScope s16) f cdv A outer s H E) (defBody s16) (tS t (WE E) (exes ⟨calls D gl t.S k, gl, t.S, none⟩ b16)) :=
  ss_cons (s_frr O (i_rng1 T.n_range (a_cons O.ok (e_pri O.ok (cl_max O.hK O.calm O.hu) bt_max T.n_max (a_cons O.ok (e_int O.ok) (a_cons O.ok (e_pri O.ok (cl_min O.hK O.calm O.hu) bt_min T.n_min (a_cons O.ok (e_int O.ok) (a_cons O.ok (e_pri O.ok (cl_len O.hK rfl) bt_len T.n_len (a_cons O.ok (e_var O.ok (i := 0)) (a_nil O.ok))) (a_nil O.ok)))) (a_nil O.ok)))) (a_nil O.ok))) (g_nm O.ok (j := 1)) (ss_cons (s_asg (e_cal O.ok (T.f__law_bag.n) hr (a_cons O.ok (e_cal O.ok (T.f__law_cell.n) hr (a_cons O.ok (e_var O.ok (i := 0)) (a_cons O.ok (e_var O.ok (i := 1)) (a_nil O.ok))) (calls_eq rfl rfl)) (a_nil O.ok)) (calls_eq rfl rfl)) (g_nm O.ok (j := 2))) (ss_cons (s_frr O (i_rng1 T.n_range (a_cons O.ok (e_int O.ok) (a_nil O.ok))) (g_nm O.ok (j := 3)) (ss_cons (s_asg (e_cal O.ok (T.f__law_row.n) hr (a_cons O.ok (e_var O.ok (i := 2)) (a_nil O.ok)) (calls_eq rfl rfl)) (g_tp O (gs_cons O.ok (j := 4) (gs_cons O.ok (j := 5) (gs_cons O.ok (j := 6) (gs_nil)))))) (ss_cons (s_ite (t_not O.ok (t_plain O.ok (e_cal O.ok (T.f__law_right.n) hr (a_cons O.ok (e_var O.ok (i := 4)) (a_cons O.ok (e_var O.ok (i := 5)) (a_cons O.ok (e_var O.ok (i := 6)) (a_nil O.ok)))) (calls_eq rfl rfl)))) (ss_cons (s_ret (e_bl O.ok)) (ss_nil)) (ss_nil)) (ss_nil)))) (ss_nil)))) (ss_cons (s_ret (e_bl O.ok)) (ss_nil))
end
/-- what the top has left of a def -/
structure DF (K : PySem.W.Frag) (mg : Str → Option Value) (x : Str) (st : Stmt) (ps : List Str) : Prop where
  ex : ∃ (fa : Addr) (oc : Value) (od : Option Addr) (kV doc pm : Value) (an : Option Addr) (cdv ct : Value) (osl : Array (Option Value)), mg x = some (.ref fa) ∧ K.lookup fa = some ⟨oc, od, .func (PySem.W.fnOf x x (defArgs st) (defBody st) (defScope st) .none kV doc pm an cdv ct), osl⟩ ∧
    PySem.W.codeIn K cdv x = true ∧ PySem.W.keepIn K (.ref fa) = true ∧ Binds K (PySem.W.fnOf x x (defArgs st) (defBody st) (defScope st) .none kV doc pm an cdv ct) ps []
structure DFD (K : PySem.W.Frag) (mg : Str → Option Value) (x : Str) (st : Stmt) (ps : List Str) (dl : List Val) : Prop where
  ex : ∃ (fa : Addr) (oc : Value) (od : Option Addr) (dV kV doc pm : Value) (an : Option Addr) (cdv ct : Value) (osl : Array (Option Value)) (dvs : List V), mg x = some (.ref fa) ∧ K.lookup fa = some ⟨oc, od, .func (PySem.W.fnOf x x (defArgs st) (defBody st) (defScope st) dV kV doc pm an cdv ct), osl⟩ ∧
    PySem.W.codeIn K cdv x = true ∧ PySem.W.keepIn K (.ref fa) = true ∧ (∀ (t : Th) ρ, VRs t ρ dl dvs) ∧ (∀ j, j ≤ dvs.length → ∃ us, Vals (dvs.drop j) us ∧ Binds K (PySem.W.fnOf x x (defArgs st) (defBody st) (defScope st) dV kV doc pm an cdv ct) ps us)
/-- the root of the refusals -/
structure RT (K : PySem.W.Frag) (mg : Str → Option Value) : Prop where
  ex : ∃ (C fB : Addr) (fd : FuncData), ExB K mg "ShelvesError" C fB ∧ Fun K "__init__" "ShelvesError.__init__" sI_ShelvesError fB fd ∧ Binds K fd ["self", "text"] []
  vn : mg "ValueError" = none
  vv : PySem.W.findCls K (.type "ValueError") (.type "type") "__init__" = some (.val (.builtin "ValueError.__init__"))
/-- a refusal -/
structure RX (K : PySem.W.Frag) (mg : Str → Option Value) (ga : Nat → Option Addr) (x : Str) (i : Nat) (fs : List Str) (st : Stmt) (q : Str) : Prop where
  ex : ∃ (C fI : Addr) (fd : FuncData), ga i = some C ∧ ExC K mg x C fI fs ∧ Fun K "__init__" q st fI fd ∧ Binds K fd ("self" :: fs) []
structure Fx (K : PySem.W.Frag) (mg : Str → Option Value) (ga : Nat → Option Addr) : Prop where
  rt : RT K mg
  r_NoList : RX K mg ga "NoList" 0 ["found"] sI_NoList "NoList.__init__"
  r_NoNumber : RX K mg ga "NoNumber" 1 ["found"] sI_NoNumber "NoNumber.__init__"
  r_Unlike : RX K mg ga "Unlike" 2 ["found"] sI_Unlike "Unlike.__init__"
  r_Outside : RX K mg ga "Outside" 3 ["found"] sI_Outside "Outside.__init__"
  n_all : mg "all" = none
  n_bool : mg "bool" = none
  n_divmod : mg "divmod" = none
  n_enumerate : mg "enumerate" = none
  n_int : mg "int" = none
  n_isinstance : mg "isinstance" = none
  n_len : mg "len" = none
  n_list : mg "list" = none
  n_max : mg "max" = none
  n_min : mg "min" = none
  n_range : mg "range" = none
  n_repr : mg "repr" = none
  n_reversed : mg "reversed" = none
  n_sum : mg "sum" = none
  n_tuple : mg "tuple" = none
  n_zip : mg "zip" = none
  c_MOST_DAYS : ∃ u, mg "MOST_DAYS" = some (.int 60 u)
  c_MOST_GROUPS : ∃ u, mg "MOST_GROUPS" = some (.int 12 u)
  c_MOST_THINGS : ∃ u, mg "MOST_THINGS" = some (.int 60 u)
  g_is_whole : DF K mg "is_whole" s0 ["thing", "low", "high"]
  g_are_few : DF K mg "are_few" s1 ["thing", "most"]
  g_is_window : DF K mg "is_window" s2 ["thing"]
  g_need_days : DF K mg "need_days" s3 ["counts", "windows", "days"]
  g_spans_of : DF K mg "spans_of" s4 ["counts", "windows"]
  g_crossed : DF K mg "crossed" s5 ["counts", "windows"]
  g_within : DF K mg "within" s6 ["counts", "spans", "begin", "end"]
  g_days_of : DF K mg "days_of" s7 ["counts", "spans", "carts"]
  g_fewest_carts : DF K mg "fewest_carts" s8 ["counts", "windows", "days"]
  g__law_cell : DF K mg "_law_cell" s9 ["script", "k"]
  g__law_bag : DF K mg "_law_bag" s10 ["cell"]
  g__law_take : DF K mg "_law_take" s11 ["bag", "many"]
  g__law_row : DF K mg "_law_row" s12 ["bag"]
  g__law_all_days : DF K mg "_law_all_days" s13 ["counts", "windows"]
  g__law_most : DF K mg "_law_most" s14 ["row"]
  g__law_right : DF K mg "_law_right" s15 ["counts", "windows", "days"]
  g_law : DF K mg "law" s16 ["script"]
section
variable {P : Program} {w : World} {K : PySem.W.Frag} {mg : Str → Option Value} {base : PySem.Heap} {t : Th}
theorem rt_ok (R : RT K mg) : ∃ (C fB : Addr) (fd : FuncData), ExB K mg "ShelvesError" C fB ∧ Binds K fd ["self", "text"] [] ∧ FnOk P w K mg base (L2.CX P w) 1 fB fd ["self", "text"] (spBI K) := by
  obtain ⟨C, fB, fd, B, F, hb⟩ := R.ex
  exact ⟨C, fB, fd, B, hb, F.okX scI_ShelvesError (fun vs H Q E h => spBI_len h) fun cdv A outer s H vs Q E hr h => ⟨_, pss_one (ps_expr (by exact (pe_veinit rfl R.vn R.vv (pa_cons (pv 0) (pa_cons (pv 1) pa_nil))))), base_ok h⟩⟩
theorem re_NoList (R : RT K mg) (X : RX K mg t.ga "NoList" 0 ["found"] sI_NoList "NoList.__init__") : CE P w K mg base t "NoList" 0 ["found"] := by
  obtain ⟨CB, fB, fdB, B, hbB, FB⟩ := rt_ok (P := P) (w := w) (base := base) R
  obtain ⟨C, fI, fd, hga, T, F, hb⟩ := X.ex
  refine ⟨C, fI, fd, _, hga, T, hb, F.okX scI_NoList (fun vs H Q E h => spI_len h) fun cdv A outer s H vs Q E hr h => ⟨_, pss_cons (ps_expr (by exact (pe_clsinit B FB hr hbB rfl (pa_cons (pv 0) (pa_cons pe_str pa_nil))))) (pss_one (ps_ost (pv 0) (pv 1))), init1_ok T.ox (T.no _ List.mem_cons_self) h⟩⟩
theorem re_NoNumber (R : RT K mg) (X : RX K mg t.ga "NoNumber" 1 ["found"] sI_NoNumber "NoNumber.__init__") : CE P w K mg base t "NoNumber" 1 ["found"] := by
  obtain ⟨CB, fB, fdB, B, hbB, FB⟩ := rt_ok (P := P) (w := w) (base := base) R
  obtain ⟨C, fI, fd, hga, T, F, hb⟩ := X.ex
  refine ⟨C, fI, fd, _, hga, T, hb, F.okX scI_NoNumber (fun vs H Q E h => spI_len h) fun cdv A outer s H vs Q E hr h => ⟨_, pss_cons (ps_expr (by exact (pe_clsinit B FB hr hbB rfl (pa_cons (pv 0) (pa_cons pe_str pa_nil))))) (pss_one (ps_ost (pv 0) (pv 1))), init1_ok T.ox (T.no _ List.mem_cons_self) h⟩⟩
theorem re_Unlike (R : RT K mg) (X : RX K mg t.ga "Unlike" 2 ["found"] sI_Unlike "Unlike.__init__") : CE P w K mg base t "Unlike" 2 ["found"] := by
  obtain ⟨CB, fB, fdB, B, hbB, FB⟩ := rt_ok (P := P) (w := w) (base := base) R
  obtain ⟨C, fI, fd, hga, T, F, hb⟩ := X.ex
  refine ⟨C, fI, fd, _, hga, T, hb, F.okX scI_Unlike (fun vs H Q E h => spI_len h) fun cdv A outer s H vs Q E hr h => ⟨_, pss_cons (ps_expr (by exact (pe_clsinit B FB hr hbB rfl (pa_cons (pv 0) (pa_cons pe_str pa_nil))))) (pss_one (ps_ost (pv 0) (pv 1))), init1_ok T.ox (T.no _ List.mem_cons_self) h⟩⟩
theorem re_Outside (R : RT K mg) (X : RX K mg t.ga "Outside" 3 ["found"] sI_Outside "Outside.__init__") : CE P w K mg base t "Outside" 3 ["found"] := by
  obtain ⟨CB, fB, fdB, B, hbB, FB⟩ := rt_ok (P := P) (w := w) (base := base) R
  obtain ⟨C, fI, fd, hga, T, F, hb⟩ := X.ex
  refine ⟨C, fI, fd, _, hga, T, hb, F.okX scI_Outside (fun vs H Q E h => spI_len h) fun cdv A outer s H vs Q E hr h => ⟨_, pss_cons (ps_expr (by exact (pe_clsinit B FB hr hbB rfl (pa_cons (pv 0) (pa_cons pe_str pa_nil))))) (pss_one (ps_ost (pv 0) (pv 1))), init1_ok T.ox (T.no _ List.mem_cons_self) h⟩⟩
theorem cf0 {x : Str} {st : Stmt} {ps : List Str} (F : DF K mg x st ps) {d : Def} : CF P w K mg base t (0 + 3) x (mOf D gl t.S 0 d) := by
  obtain ⟨fa, oc, od, kV, doc, pm, an, cdv, ct, osl, h1, h2, h3, h4, h5⟩ := F.ex
  exact ⟨fa, _, ps, h1, h4, h5, fn_bad⟩
theorem cf0d {x : Str} {st : Stmt} {ps : List Str} {dl : List Val} (F : DFD K mg x st ps dl) {d : Def} : CFD P w K mg base t (0 + 3) x dl (mOf D gl t.S 0 d) := by
  obtain ⟨fa, oc, od, dV, kV, doc, pm, an, cdv, ct, osl, dvs, h1, h2, h3, h4, h5, h6⟩ := F.ex
  exact ⟨fa, _, ps, dvs, h1, h4, h5 t, h6, fn_bad⟩
theorem cf1 {k : Nat} (hK : t.K = K) (F : DF K mg "is_whole" s0 ["thing", "low", "high"]) (T : Tx P w K mg base t k) : CF P w K mg base t (k + 1 + 3) "is_whole" (mOf D gl t.S (k + 1) d0) := by
  obtain ⟨fa, oc, od, kV, doc, pm, an, cdv, ct, osl, h1, h2, h3, h4, h5⟩ := F.ex
  exact ⟨fa, _, _, h1, h4, h5, fn_law hK T.px T.sm h2 h3 sc0 rfl rfl fun A outer s H E O hr => w0 T O hr⟩
theorem cf2 {k : Nat} (hK : t.K = K) (F : DF K mg "are_few" s1 ["thing", "most"]) (T : Tx P w K mg base t k) : CF P w K mg base t (k + 1 + 3) "are_few" (mOf D gl t.S (k + 1) d1) := by
  obtain ⟨fa, oc, od, kV, doc, pm, an, cdv, ct, osl, h1, h2, h3, h4, h5⟩ := F.ex
  exact ⟨fa, _, _, h1, h4, h5, fn_law hK T.px T.sm h2 h3 sc1 rfl rfl fun A outer s H E O hr => w1 T O hr⟩
theorem cf3 {k : Nat} (hK : t.K = K) (F : DF K mg "is_window" s2 ["thing"]) (T : Tx P w K mg base t k) : CF P w K mg base t (k + 1 + 3) "is_window" (mOf D gl t.S (k + 1) d2) := by
  obtain ⟨fa, oc, od, kV, doc, pm, an, cdv, ct, osl, h1, h2, h3, h4, h5⟩ := F.ex
  exact ⟨fa, _, _, h1, h4, h5, fn_law hK T.px T.sm h2 h3 sc2 rfl rfl fun A outer s H E O hr => w2 T O hr⟩
theorem cf4 {k : Nat} (hK : t.K = K) (F : DF K mg "need_days" s3 ["counts", "windows", "days"]) (T : Tx P w K mg base t k) : CF P w K mg base t (k + 1 + 3) "need_days" (mOf D gl t.S (k + 1) d3) := by
  obtain ⟨fa, oc, od, kV, doc, pm, an, cdv, ct, osl, h1, h2, h3, h4, h5⟩ := F.ex
  exact ⟨fa, _, _, h1, h4, h5, fn_law hK T.px T.sm h2 h3 sc3 rfl rfl fun A outer s H E O hr => w3 T O hr⟩
theorem cf5 {k : Nat} (hK : t.K = K) (F : DF K mg "spans_of" s4 ["counts", "windows"]) (T : Tx P w K mg base t k) : CF P w K mg base t (k + 1 + 3) "spans_of" (mOf D gl t.S (k + 1) d4) := by
  obtain ⟨fa, oc, od, kV, doc, pm, an, cdv, ct, osl, h1, h2, h3, h4, h5⟩ := F.ex
  exact ⟨fa, _, _, h1, h4, h5, fn_law hK T.px T.sm h2 h3 sc4 rfl rfl fun A outer s H E O hr => w4 T O hr⟩
theorem cf6 {k : Nat} (hK : t.K = K) (F : DF K mg "crossed" s5 ["counts", "windows"]) (T : Tx P w K mg base t k) : CF P w K mg base t (k + 1 + 3) "crossed" (mOf D gl t.S (k + 1) d5) := by
  obtain ⟨fa, oc, od, kV, doc, pm, an, cdv, ct, osl, h1, h2, h3, h4, h5⟩ := F.ex
  exact ⟨fa, _, _, h1, h4, h5, fn_law hK T.px T.sm h2 h3 sc5 rfl rfl fun A outer s H E O hr => w5 T O hr⟩
theorem cf7 {k : Nat} (hK : t.K = K) (F : DF K mg "within" s6 ["counts", "spans", "begin", "end"]) (T : Tx P w K mg base t k) : CF P w K mg base t (k + 1 + 3) "within" (mOf D gl t.S (k + 1) d6) := by
  obtain ⟨fa, oc, od, kV, doc, pm, an, cdv, ct, osl, h1, h2, h3, h4, h5⟩ := F.ex
  exact ⟨fa, _, _, h1, h4, h5, fn_law hK T.px T.sm h2 h3 sc6 rfl rfl fun A outer s H E O hr => w6 T O hr⟩
theorem cf8 {k : Nat} (hK : t.K = K) (F : DF K mg "days_of" s7 ["counts", "spans", "carts"]) (T : Tx P w K mg base t k) : CF P w K mg base t (k + 1 + 3) "days_of" (mOf D gl t.S (k + 1) d7) := by
  obtain ⟨fa, oc, od, kV, doc, pm, an, cdv, ct, osl, h1, h2, h3, h4, h5⟩ := F.ex
  exact ⟨fa, _, _, h1, h4, h5, fn_law hK T.px T.sm h2 h3 sc7 rfl rfl fun A outer s H E O hr => w7 T O hr⟩
theorem cf9 {k : Nat} (hK : t.K = K) (F : DF K mg "fewest_carts" s8 ["counts", "windows", "days"]) (T : Tx P w K mg base t k) : CF P w K mg base t (k + 1 + 3) "fewest_carts" (mOf D gl t.S (k + 1) d8) := by
  obtain ⟨fa, oc, od, kV, doc, pm, an, cdv, ct, osl, h1, h2, h3, h4, h5⟩ := F.ex
  exact ⟨fa, _, _, h1, h4, h5, fn_law hK T.px T.sm h2 h3 sc8 rfl rfl fun A outer s H E O hr => w8 T O hr⟩
theorem cf10 {k : Nat} (hK : t.K = K) (F : DF K mg "_law_cell" s9 ["script", "k"]) (T : Tx P w K mg base t k) : CF P w K mg base t (k + 1 + 3) "_law_cell" (mOf D gl t.S (k + 1) d9) := by
  obtain ⟨fa, oc, od, kV, doc, pm, an, cdv, ct, osl, h1, h2, h3, h4, h5⟩ := F.ex
  exact ⟨fa, _, _, h1, h4, h5, fn_law hK T.px T.sm h2 h3 sc9 rfl rfl fun A outer s H E O hr => w9 T O hr⟩
theorem cf11 {k : Nat} (hK : t.K = K) (F : DF K mg "_law_bag" s10 ["cell"]) (T : Tx P w K mg base t k) : CF P w K mg base t (k + 1 + 3) "_law_bag" (mOf D gl t.S (k + 1) d10) := by
  obtain ⟨fa, oc, od, kV, doc, pm, an, cdv, ct, osl, h1, h2, h3, h4, h5⟩ := F.ex
  exact ⟨fa, _, _, h1, h4, h5, fn_law hK T.px T.sm h2 h3 sc10 rfl rfl fun A outer s H E O hr => w10 T O hr⟩
theorem cf12 {k : Nat} (hK : t.K = K) (F : DF K mg "_law_take" s11 ["bag", "many"]) (T : Tx P w K mg base t k) : CF P w K mg base t (k + 1 + 3) "_law_take" (mOf D gl t.S (k + 1) d11) := by
  obtain ⟨fa, oc, od, kV, doc, pm, an, cdv, ct, osl, h1, h2, h3, h4, h5⟩ := F.ex
  exact ⟨fa, _, _, h1, h4, h5, fn_law hK T.px T.sm h2 h3 sc11 rfl rfl fun A outer s H E O hr => w11 T O hr⟩
theorem cf13 {k : Nat} (hK : t.K = K) (F : DF K mg "_law_row" s12 ["bag"]) (T : Tx P w K mg base t k) : CF P w K mg base t (k + 1 + 3) "_law_row" (mOf D gl t.S (k + 1) d12) := by
  obtain ⟨fa, oc, od, kV, doc, pm, an, cdv, ct, osl, h1, h2, h3, h4, h5⟩ := F.ex
  exact ⟨fa, _, _, h1, h4, h5, fn_law hK T.px T.sm h2 h3 sc12 rfl rfl fun A outer s H E O hr => w12 T O hr⟩
theorem cf14 {k : Nat} (hK : t.K = K) (F : DF K mg "_law_all_days" s13 ["counts", "windows"]) (T : Tx P w K mg base t k) : CF P w K mg base t (k + 1 + 3) "_law_all_days" (mOf D gl t.S (k + 1) d13) := by
  obtain ⟨fa, oc, od, kV, doc, pm, an, cdv, ct, osl, h1, h2, h3, h4, h5⟩ := F.ex
  exact ⟨fa, _, _, h1, h4, h5, fn_law hK T.px T.sm h2 h3 sc13 rfl rfl fun A outer s H E O hr => w13 T O hr⟩
theorem cf15 {k : Nat} (hK : t.K = K) (F : DF K mg "_law_most" s14 ["row"]) (T : Tx P w K mg base t k) : CF P w K mg base t (k + 1 + 3) "_law_most" (mOf D gl t.S (k + 1) d14) := by
  obtain ⟨fa, oc, od, kV, doc, pm, an, cdv, ct, osl, h1, h2, h3, h4, h5⟩ := F.ex
  exact ⟨fa, _, _, h1, h4, h5, fn_law hK T.px T.sm h2 h3 sc14 rfl rfl fun A outer s H E O hr => w14 T O hr⟩
theorem cf16 {k : Nat} (hK : t.K = K) (F : DF K mg "_law_right" s15 ["counts", "windows", "days"]) (T : Tx P w K mg base t k) : CF P w K mg base t (k + 1 + 3) "_law_right" (mOf D gl t.S (k + 1) d15) := by
  obtain ⟨fa, oc, od, kV, doc, pm, an, cdv, ct, osl, h1, h2, h3, h4, h5⟩ := F.ex
  exact ⟨fa, _, _, h1, h4, h5, fn_law hK T.px T.sm h2 h3 sc15 rfl rfl fun A outer s H E O hr => w15 T O hr⟩
theorem cf17 {k : Nat} (hK : t.K = K) (F : DF K mg "law" s16 ["script"]) (T : Tx P w K mg base t k) : CF P w K mg base t (k + 1 + 3) "law" (mOf D gl t.S (k + 1) d16) := by
  obtain ⟨fa, oc, od, kV, doc, pm, an, cdv, ct, osl, h1, h2, h3, h4, h5⟩ := F.ex
  exact ⟨fa, _, _, h1, h4, h5, fn_law hK T.px T.sm h2 h3 sc16 rfl rfl fun A outer s H E O hr => w16 T O hr⟩
theorem tx_all (hK : t.K = K) (px : t.ex = none) (sm : ∃ mm, base.Ns sysModules mm) (F : Fx K mg t.ga) : ∀ k, Tx P w K mg base t k
  | 0 => ⟨sm, px, re_NoList F.rt F.r_NoList, re_NoNumber F.rt F.r_NoNumber, re_Unlike F.rt F.r_Unlike, re_Outside F.rt F.r_Outside, F.n_all, F.n_bool, F.n_divmod, F.n_enumerate, F.n_int, F.n_isinstance, F.n_len, F.n_list, F.n_max, F.n_min, F.n_range, F.n_repr, F.n_reversed, F.n_sum, F.n_tuple, F.n_zip, F.c_MOST_DAYS, F.c_MOST_GROUPS, F.c_MOST_THINGS, cf0 F.g_is_whole, cf0 F.g_are_few, cf0 F.g_is_window, cf0 F.g_need_days, cf0 F.g_spans_of, cf0 F.g_crossed, cf0 F.g_within, cf0 F.g_days_of, cf0 F.g_fewest_carts, cf0 F.g__law_cell, cf0 F.g__law_bag, cf0 F.g__law_take, cf0 F.g__law_row, cf0 F.g__law_all_days, cf0 F.g__law_most, cf0 F.g__law_right, cf0 F.g_law⟩
  | k + 1 => ⟨sm, px, re_NoList F.rt F.r_NoList, re_NoNumber F.rt F.r_NoNumber, re_Unlike F.rt F.r_Unlike, re_Outside F.rt F.r_Outside, F.n_all, F.n_bool, F.n_divmod, F.n_enumerate, F.n_int, F.n_isinstance, F.n_len, F.n_list, F.n_max, F.n_min, F.n_range, F.n_repr, F.n_reversed, F.n_sum, F.n_tuple, F.n_zip, F.c_MOST_DAYS, F.c_MOST_GROUPS, F.c_MOST_THINGS, cf1 hK F.g_is_whole (tx_all hK px sm F k), cf2 hK F.g_are_few (tx_all hK px sm F k), cf3 hK F.g_is_window (tx_all hK px sm F k), cf4 hK F.g_need_days (tx_all hK px sm F k), cf5 hK F.g_spans_of (tx_all hK px sm F k), cf6 hK F.g_crossed (tx_all hK px sm F k), cf7 hK F.g_within (tx_all hK px sm F k), cf8 hK F.g_days_of (tx_all hK px sm F k), cf9 hK F.g_fewest_carts (tx_all hK px sm F k), cf10 hK F.g__law_cell (tx_all hK px sm F k), cf11 hK F.g__law_bag (tx_all hK px sm F k), cf12 hK F.g__law_take (tx_all hK px sm F k), cf13 hK F.g__law_row (tx_all hK px sm F k), cf14 hK F.g__law_all_days (tx_all hK px sm F k), cf15 hK F.g__law_most (tx_all hK px sm F k), cf16 hK F.g__law_right (tx_all hK px sm F k), cf17 hK F.g_law (tx_all hK px sm F k)⟩
end
end Mi


namespace Mi
open PySem (Str PyData)
/-- a whole number between the bounds -/
def whD (x : PyData) (lo hi : Int) : Bool :=
  match x with
  | .int i => decide (lo ≤ i) && decide (i ≤ hi)
  | _ => false
@[simp] theorem whD_i {i lo hi : Int} : whD (.int i) lo hi = (decide (lo ≤ i) && decide (i ≤ hi)) := rfl
/-- a list, or a tuple -/
def sqd (b : Bool) (xs : List PyData) : PyData := if b then .tuple xs else .list xs
@[simp] theorem sqd_t {xs : List PyData} : sqd true xs = .tuple xs := rfl
@[simp] theorem sqd_f {xs : List PyData} : sqd false xs = .list xs := rfl
@[simp] theorem sqd_seq {b : Bool} {xs : List PyData} : seqD (sqd b xs) = some xs := by cases b <;> rfl
@[simp] theorem sqd_len {b : Bool} {xs : List PyData} : vpri .len [sqd b xs] = some (.int xs.length) := by cases b <;> rfl
@[simp] theorem sqd_src {b : Bool} {xs : List PyData} : vsrc .val [sqd b xs] = some xs := by cases b <;> rfl
@[simp] theorem sqd_ix {b : Bool} {xs : List PyData} {i : Int} : vidx (sqd b xs) (.int i) = L2.atI xs i := by cases b <;> rfl
abbrev CW := Int × Int × Int
def winD (w : Int × Int) : PyData := .tuple [.int w.1, .int w.2]
def spD : Option (Int × Int) → PyData
  | none => .none
  | some w => winD w
def cD (ps : List CW) : List PyData := ps.map fun p => .int p.1
def wD (ps : List CW) : List PyData := ps.map fun p => winD p.2
@[simp] theorem cD_len (ps : List CW) : (cD ps).length = ps.length := by simp [cD]
@[simp] theorem wD_len (ps : List CW) : (wD ps).length = ps.length := by simp [wD]
/-- counts, windows and days that go together -/
structure Gd (ps : List CW) (days : Int) : Prop where
  len : ps.length ≤ 12
  cnt : ∀ p ∈ ps, 0 ≤ p.1 ∧ p.1 ≤ 60
  win : ∀ p ∈ ps, 1 ≤ p.2.1 ∧ p.2.1 ≤ p.2.2 ∧ p.2.2 ≤ days
  day : 1 ≤ days ∧ days ≤ 60
section
variable {L : Nat} {s : VS}
theorem v_whole {x : PyData} {lo hi : Int} : vcalls VTb (L + 1) 0 [.d x, .d (.int lo), .d (.int hi)] s = .ok (.bool (whD x lo hi)) s := by
  rw [vc0]
  unfold b0
  cases x <;> simp [tyE, okTy, isTy, whD]
  · rename_i i
    by_cases c : lo ≤ i <;> simp [c]
theorem v_few {b : Bool} {xs : List PyData} {m : Int} : vcalls VTb (L + 1) 1 [.d (sqd b xs), .d (.int m)] s = .ok (.bool (decide ((xs.length : Int) ≤ m))) s := by
  rw [vc1]
  unfold b1
  cases b <;> simp [tyE, tyEs, okTy, isTy]
theorem v_iswin {w : Int × Int} (h : 1 ≤ w.1 ∧ w.1 ≤ w.2 ∧ w.2 ≤ 60) : vcalls VTb (L + 2) 2 [.d (winD w)] s = .ok (.bool true) s := by
  rw [vc2]
  unfold b2 winD
  have h1 : w.1 ≤ 60 := by omega
  simp [tyE, okTy, isTy, boxO, anyM, gl, v_whole, vidx, L2.atI, L2.ixN, h, h1]
theorem v_need {b b' : Bool} {ps : List CW} {days : Int} (G : Gd ps days) : vcalls VTb (L + 3) 3 [.d (sqd b (cD ps)), .d (sqd b' (wD ps)), .d (.int days)] s = .ok .none s := by
  have hl : (ps.length : Int) ≤ 12 := by have := G.len; omega
  have hl2 : ps.length ≤ 16777216 := by have := G.len; omega
  have e1 : ∀ τ : VSl, τ.length = 5 → vlc [] (.nm 3) (vdenc ⟨vcalls VTb (L + 2), gl, [], vF, false⟩ .none) (vden ⟨vcalls VTb (L + 2), gl, [], vF, false⟩ .st (.cal 0 (.cons (.var 3) (.cons (.cst (.int 0)) (.cons (.glb 0) .nil))))) τ (cD ps) [] s = .ok ((ps.map fun _ => true).map .bool) s := fun τ ht => by
    rw [List.map_map]
    refine vlc_map (k := fun p : CW => PyData.int p.1) (fun p hp => ⟨_, rfl, rfl, ?_⟩) hl2
    have := G.cnt p hp
    simp [boxO, anyM, gl, ht, v_whole, this]
  have e2 : ∀ τ : VSl, τ.length = 5 → vlc [] (.nm 3) (vdenc ⟨vcalls VTb (L + 2), gl, [], vF, false⟩ .none) (vden ⟨vcalls VTb (L + 2), gl, [], vF, false⟩ .st (.cal 2 (.cons (.var 3) .nil))) τ (wD ps) [] s = .ok ((ps.map fun _ => true).map .bool) s := fun τ ht => by
    rw [List.map_map]
    refine vlc_map (k := fun p : CW => winD p.2) (fun p hp => ⟨_, rfl, rfl, ?_⟩) hl2
    have := G.win p hp
    have := G.day
    simp [boxO, anyM, ht, v_iswin (w := p.2) (s := s) (L := L) (by omega)]
  have hd := G.day
  rw [vc3]
  unfold b3
  simp [-List.map_map, boxO, anyM, gl, v_few, hl]
  rw [e1 _ rfl]
  simp [-List.map_map, boxO, anyM, gl, v_few, hl]
  rw [e2 _ rfl]
  simp [-List.map_map, boxO, anyM, gl, v_whole, hd]
  refine vr_of ?_
  rw [vsat_fin, vsat_bind]
  refine vloop_inv (k := fun p : CW => winD p.2) (fun r τ s' => s' = s ∧ (∀ p ∈ r, p ∈ ps) ∧ ∃ s4, τ = [some (.d (sqd b (cD ps))), some (.d (sqd b' (wD ps))), some (.d (.int days)), none, s4]) ?_ ?_ ⟨rfl, fun _ z => z, _, rfl⟩
  · rintro p r τ s' ⟨rfl, hr, s4, rfl⟩
    refine ⟨_, rfl, ?_⟩
    have := G.win p (hr p (List.mem_cons_self ..))
    have h2 : ¬ days < p.2.2 := by omega
    simp [winD, vidx, L2.atI, L2.ixN, h2]
    exact fun a b c z => hr _ (List.mem_cons_of_mem _ z)
  · rintro τ s' ⟨rfl, _, s4, rfl⟩
    simp
end
end Mi


namespace Mi
open PySem (Str PyData)
theorem vpair_self {α : Type} (f g : α → PyData) (ps : List α) : vpair (ps.map f) (ps.map g) = ps.map fun p => .tuple [f p, g p] := by
  rw [vpair_map]
  induction ps with
  | nil => rfl
  | cons p ps ih => simp [ih]
theorem vtrip_self {α β : Type} (f g : α → PyData) (k : β → PyData) (ps : List α) (zs : List β) : vtrip (ps.map f) (ps.map g) (zs.map k) = (ps.zip zs).map fun q => .tuple [f q.1, g q.1, k q.2] := by
  rw [vtrip_map]
  induction ps generalizing zs with
  | nil => rfl
  | cons p ps ih =>
    cases zs with
    | nil => rfl
    | cons z zs => simp [ih]
/-- the last day left, of those that come -/
def lastR : List CW → Int
  | [] => 60
  | p :: r => if 0 < p.1 then min (lastR r) p.2.2 else lastR r
def lastsL : List CW → List Int
  | [] => []
  | p :: r => lastR (p :: r) :: lastsL r
/-- the days left of each run, from a first one on -/
def spansG : List CW → Int → List (Option (Int × Int))
  | [], _ => []
  | p :: r, f => if 0 < p.1 then some (max f p.2.1, lastR (p :: r)) :: spansG r (max f p.2.1) else none :: spansG r f
theorem lastsL_len : ∀ ps : List CW, (lastsL ps).length = ps.length
  | [] => rfl
  | p :: r => by show (lastsL r).length + 1 = r.length + 1; rw [lastsL_len r]
theorem spansG_len : ∀ (ps : List CW) (f : Int), (spansG ps f).length = ps.length
  | [], _ => rfl
  | p :: r, f => by
    unfold spansG
    split <;> simp [spansG_len r]
section
variable {L : Nat} {s : VS}
theorem v_spans {b b' : Bool} {ps : List CW} (hl : ps.length ≤ 1000) : vcalls VTb (L + 1) 4 [.d (sqd b (cD ps)), .d (sqd b' (wD ps))] s = .ok (.list ((spansG ps 1).map spD)) s := by
  have ez : vlz [sqd b (cD ps), sqd b' (wD ps)] = some (.list (ps.map fun p => .tuple [.int p.1, winD p.2])) := by
    rw [vlz_is sqd_seq sqd_seq, cD, wD, vpair_self]
  rw [vc4]
  unfold b4
  simp [gl, ez, isFresh]
  rw [← List.map_reverse]
  refine vr_of ?_
  rw [vsat_fin, vsat_bind]
  refine Res_go (Q := fun f s' => s' = s ∧ ∃ s4 s5, f = .nx [some (.d (sqd b (cD ps))), some (.d (sqd b' (wD ps))), some (.d (.list ((lastsL ps).map .int))), some (.d (.int (lastR ps))), s4, s5, none, none]) ?_ ?_
  · refine vloop_inv (k := fun p : CW => PyData.tuple [.int p.1, winD p.2]) (fun r τ s' => s' = s ∧ ∃ d s4 s5, ps = r.reverse ++ d ∧ τ = [some (.d (sqd b (cD ps))), some (.d (sqd b' (wD ps))), some (.d (.list ((lastsL d).map .int))), some (.d (.int (lastR d))), s4, s5, none, none]) ?_ ?_ ⟨rfl, [], _, _, by simp, rfl⟩
    · rintro p r τ s' ⟨rfl, d, s4, s5, e, rfl⟩
      have hd : (lastsL d).length < 16777216 := by
        have := congrArg List.length e
        simp at this
        rw [lastsL_len]
        omega
      refine ⟨_, vtg_2 (by decide) (by decide), ?_⟩
      by_cases c : 0 < p.1
      · simp [c, winD, vidx, L2.atI, L2.ixN, hd]
        exact ⟨p :: d, by simpa using e, by simp [lastsL, lastR, c], by simp [lastR, c]⟩
      · simp [c, winD, vidx, L2.atI, L2.ixN, hd]
        exact ⟨p :: d, by simpa using e, by simp [lastsL, lastR, c], by simp [lastR, c]⟩
    · rintro τ s' ⟨rfl, d, s4, s5, e, rfl⟩
      simp at e
      subst e
      exact ⟨rfl, _, _, rfl⟩
  · rintro f s' ⟨rfl, s4, s5, rfl⟩
    have e3 : vsrc .zip3 [sqd b (cD ps), sqd b' (wD ps), .list ((lastsL ps).map .int)] = some ((ps.zip (lastsL ps)).map fun q => .tuple [.int q.1.1, winD q.1.2, .int q.2]) := by
      rw [vsrc_zip3 sqd_seq sqd_seq seqD_l, cD, wD, vtrip_self]
    simp [e3]
    rw [vsat_bind]
    refine Res_go (Q := fun f s2 => s2 = s' ∧ ∃ s2 s3 s4 s5 s7, f = .nx [some (.d (sqd b (cD ps))), some (.d (sqd b' (wD ps))), s2, s3, s4, s5, some (.d (.list ((spansG ps 1).map spD))), s7]) ?_ ?_
    · refine vloop_inv (k := fun q : CW × Int => PyData.tuple [.int q.1.1, winD q.1.2, .int q.2]) (fun r τ s2 => s2 = s' ∧ ∃ qs d f s2 s3 s4 s5, r = qs.zip (lastsL qs) ∧ d.length + qs.length = ps.length ∧ spansG ps 1 = d ++ spansG qs f ∧ τ = [some (.d (sqd b (cD ps))), some (.d (sqd b' (wD ps))), s2, s3, s4, s5, some (.d (.list (d.map spD))), some (.d (.int f))]) ?_ ?_ ⟨rfl, ps, [], 1, _, _, _, _, rfl, by simp, rfl, rfl⟩
      · rintro q r τ s2 ⟨rfl, qs, d, f, s2, s3, s4, s5, er, el, es, rfl⟩
        refine ⟨_, vtg_3 (by decide) (by decide) (by decide), ?_⟩
        cases qs with
        | nil => cases er
        | cons p qs =>
          cases er
          have hd : d.length < 16777216 := by simp at el; omega
          by_cases c : 0 < p.1
          · simp [c, winD, vidx, L2.atI, L2.ixN, hd]
            exact ⟨qs, rfl, d ++ [some (max f p.2.1, lastR (p :: qs))], by simp at el ⊢; omega, by rw [es]; simp [spansG, c], by simp [spD, winD]⟩
          · simp [c, winD, vidx, L2.atI, L2.ixN, hd]
            exact ⟨qs, rfl, d ++ [none], by simp at el ⊢; omega, by rw [es]; simp [spansG, c], by simp [spD]⟩
      · rintro τ s2 ⟨rfl, qs, d, f, s2, s3, s4, s5, er, el, es, rfl⟩
        have hq : qs = [] := by
          cases qs with
          | nil => rfl
          | cons p qs => cases er
        subst hq
        have : spansG ps 1 = d := by rw [es]; simp [spansG]
        rw [this]
        exact ⟨rfl, _, _, _, _, _, rfl⟩
    · rintro f s2 ⟨rfl, s2, s3, s4, s5, s7, rfl⟩
      simp
end
end Mi


namespace Mi
open PySem (Str PyData)
/-- the run at a place -/
def pAt (ps : List CW) (i : Nat) : CW := ps.getD i (0, 0, 0)
/-- run i can't go ahead of run j -/
def xB (ps : List CW) (i j : Nat) : Bool := decide (0 < (pAt ps i).1) && (decide (0 < (pAt ps j).1) && decide ((pAt ps j).2.2 < (pAt ps i).2.1))
def xPairs (n : Nat) : List (Nat × Nat) := (List.range n).flatMap fun j => (List.range j).map fun i => (i, j)
def crossF (ps : List CW) : Option (Nat × Nat) := (xPairs ps.length).find? fun q => xB ps q.1 q.2
theorem range_pre (i : Nat) : ∀ k, i ≤ k → ∃ r, List.range k = List.range i ++ r
  | 0, h => ⟨[], by rw [show i = 0 by omega]; rfl⟩
  | k + 1, h => by
    by_cases e : i = k + 1
    · exact ⟨[], by rw [e]; simp⟩
    · obtain ⟨r, hr⟩ := range_pre i k (by omega)
      exact ⟨r ++ [k], by rw [List.range_succ, hr, List.append_assoc]⟩
theorem xPairs_succ (k : Nat) : xPairs (k + 1) = xPairs k ++ (List.range k).map fun i => (i, k) := by simp [xPairs, List.range_succ, List.flatMap_append]
theorem xPairs_pre (i : Nat) : ∀ k, i ≤ k → ∃ r, xPairs k = xPairs i ++ r
  | 0, h => ⟨[], by rw [show i = 0 by omega]; rfl⟩
  | k + 1, h => by
    by_cases e : i = k + 1
    · exact ⟨[], by rw [e]; simp⟩
    · obtain ⟨r, hr⟩ := xPairs_pre i k (by omega)
      exact ⟨r ++ (List.range k).map fun i => (i, k), by rw [xPairs_succ, hr, List.append_assoc]⟩
def npD : Option (Nat × Nat) → PyData
  | none => .none
  | some q => .tuple [.int q.1, .int q.2]
theorem cD_at {ps : List CW} {i : Nat} (h : i < ps.length) : L2.atI (cD ps) (i : Nat) = some (.int (pAt ps i).1) := by
  have := vix_nat (f := fun p : CW => PyData.int p.1) (xs := ps) (k := i) (List.getElem?_eq_getElem h)
  rw [pAt, List.getD, List.getElem?_eq_getElem h]
  exact this
theorem wD_at {ps : List CW} {i : Nat} (h : i < ps.length) : L2.atI (wD ps) (i : Nat) = some (winD (pAt ps i).2) := by
  have := vix_nat (f := fun p : CW => winD p.2) (xs := ps) (k := i) (List.getElem?_eq_getElem h)
  rw [pAt, List.getD, List.getElem?_eq_getElem h]
  exact this
@[simp] theorem winD_0 {w : Int × Int} : vidx (winD w) (.int 0) = some (.int w.1) := rfl
@[simp] theorem winD_1 {w : Int × Int} : vidx (winD w) (.int 1) = some (.int w.2) := rfl
@[simp] theorem vix_l {xs : List PyData} {i : Int} : vidx (.list xs) (.int i) = L2.atI xs i := rfl
/-- nothing found yet, up to (i, k) -/
def xNo (ps : List CW) (k i : Nat) : Prop := (xPairs k ++ (List.range i).map fun i => (i, k)).find? (fun q => xB ps q.1 q.2) = none
theorem xNo_next {ps : List CW} {k i : Nat} (h : xNo ps k i) (hx : xB ps i k = false) : xNo ps k (i + 1) := by
  unfold xNo at *
  rw [List.range_succ, List.map_append, ← List.append_assoc, List.find?_append, h]
  simp [hx]
theorem xNo_row {ps : List CW} {k : Nat} (h : xNo ps k k) : xNo ps (k + 1) 0 := by
  unfold xNo at *
  rw [xPairs_succ]
  simpa using h
theorem xNo_hit {ps : List CW} {k i : Nat} (h : xNo ps k i) (hk : k < ps.length) (hi : i < k) (hx : xB ps i k = true) : crossF ps = some (i, k) := by
  obtain ⟨r, hr⟩ := xPairs_pre (k + 1) ps.length hk
  obtain ⟨r', hr'⟩ := range_pre (i + 1) k hi
  unfold crossF
  rw [hr, xPairs_succ, hr', List.range_succ, List.map_append, List.map_append, ← List.append_assoc, ← List.append_assoc, List.append_assoc, List.append_assoc, List.find?_append]
  unfold xNo at h
  rw [h]
  simp [hx]
theorem xNo_end {ps : List CW} (h : xNo ps ps.length 0) : crossF ps = none := by
  unfold xNo at h
  simpa [crossF] using h
section
variable {L : Nat} {s : VS}
theorem v_crossed {b : Bool} {ps : List CW} (hl : ps.length ≤ 1000) : vcalls VTb (L + 1) 5 [.d (sqd b (cD ps)), .d (.list (wD ps))] s = .ok (npD (crossF ps)) s := by
  rw [vc5]
  unfold b5
  simp
  rw [wD, venum_map, ← wD]
  refine vr_of ?_
  rw [vsat_fin, vsat_bind]
  obtain ⟨I, hI⟩ : ∃ I : List (CW × Nat) → VSl → VS → Prop, I = fun r τ s' => s' = s ∧ ∃ k s2 s3 s4, k ≤ ps.length ∧ r = (ps.drop k).zipIdx k ∧ xNo ps k 0 ∧ τ = [some (.d (sqd b (cD ps))), some (.d (.list (wD ps))), s2, s3, s4] := ⟨_, rfl⟩
  refine vloop_inv (k := fun q : CW × Nat => PyData.tuple [.int (q.2 : Nat), winD q.1.2]) I ?_ ?_ ?_
  · rintro ⟨p, k⟩ r τ s' h
    rw [hI] at h
    obtain ⟨rfl, k', s2, s3, s4, hk, er, hx, rfl⟩ := h
    have hk' : k' < ps.length := by
      rcases Nat.lt_or_ge k' ps.length with z | z
      · exact z
      · rw [List.drop_eq_nil_of_le z] at er; cases er
    rw [List.drop_eq_getElem_cons hk', List.zipIdx_cons] at er
    cases er
    have ep : pAt ps k = ps[k] := by simp [pAt, List.getD, List.getElem?_eq_getElem hk']
    refine ⟨_, vtg_2 (by decide) (by decide), ?_⟩
    have hr : ((k : Int) < 4611686018427387904) := by omega
    have hr2 : -4611686018427387904 ≤ (k : Int) := by omega
    simp [hr, hr2]
    rw [vrng_eq]
    obtain ⟨J, hJ⟩ : ∃ J : List Nat → VSl → VS → Prop, J = fun r τ s2 => s2 = s' ∧ ∃ i s4, i ≤ k ∧ r = (List.range' i (k - i)) ∧ xNo ps k i ∧ τ = [some (.d (sqd b (cD ps))), some (.d (.list (wD ps))), some (.d (.int k)), some (.d (winD ps[k].2)), s4] := ⟨_, rfl⟩
    rw [vsat_bind]
    refine vloop_inv (k := fun i : Nat => PyData.int (0 + (i : Int))) J ?_ ?_ ?_
    · rintro i r2 τ s2 h
      rw [hJ] at h
      obtain ⟨rfl, i', s4, hi, er2, hx2, rfl⟩ := h
      have hi' : i' < k := by
        rcases Nat.lt_or_ge i' k with z | z
        · exact z
        · rw [show k - i' = 0 by omega] at er2; cases er2
      rw [show k - i' = (k - i' - 1) + 1 by omega, List.range'_succ] at er2
      cases er2
      refine ⟨_, rfl, ?_⟩
      have xe : xB ps i k = (decide (0 < (pAt ps i).1) && (decide (0 < (pAt ps k).1) && decide (ps[k].2.2 < (pAt ps i).2.1))) := by rw [xB, ep]
      simp only [Int.zero_add]
      simp [cD_at (show i < ps.length by omega), cD_at hk', wD_at (show i < ps.length by omega)]
      by_cases c1 : 0 < (pAt ps i).1
      · by_cases c2 : 0 < (pAt ps k).1
        · by_cases c3 : ps[k].2.2 < (pAt ps i).2.1
          · simp [c1, c2, c3]
            rw [xNo_hit hx2 hk' hi' (by rw [xe]; simp [c1, c2, c3])]
            rfl
          · simp [c1, c2, c3]
            rw [hJ]
            exact ⟨rfl, i + 1, _, by omega, by rw [show k - (i + 1) = k - i - 1 by omega], xNo_next hx2 (by rw [xe]; simp [c1, c2, c3]), rfl⟩
        · simp [c1, c2]
          rw [hJ]
          exact ⟨rfl, i + 1, _, by omega, by rw [show k - (i + 1) = k - i - 1 by omega], xNo_next hx2 (by rw [xe]; simp [c1, c2]), rfl⟩
      · simp [c1]
        rw [hJ]
        exact ⟨rfl, i + 1, _, by omega, by rw [show k - (i + 1) = k - i - 1 by omega], xNo_next hx2 (by rw [xe]; simp [c1]), rfl⟩
    · rintro τ s2 h
      rw [hJ] at h
      obtain ⟨rfl, i', s4, hi, er2, hx2, rfl⟩ := h
      have : i' = k := by
        rcases Nat.lt_or_ge i' k with z | z
        · rw [show k - i' = (k - i' - 1) + 1 by omega, List.range'_succ] at er2; cases er2
        · omega
      subst this
      simp
      rw [hI]
      exact ⟨rfl, i' + 1, _, _, _, by omega, rfl, xNo_row hx2, rfl⟩
    · rw [hJ]
      exact ⟨rfl, 0, _, Nat.zero_le _, by rw [List.range_eq_range']; simp, hx, rfl⟩
  · rintro τ s' h
    rw [hI] at h
    obtain ⟨rfl, k', s2, s3, s4, hk, er, hx, rfl⟩ := h
    have : k' = ps.length := by
      rcases Nat.lt_or_ge k' ps.length with z | z
      · rw [List.drop_eq_getElem_cons z, List.zipIdx_cons] at er; cases er
      · omega
    subst this
    simp [xNo_end hx, npD]
  · rw [hI]
    exact ⟨rfl, 0, _, _, _, by simp, by simp, by simp [xNo, xPairs], rfl⟩
end
end Mi


namespace Mi
open PySem (Str PyData)
/-- how many loads have all their days left from b to e -/
def withF : List (CW × Option (Int × Int)) → Int → Int → Int
  | [], _, _ => 0
  | q :: r, b, e => (match q.2 with
    | none => 0
    | some w => if b ≤ w.1 ∧ w.2 ≤ e then q.1.1 else 0) + withF r b e
/-- a load's day: the next one, not ahead of f, k a day -/
def dstep (f k : Int) (σ : Int × Int) : Int × Int :=
  let σ1 := if σ.1 < f then (f, 0) else σ
  let σ2 := if σ1.2 = k then (σ1.1 + 1, 0) else σ1
  (σ2.1, σ2.2 + 1)
def daysN (f k : Int) : Nat → Int × Int → List Int × (Int × Int)
  | 0, σ => ([], σ)
  | n + 1, σ => ((dstep f k σ).1 :: (daysN f k n (dstep f k σ)).1, (daysN f k n (dstep f k σ)).2)
def daysF (k : Int) : List (CW × Option (Int × Int)) → Int × Int → List Int
  | [], _ => []
  | q :: r, σ => match q.2 with
    | none => daysF k r σ
    | some w => (daysN w.1 k q.1.1.toNat σ).1 ++ daysF k r (daysN w.1 k q.1.1.toNat σ).2
/-- what spans are: days just where there are loads -/
def Spn (qs : List (CW × Option (Int × Int))) : Prop := ∀ q ∈ qs, (0 < q.1.1 ↔ q.2.isSome = true)
@[simp] theorem spD_n : spD none = .none := rfl
@[simp] theorem spD_s {w : Int × Int} : spD (some w) = winD w := rfl
@[simp] theorem isNon_win {w : Int × Int} : isNonD (winD w) = false := rfl
theorem vpair_two {α β γ : Type} (f : α → PyData) (g : β → PyData) (xs : List (α × β)) (h : γ) : vpair (xs.map fun q => f q.1) (xs.map fun q => g q.2) = xs.map fun q => .tuple [f q.1, g q.2] := by
  rw [vpair_map]
  induction xs with
  | nil => rfl
  | cons q xs ih => simp [ih]
section
variable {L : Nat} {s : VS}
theorem v_within {bb : Bool} {qs : List (CW × Option (Int × Int))} {b e : Int} : vcalls VTb (L + 1) 6 [.d (sqd bb (qs.map fun q => .int q.1.1)), .d (.list (qs.map fun q => spD q.2)), .d (.int b), .d (.int e)] s = .ok (.int (withF qs b e)) s := by
  have ez : vsrc .zip [sqd bb (qs.map fun q => .int q.1.1), .list (qs.map fun q => spD q.2)] = some (qs.map fun q => .tuple [.int q.1.1, spD q.2]) := by
    rw [vsrc_zip sqd_seq seqD_l, vpair_two (fun p : CW => PyData.int p.1) spD qs ()]
  rw [vc6]
  unfold b6
  simp [ez]
  refine vr_of ?_
  rw [vsat_fin, vsat_bind]
  obtain ⟨I, hI⟩ : ∃ I : List (CW × Option (Int × Int)) → VSl → VS → Prop, I = fun r τ s' => s' = s ∧ ∃ f s5 s6, f + withF r b e = withF qs b e ∧ τ = [some (.d (sqd bb (qs.map fun q => .int q.1.1))), some (.d (.list (qs.map fun q => spD q.2))), some (.d (.int b)), some (.d (.int e)), some (.d (.int f)), s5, s6] := ⟨_, rfl⟩
  refine vloop_inv (k := fun q : CW × Option (Int × Int) => PyData.tuple [.int q.1.1, spD q.2]) I ?_ ?_ ?_
  · rintro ⟨p, o⟩ r τ s' h
    rw [hI] at h
    obtain ⟨rfl, f, s5, s6, ef, rfl⟩ := h
    refine ⟨_, vtg_2 (by decide) (by decide), ?_⟩
    cases o with
    | none =>
      simp
      rw [hI]
      exact ⟨rfl, f, _, _, by simpa [withF] using ef, rfl⟩
    | some w =>
      simp
      rw [withF] at ef
      by_cases c1 : b ≤ w.1
      · by_cases c2 : w.2 ≤ e
        · simp [c1, c2] at ef ⊢
          rw [hI]
          exact ⟨rfl, f + p.1, _, _, by omega, rfl⟩
        · simp [c1, c2] at ef ⊢
          rw [hI]
          exact ⟨rfl, f, _, _, by omega, rfl⟩
      · simp [c1] at ef ⊢
        rw [hI]
        exact ⟨rfl, f, _, _, by omega, rfl⟩
  · rintro τ s' h
    rw [hI] at h
    obtain ⟨rfl, f, s5, s6, ef, rfl⟩ := h
    simp [withF] at ef ⊢
    exact ef
  · rw [hI]
    exact ⟨rfl, 0, _, _, by omega, rfl⟩
theorem daysN_len (f k : Int) : ∀ (n : Nat) (σ : Int × Int), (daysN f k n σ).1.length = n
  | 0, _ => rfl
  | n + 1, σ => by simp [daysN, daysN_len f k n]
def sumC : List (CW × Option (Int × Int)) → Nat
  | [] => 0
  | q :: r => q.1.1.toNat + sumC r
theorem v_days {bb : Bool} {qs : List (CW × Option (Int × Int))} {k : Int} (hq : Spn qs) (hc : ∀ q ∈ qs, 0 ≤ q.1.1 ∧ q.1.1 ≤ 1000) (hs : sumC qs ≤ 1000000) : vcalls VTb (L + 1) 7 [.d (sqd bb (qs.map fun q => .int q.1.1)), .d (.list (qs.map fun q => spD q.2)), .d (.int k)] s = .ok (.list ((daysF k qs (1, 0)).map .int)) s := by
  have ez : vsrc .zip [sqd bb (qs.map fun q => .int q.1.1), .list (qs.map fun q => spD q.2)] = some (qs.map fun q => .tuple [.int q.1.1, spD q.2]) := by
    rw [vsrc_zip sqd_seq seqD_l, vpair_two (fun p : CW => PyData.int p.1) spD qs ()]
  rw [vc7]
  unfold b7
  simp [ez, vtg, vsetAll]
  refine vr_of ?_
  rw [vsat_fin, vsat_bind]
  obtain ⟨I, hI⟩ : ∃ I : List (CW × Option (Int × Int)) → VSl → VS → Prop, I = fun r τ s' => s' = s ∧ ∃ d σ s6 s7 s8, d.length + sumC r ≤ 1000000 ∧ (∀ q ∈ r, q ∈ qs) ∧ daysF k qs (1, 0) = d ++ daysF k r σ ∧ τ = [some (.d (sqd bb (qs.map fun q => .int q.1.1))), some (.d (.list (qs.map fun q => spD q.2))), some (.d (.int k)), some (.d (.list (d.map .int))), some (.d (.int σ.1)), some (.d (.int σ.2)), s6, s7, s8] := ⟨_, rfl⟩
  refine vloop_inv (k := fun q : CW × Option (Int × Int) => PyData.tuple [.int q.1.1, spD q.2]) I ?_ ?_ ?_
  · rintro ⟨p, o⟩ r τ s' h
    rw [hI] at h
    obtain ⟨rfl, d, σ, s6, s7, s8, hd, hr, ef, rfl⟩ := h
    refine ⟨_, vtg_2 (by decide) (by decide), ?_⟩
    have h0 := hq _ (hr _ (List.mem_cons_self ..))
    have h1 := hc _ (hr _ (List.mem_cons_self ..))
    have hr' := fun q (z : q ∈ r) => hr q (List.mem_cons_of_mem _ z)
    simp only [sumC] at hd
    dsimp only at h0 h1
    have hrg : -4611686018427387904 ≤ p.1 ∨ p.1 < 0 := by omega
    cases o with
    | none =>
      have hp : p.1 ≤ 0 := by simp at h0; omega
      have h2 : p.1 < 4611686018427387904 := by omega
      have h3 : -4611686018427387904 ≤ p.1 := by omega
      simp [h3, h2, show p.1.toNat = 0 by omega, vrng, vloop]
      rw [hI]
      exact ⟨rfl, d, σ, _, _, _, by omega, hr', by rw [ef]; rfl, rfl⟩
    | some w =>
      have hp : 0 < p.1 := by simpa using h0
      have h2 : p.1 < 4611686018427387904 := by omega
      have h3 : -4611686018427387904 ≤ p.1 := by omega
      simp [h2, h3]
      rw [vrng_eq]
      obtain ⟨n, hn⟩ : ∃ n : Nat, p.1.toNat = n := ⟨_, rfl⟩
      rw [hn, vsat_bind]
      obtain ⟨J, hJ⟩ : ∃ J : List Nat → VSl → VS → Prop, J = fun r2 τ s2 => s2 = s' ∧ ∃ d2 σ2 s8, d2.length + r2.length + sumC r ≤ 1000000 ∧ daysF k qs (1, 0) = d2 ++ (daysN w.1 k r2.length σ2).1 ++ daysF k r (daysN w.1 k r2.length σ2).2 ∧ τ = [some (.d (sqd bb (qs.map fun q => .int q.1.1))), some (.d (.list (qs.map fun q => spD q.2))), some (.d (.int k)), some (.d (.list (d2.map .int))), some (.d (.int σ2.1)), some (.d (.int σ2.2)), some (.d (.int p.1)), some (.d (winD w)), s8] := ⟨_, rfl⟩
      refine vloop_inv (k := fun i : Nat => PyData.int (0 + (i : Int))) J ?_ ?_ ?_
      · rintro i r2 τ s2 h
        rw [hJ] at h
        obtain ⟨rfl, d2, σ2, s8', hd2, e2, rfl⟩ := h
        refine ⟨_, rfl, ?_⟩
        have hl : d2.length < 16777216 := by simp at hd2; omega
        have key : ∀ a b : Int, dstep w.1 k σ2 = (a, b) → (daysN w.1 k (i :: r2).length σ2).1 = a :: (daysN w.1 k r2.length (a, b)).1 ∧ (daysN w.1 k (i :: r2).length σ2).2 = (daysN w.1 k r2.length (a, b)).2 := fun a b e => by
          rw [List.length_cons, daysN, e]
          exact ⟨rfl, rfl⟩
        have fin : ∀ a b : Int, dstep w.1 k σ2 = (a, b) → J r2 [some (.d (sqd bb (qs.map fun q => .int q.1.1))), some (.d (.list (qs.map fun q => spD q.2))), some (.d (.int k)), some (.d (.list (d2.map .int ++ [.int a]))), some (.d (.int a)), some (.d (.int b)), some (.d (.int p.1)), some (.d (winD w)), some (.d (.int (0 + (i : Int))))] s2 := fun a b e => by
          obtain ⟨k1, k2⟩ := key a b e
          rw [k1, k2] at e2
          rw [hJ]
          exact ⟨rfl, d2 ++ [a], (a, b), some (.d (.int (0 + (i : Int)))), by simp at hd2 ⊢; omega, by rw [e2]; simp, by rw [List.map_append]; rfl⟩
        by_cases c1 : σ2.1 < w.1
        · by_cases c2 : (0 : Int) = k
          · subst c2
            simp [c1, hl, vsetAll]
            have := fin (w.1 + 1) 1 (by simp [dstep, c1])
            simpa using this
          · simp [c1, c2, hl, vsetAll]
            have := fin w.1 1 (by simp [dstep, c1, c2])
            simpa using this
        · by_cases c2 : σ2.2 = k
          · simp [c1, c2, hl, vsetAll]
            have := fin (σ2.1 + 1) 1 (by simp [dstep, c1, c2])
            simpa using this
          · simp [c1, c2, hl, vsetAll]
            have := fin σ2.1 (σ2.2 + 1) (by simp [dstep, c1, c2])
            simpa using this
      · rintro τ s2 h
        rw [hJ] at h
        obtain ⟨rfl, d2, σ2, s8', hd2, e2, rfl⟩ := h
        simp [daysN] at e2 hd2 ⊢
        rw [hI]
        exact ⟨rfl, d2, σ2, _, _, _, hd2, hr', e2, rfl⟩
      · rw [hJ]
        exact ⟨rfl, d, σ, _, by rw [List.length_range]; omega, by rw [ef, List.length_range, daysF, hn]; simp, rfl⟩
  · rintro τ s' h
    rw [hI] at h
    obtain ⟨rfl, d, σ, s6, s7, s8, hd, hr, ef, rfl⟩ := h
    simp [daysF] at ef ⊢
    rw [ef]
  · rw [hI]
    exact ⟨rfl, [], (1, 0), _, _, _, by simpa using hs, fun _ z => z, rfl, rfl⟩
end
end Mi


namespace Mi
open PySem (Str PyData)
/-- runs with their days left -/
def runsQ (ps : List CW) : List (CW × Option (Int × Int)) := ps.zip (spansG ps 1)
theorem spansG_spn : ∀ (ps : List CW) (f : Int), Spn (ps.zip (spansG ps f))
  | [], _ => fun q hq => by cases hq
  | p :: r, f => by
    unfold spansG
    split
    · rename_i c
      intro q hq
      rcases List.mem_cons.mp hq with rfl | hq
      · simpa using c
      · exact spansG_spn r _ q hq
    · rename_i c
      intro q hq
      rcases List.mem_cons.mp hq with rfl | hq
      · simpa using c
      · exact spansG_spn r _ q hq
theorem runsQ_1 (ps : List CW) : ((runsQ ps).map fun q => PyData.int q.1.1) = cD ps := by
  have : (runsQ ps).map (·.1) = ps := by
    unfold runsQ
    rw [List.map_fst_zip]
    rw [spansG_len]
    exact Nat.le_refl _
  unfold cD
  conv => rhs; rw [← this]
  rw [List.map_map]
  rfl
theorem runsQ_2 (ps : List CW) : ((runsQ ps).map fun q => spD q.2) = (spansG ps 1).map spD := by
  have : (runsQ ps).map (·.2) = spansG ps 1 := by
    unfold runsQ
    rw [List.map_snd_zip]
    rw [spansG_len]
    exact Nat.le_refl _
  conv => rhs; rw [← this]
  rw [List.map_map]
  rfl
theorem sumC_le : ∀ (qs : List (CW × Option (Int × Int))), (∀ q ∈ qs, q.1.1 ≤ 60) → sumC qs ≤ 60 * qs.length
  | [], _ => Nat.le_refl _
  | q :: r, h => by
    have h1 := h q (List.mem_cons_self ..)
    have h2 := sumC_le r fun x hx => h x (List.mem_cons_of_mem _ hx)
    show q.1.1.toNat + sumC r ≤ 60 * (r.length + 1)
    omega
theorem runsQ_mem {ps : List CW} {q : CW × Option (Int × Int)} (h : q ∈ runsQ ps) : q.1 ∈ ps := (List.of_mem_zip h).1
/-- the most that the rows of days ask for, one row more -/
def bstep (qs : List (CW × Option (Int × Int))) (b : Int) (st : Int × Option (Int × Int)) (e : Int) : Int × Option (Int × Int) :=
  let c := withF qs b e / (e - b + 1) + if 0 < withF qs b e % (e - b + 1) then 1 else 0
  if st.1 < c then (c, some (b, e)) else st
def brow (qs : List (CW × Option (Int × Int))) (days : Int) (st : Int × Option (Int × Int)) (b : Int) : Int × Option (Int × Int) := ((List.range (days + 1 - b).toNat).map fun (j : Nat) => b + (j : Int)).foldl (bstep qs b) st
def bestF (qs : List (CW × Option (Int × Int))) (days : Int) : Int × Option (Int × Int) := ((List.range days.toNat).map fun (j : Nat) => 1 + (j : Int)).foldl (brow qs days) (0, none)
/-- what is told -/
def fewD (ps : List CW) (days : Int) : PyData :=
  match crossF ps with
  | some q => .tuple [.str z1, npD (some q)]
  | none => .tuple [.str z0, .int (bestF (runsQ ps) days).1, .list ((daysF (bestF (runsQ ps) days).1 (runsQ ps) (1, 0)).map .int), spD (bestF (runsQ ps) days).2]
@[simp] theorem isNonD_np {q : Option (Nat × Nat)} : isNonD (npD q) = q.isNone := by cases q <;> rfl
section
variable {L : Nat} {s : VS}
theorem v_fewest {bb : Bool} {ps : List CW} {days : Int} (G : Gd ps days) : vcalls VTb (L + 4) 8 [.d (sqd bb (cD ps)), .d (.list (wD ps)), .d (.int days)] s = .ok (fewD ps days) s := by
  have hl : ps.length ≤ 1000 := by have := G.len; omega
  rw [vc8]
  unfold b8
  have e1 := v_need (L := L) (s := s) (b := bb) (b' := false) G
  have e2 := v_crossed (L := L + 2) (s := s) (b := bb) hl
  have e3 := v_spans (L := L + 2) (s := s) (b := bb) (b' := false) hl
  simp only [sqd_f] at e1 e3
  simp [e1, e2]
  cases hx : crossF ps with
  | some q => simp [fewD, hx]
  | none =>
    have hd := G.day
    have h1 : (days + 1 : Int) < 4611686018427387904 := by omega
    have h2 : -4611686018427387904 ≤ (days + 1 : Int) := by omega
    simp [e3, h1, h2]
    rw [vrng_eq, show (fun k : Nat => PyData.int (1 + (k : Int))) = PyData.int ∘ fun (k : Nat) => 1 + (k : Int) from rfl, ← List.map_map]
    refine vr_of ?_
    rw [vsat_fin, vsat_bind]
    have hw : ∀ (L' : Nat) (s' : VS) b e, vcalls VTb (L' + 1) 6 [.d (sqd bb (cD ps)), .d (.list ((spansG ps 1).map spD)), .d (.int b), .d (.int e)] s' = .ok (.int (withF (runsQ ps) b e)) s' := fun L' s' b e => by
      rw [← runsQ_1, ← runsQ_2]; exact v_within
    obtain ⟨I, hI⟩ : ∃ I : List Int → VSl → VS → Prop, I = fun r τ s' => s' = s ∧ (∀ b ∈ r, 1 ≤ b ∧ b ≤ days) ∧ ∃ st s6 s7 s8 s9, bestF (runsQ ps) days = r.foldl (brow (runsQ ps) days) st ∧ τ = [some (.d (sqd bb (cD ps))), some (.d (.list (wD ps))), some (.d (.int days)), some (.d (spD st.2)), some (.d (.list ((spansG ps 1).map spD))), some (.d (.int st.1)), s6, s7, s8, s9] := ⟨_, rfl⟩
    refine vloop_inv (k := PyData.int) I ?_ ?_ ?_
    · rintro b r τ s' h
      rw [hI] at h
      obtain ⟨rfl, hb, st, s6, s7, s8, s9, ef, rfl⟩ := h
      have hb1 := hb b (List.mem_cons_self ..)
      have hbr := fun x (z : x ∈ r) => hb x (List.mem_cons_of_mem _ z)
      refine ⟨_, rfl, ?_⟩
      have h3 : b < 4611686018427387904 := by omega
      have h4 : -4611686018427387904 ≤ b := by omega
      simp [h1, h2, h3, h4]
      rw [vrng_eq, show (fun k : Nat => PyData.int (b + (k : Int))) = PyData.int ∘ fun (k : Nat) => b + (k : Int) from rfl, ← List.map_map, vsat_bind]
      obtain ⟨J, hJ⟩ : ∃ J : List Int → VSl → VS → Prop, J = fun r2 τ s2 => s2 = s' ∧ (∀ e ∈ r2, b ≤ e ∧ e ≤ days) ∧ ∃ st s7 s8 s9, bestF (runsQ ps) days = r.foldl (brow (runsQ ps) days) (r2.foldl (bstep (runsQ ps) b) st) ∧ τ = [some (.d (sqd bb (cD ps))), some (.d (.list (wD ps))), some (.d (.int days)), some (.d (spD st.2)), some (.d (.list ((spansG ps 1).map spD))), some (.d (.int st.1)), some (.d (.int b)), s7, s8, s9] := ⟨_, rfl⟩
      refine vloop_inv (k := PyData.int) J ?_ ?_ ?_
      · rintro e r2 τ s2 h
        rw [hJ] at h
        obtain ⟨rfl, he, st, s7, s8, s9, ef, rfl⟩ := h
        have he1 := he e (List.mem_cons_self ..)
        have her := fun x (z : x ∈ r2) => he x (List.mem_cons_of_mem _ z)
        refine ⟨_, rfl, ?_⟩
        have h5 : 0 < e - b + 1 := by omega
        have h6 : e - b + 1 < 1073741824 := by omega
        rw [List.foldl_cons] at ef
        simp [hw, h5, h6, vtg, vsetAll]
        obtain ⟨m, hm⟩ : ∃ m, (withF (runsQ ps) b e / (e - b + 1) + if 0 < withF (runsQ ps) b e % (e - b + 1) then 1 else 0) = m := ⟨_, rfl⟩
        have eb : bstep (runsQ ps) b st e = if st.1 < m then (m, some (b, e)) else st := by rw [← hm]; rfl
        simp only [hm]
        rw [eb] at ef
        by_cases c : st.1 < m
        · rw [if_pos c] at ef
          simp [c]
          rw [hJ]
          exact ⟨rfl, her, _, _, _, _, ef, rfl⟩
        · rw [if_neg c] at ef
          simp [c]
          rw [hJ]
          exact ⟨rfl, her, _, _, _, _, ef, rfl⟩
      · rintro τ s2 h
        rw [hJ] at h
        obtain ⟨rfl, he, st, s7, s8, s9, ef, rfl⟩ := h
        simp
        rw [hI]
        exact ⟨rfl, hbr, st, _, _, _, _, ef, rfl⟩
      · rw [hJ]
        refine ⟨rfl, fun e he => ?_, st, _, _, _, ef, rfl⟩
        obtain ⟨j, hj, rfl⟩ := List.mem_map.mp he
        have := List.mem_range.mp hj
        omega
    · rintro τ s' h
      rw [hI] at h
      obtain ⟨rfl, hb, st, s6, s7, s8, s9, ef, rfl⟩ := h
      have eb : bestF (runsQ ps) days = st := ef
      have ed : ∀ L', vcalls VTb (L' + 1) 7 [.d (sqd bb (cD ps)), .d (.list ((spansG ps 1).map spD)), .d (.int st.1)] s' = .ok (.list ((daysF st.1 (runsQ ps) (1, 0)).map .int)) s' := fun L' => by
        rw [← runsQ_1, ← runsQ_2]
        refine v_days (spansG_spn ps 1) (fun q hq => ?_) ?_
        · have := G.cnt _ (runsQ_mem hq)
          omega
        · have := sumC_le (runsQ ps) fun q hq => (G.cnt _ (runsQ_mem hq)).2
          have h3 : (runsQ ps).length ≤ ps.length := by unfold runsQ; rw [List.length_zip]; exact Nat.min_le_left _ _
          omega
      simp [ed, fewD, hx, eb]
    · rw [hI]
      refine ⟨rfl, fun b hb => ?_, (0, none), _, _, _, _, rfl, rfl⟩
      obtain ⟨j, hj, rfl⟩ := List.mem_map.mp hb
      have := List.mem_range.mp hj
      omega
end
end Mi


namespace Mi
/-! loads by their days: the plain law -/
/-- load by load the earliest day -/
def edf (k : Int) : List (Int × Int) → Int × Int → List Int
  | [], _ => []
  | w :: r, σ => (dstep w.1 k σ).1 :: edf k r (dstep w.1 k σ)
/-- the loads of runs -/
def lds : List (CW × Option (Int × Int)) → List (Int × Int)
  | [] => []
  | q :: r => (match q.2 with
    | none => []
    | some w => List.replicate q.1.1.toNat w) ++ lds r
theorem edf_rep (k : Int) (w : Int × Int) (r : List (Int × Int)) : ∀ (n : Nat) (σ : Int × Int), edf k (List.replicate n w ++ r) σ = (daysN w.1 k n σ).1 ++ edf k r (daysN w.1 k n σ).2
  | 0, σ => rfl
  | n + 1, σ => by
    rw [List.replicate_succ, List.cons_append]
    show _ :: edf k (List.replicate n w ++ r) _ = _
    rw [edf_rep k w r n]
    rfl
theorem daysF_edf (k : Int) : ∀ (qs : List (CW × Option (Int × Int))) (σ : Int × Int), daysF k qs σ = edf k (lds qs) σ
  | [], _ => rfl
  | q :: r, σ => by
    unfold daysF lds
    cases q.2 with
    | none => exact daysF_edf k r σ
    | some w =>
      dsimp only
      rw [edf_rep, daysF_edf k r]
theorem edf_len (k : Int) : ∀ (ls : List (Int × Int)) (σ : Int × Int), (edf k ls σ).length = ls.length
  | [], _ => rfl
  | w :: r, σ => by show (edf k r _).length + 1 = _; rw [edf_len k r]; rfl
/-- what is known on the way: H are the days given, the last one is σ's -/
structure Ei (k : Int) (H : List Int) (σ : Int × Int) : Prop where
  le : ∀ x ∈ H, x ≤ σ.1
  ct : (H.count σ.1 : Int) = σ.2
  g0 : 0 ≤ σ.2
  gk : σ.2 ≤ k
  all : ∀ x, (H.count x : Int) ≤ k
theorem Ei.step {k : Int} {H : List Int} {σ : Int × Int} (h : Ei k H σ) (hk : 1 ≤ k) (f : Int) : Ei k (H ++ [(dstep f k σ).1]) (dstep f k σ) ∧ σ.1 ≤ (dstep f k σ).1 ∧ f ≤ (dstep f k σ).1 ∧ 1 ≤ (dstep f k σ).2 ∧
    ((σ.1 < f ∧ dstep f k σ = (f, 1)) ∨ (f ≤ σ.1 ∧ σ.2 = k ∧ dstep f k σ = (σ.1 + 1, 1)) ∨ (f ≤ σ.1 ∧ σ.2 < k ∧ dstep f k σ = (σ.1, σ.2 + 1))) := by
  have none_above : ∀ y, σ.1 < y → H.count y = 0 := fun y hy => List.count_eq_zero.mpr fun hm => by have := h.le y hm; omega
  have mk : ∀ y g, σ.1 ≤ y → (H.count y : Int) + 1 = g → g ≤ k → Ei k (H ++ [y]) (y, g) := fun y g hy hc hg => by
    refine ⟨fun x hx => ?_, ?_, ?_, hg, fun x => ?_⟩
    · rcases List.mem_append.mp hx with z | z
      · have := h.le x z; dsimp only; omega
      · rw [List.mem_singleton.mp z]; exact Int.le_refl _
    · dsimp only
      rw [List.count_append]
      simp
      omega
    · dsimp only; omega
    · rw [List.count_append]
      by_cases e : x = y
      · subst e
        simp
        omega
      · have : [y].count x = 0 := List.count_eq_zero.mpr (by simpa using e)
        rw [this]
        exact h.all x
  by_cases c1 : σ.1 < f
  · have e : dstep f k σ = (f, 1) := by
      unfold dstep
      have : ¬ (0 : Int) = k := by omega
      simp [c1, this]
    rw [e]
    exact ⟨mk f 1 (by omega) (by rw [none_above f c1]; rfl) hk, by dsimp only; omega, Int.le_refl _, Int.le_refl _, .inl ⟨c1, rfl⟩⟩
  · by_cases c2 : σ.2 = k
    · have e : dstep f k σ = (σ.1 + 1, 1) := by
        unfold dstep
        simp [c1, c2]
      rw [e]
      exact ⟨mk _ 1 (by omega) (by rw [none_above _ (by omega)]; rfl) hk, by dsimp only; omega, by dsimp only; omega, Int.le_refl _, .inr (.inl ⟨by omega, c2, rfl⟩)⟩
    · have e : dstep f k σ = (σ.1, σ.2 + 1) := by
        unfold dstep
        simp [c1, c2]
      have := h.gk
      have := h.g0
      rw [e]
      exact ⟨mk _ _ (Int.le_refl _) (by rw [h.ct]) (by omega), Int.le_refl _, by dsimp only; omega, by dsimp only; omega, .inr (.inr ⟨by omega, by omega, rfl⟩)⟩
theorem ei_start {k : Int} (hk : 0 ≤ k) : Ei k [] (1, 0) := ⟨fun x hx => (by cases hx), rfl, Int.le_refl _, hk, fun x => (by simpa using hk)⟩
/-- no day too often -/
theorem edf_few {k : Int} (hk : 1 ≤ k) : ∀ {ls : List (Int × Int)} {H : List Int} {σ : Int × Int}, Ei k H σ → ∀ x, ((H ++ edf k ls σ).count x : Int) ≤ k
  | [], H, σ, h, x => by simpa [edf] using h.all x
  | w :: r, H, σ, h, x => by
    have := edf_few hk (ls := r) (h.step hk w.1).1 x
    simpa [edf] using this
/-- days that don't fall -/
def Up : List Int → Prop
  | [] => True
  | x :: r => (∀ y ∈ r, x ≤ y) ∧ Up r
theorem edf_ge {k : Int} (hk : 1 ≤ k) : ∀ {ls : List (Int × Int)} {H : List Int} {σ : Int × Int}, Ei k H σ → (∀ y ∈ edf k ls σ, σ.1 ≤ y) ∧ Up (edf k ls σ) ∧ All2 (fun w x => w.1 ≤ x) ls (edf k ls σ)
  | [], H, σ, h => ⟨fun y hy => (by cases hy), trivial, .nil⟩
  | w :: r, H, σ, h => by
    obtain ⟨s1, s2, s3, _⟩ := h.step hk w.1
    obtain ⟨i1, i2, i3⟩ := edf_ge hk (ls := r) s1
    refine ⟨fun y hy => ?_, ⟨i1, i2⟩, .cons s3 i3⟩
    rcases List.mem_cons.mp hy with rfl | hy
    · exact s2
    · have := i1 y hy; omega
theorem count_le {d : Int} : ∀ {H D : List Int}, All2 (fun a b : Int => a ≤ b) H D → (∀ x ∈ D, x ≤ d) → H.count d ≤ D.count d
  | _, _, .nil, _ => Nat.le_refl _
  | a :: H, b :: D, .cons h t, hd => by
    have ih := count_le t fun x hx => hd x (List.mem_cons_of_mem _ hx)
    have hb := hd b (List.mem_cons_self ..)
    rw [List.count_cons, List.count_cons]
    by_cases e : a = d
    · have : b = d := by omega
      simp [e, this]
      exact ih
    · have : (a == d) = false := by simpa using e
      rw [this]
      simp
      omega
/-- no row with so few a day is earlier anywhere -/
theorem edf_first {k : Int} (hk : 1 ≤ k) : ∀ {ls : List (Int × Int)} {H D : List Int} {σ : Int × Int} {d : List Int}, Ei k H σ → All2 (fun a b : Int => a ≤ b) H D → (H = [] → σ = (1, 0)) → (H ≠ [] → ∃ x ∈ D, σ.1 ≤ x) → (∀ x ∈ D, ∀ y ∈ d, x ≤ y) → Up d → All2 (fun w x => w.1 ≤ x) ls d → (∀ w ∈ ls, 1 ≤ w.1) →
    (∀ x, ((D ++ d).count x : Int) ≤ k) → All2 (fun a b : Int => a ≤ b) (edf k ls σ) d
  | [], H, D, σ, d, _, _, _, _, _, _, a, _, _ => by cases a; exact .nil
  | w :: r, H, D, σ, d, h, hd, h0, h1, hD, hu, a, hw, hc => by
    cases a with
    | cons a1 a2 =>
      rename_i x d
      obtain ⟨s1, s2, s3, s4, s5⟩ := h.step hk w.1
      have hx : (dstep w.1 k σ).1 ≤ x := by
        have hs : H ≠ [] → σ.1 ≤ x := fun z => by
          obtain ⟨y, hy, hle⟩ := h1 z
          have := hD y hy x (List.mem_cons_self ..)
          omega
        rcases s5 with ⟨_, e⟩ | ⟨c1, c2, e⟩ | ⟨c1, c2, e⟩
        · rw [e]; exact a1
        · rw [e]
          have hne : H ≠ [] := fun z => by
            have := h0 z
            rw [this] at c2
            dsimp only at c2
            omega
          have hsx := hs hne
          refine Classical.byContradiction fun z => ?_
          have ex : x = σ.1 := by dsimp only at z; omega
          have k1 := count_le (d := σ.1) hd fun y hy => by
            have := hD y hy x (List.mem_cons_self ..)
            omega
          have k2 := hc σ.1
          rw [List.count_append, List.count_cons, ex] at k2
          have k3 := h.ct
          simp at k2
          omega
        · rw [e]
          by_cases z : H = []
          · have := h0 z
            have := hw w (List.mem_cons_self ..)
            rw [h0 z]
            dsimp only
            omega
          · exact hs z
      refine .cons hx ?_
      have hd2 : All2 (fun a b : Int => a ≤ b) (H ++ [(dstep w.1 k σ).1]) (D ++ [x]) := all2_app hd (.cons hx .nil)
      refine edf_first hk (H := H ++ [(dstep w.1 k σ).1]) (D := D ++ [x]) s1 hd2 (fun z => by simp at z) (fun _ => ⟨x, by simp, hx⟩) (fun y hy z hz => ?_) hu.2 a2 (fun y hy => hw y (List.mem_cons_of_mem _ hy)) fun y => by simpa using hc y
      rcases List.mem_append.mp hy with m | m
      · exact hD y m z (List.mem_cons_of_mem _ hz)
      · rw [List.mem_singleton.mp m]; exact hu.1 z hz
end Mi


namespace Mi
def inB (b e : Int) (w : Int × Int) : Bool := decide (b ≤ w.1) && decide (w.2 ≤ e)
/-- days that rise on both sides -/
def Mon : List (Int × Int) → Prop
  | [] => True
  | w :: r => (∀ y ∈ r, w.1 ≤ y.1 ∧ w.2 ≤ y.2) ∧ Mon r
theorem countP_all {α : Type} {p : α → Bool} : ∀ {l : List α}, (∀ x ∈ l, p x = true) → l.countP p = l.length
  | [], _ => rfl
  | x :: l, h => by
    rw [List.countP_cons, h x (List.mem_cons_self ..), countP_all fun y hy => h y (List.mem_cons_of_mem _ hy)]
    rfl
/-- where no row of days is too full, each load's day is within its days -/
theorem edf_fit {k days : Int} (hk : 1 ≤ k) {Ls : List (Int × Int)} (den : ∀ b e, 1 ≤ b → b ≤ e → e ≤ days → (Ls.countP (inB b e) : Int) ≤ k * (e - b + 1)) :
    ∀ {ls P Bk : List (Int × Int)} {H : List Int} {σ : Int × Int} {b : Int}, Ls = P ++ Bk ++ ls → Ei k H σ → (Bk.length : Int) = k * (σ.1 - b) + σ.2 → (∀ w ∈ Bk, b ≤ w.1) → 1 ≤ b → (∀ w ∈ ls, b ≤ w.1) → (∀ w ∈ Bk, ∀ y ∈ ls, w.2 ≤ y.2) → Mon ls → (∀ w ∈ ls, 1 ≤ w.1 ∧ w.1 ≤ w.2 ∧ w.2 ≤ days) →
      All2 (fun w x => x ≤ w.2) ls (edf k ls σ)
  | [], P, Bk, H, σ, b, _, _, _, _, _, _, _, _, _ => .nil
  | w :: r, P, Bk, H, σ, b, eL, h, hl, hb, b1, hb2, hlast, hm, hw => by
    obtain ⟨s1, s2, s3, s4, s5⟩ := h.step hk w.1
    have hw0 := hw w (List.mem_cons_self ..)
    have hwr := fun y hy => hw y (List.mem_cons_of_mem w hy)
    have fit : ∀ {P' Bk' : List (Int × Int)} {b' : Int}, Ls = P' ++ Bk' ++ r → (Bk'.length : Int) = k * ((dstep w.1 k σ).1 - b') + (dstep w.1 k σ).2 → (∀ y ∈ Bk', b' ≤ y.1) → 1 ≤ b' → b' ≤ w.1 → (∀ y ∈ Bk', y.2 ≤ w.2) → (dstep w.1 k σ).1 ≤ w.2 := fun {P' Bk' b'} e1 e2 e3 e4 e5 e6 => by
      refine Classical.byContradiction fun z => ?_
      have c1 := den b' w.2 e4 (by omega) hw0.2.2
      rw [e1, List.countP_append, List.countP_append] at c1
      have c2 : Bk'.countP (inB b' w.2) = Bk'.length := countP_all fun y hy => by
        unfold inB
        simp [e3 y hy, e6 y hy]
      have c3 : k * (w.2 - b' + 1) ≤ k * ((dstep w.1 k σ).1 - b') := Int.mul_le_mul_of_nonneg_left (by omega) (by omega)
      rw [c2] at c1
      omega
    rcases s5 with ⟨c1, e⟩ | ⟨c1, c2, e⟩ | ⟨c1, c2, e⟩
    · have el : (([w] : List (Int × Int)).length : Int) = k * ((dstep w.1 k σ).1 - w.1) + (dstep w.1 k σ).2 := by rw [e]; simp
      have f1 := fit (P' := P ++ Bk) (Bk' := [w]) (b' := w.1) (by rw [eL]; simp) el (fun y hy => by rw [List.mem_singleton.mp hy]; exact Int.le_refl _) hw0.1 (Int.le_refl _) (fun y hy => by rw [List.mem_singleton.mp hy]; exact Int.le_refl _)
      exact .cons f1 (edf_fit hk den (P := P ++ Bk) (Bk := [w]) (b := w.1) (by rw [eL]; simp) s1 el (fun y hy => by rw [List.mem_singleton.mp hy]; exact Int.le_refl _) hw0.1 (fun y hy => (hm.1 y hy).1) (fun x hx y hy => by rw [List.mem_singleton.mp hx]; exact (hm.1 y hy).2) hm.2 hwr)
    · have el : ((Bk ++ [w]).length : Int) = k * ((dstep w.1 k σ).1 - b) + (dstep w.1 k σ).2 := by
        rw [e]
        have : k * (σ.1 + 1 - b) = k * (σ.1 - b) + k := by rw [show σ.1 + 1 - b = (σ.1 - b) + 1 by omega, Int.mul_add, Int.mul_one]
        simp
        omega
      have hB : ∀ y ∈ Bk ++ [w], b ≤ y.1 := fun y hy => by
        rcases List.mem_append.mp hy with z | z
        · exact hb y z
        · rw [List.mem_singleton.mp z]; exact hb2 w (List.mem_cons_self ..)
      have hL : ∀ y ∈ Bk ++ [w], y.2 ≤ w.2 := fun y hy => by
        rcases List.mem_append.mp hy with z | z
        · exact hlast y z w (List.mem_cons_self ..)
        · rw [List.mem_singleton.mp z]; exact Int.le_refl _
      have f1 := fit (P' := P) (Bk' := Bk ++ [w]) (b' := b) (by rw [eL]; simp) el hB b1 (hb2 w (List.mem_cons_self ..)) hL
      exact .cons f1 (edf_fit hk den (P := P) (Bk := Bk ++ [w]) (b := b) (by rw [eL]; simp) s1 el hB b1 (fun y hy => hb2 y (List.mem_cons_of_mem _ hy)) (fun x hx y hy => Int.le_trans (hL x hx) (hm.1 y hy).2) hm.2 hwr)
    · have el : ((Bk ++ [w]).length : Int) = k * ((dstep w.1 k σ).1 - b) + (dstep w.1 k σ).2 := by
        rw [e]
        simp
        omega
      have hB : ∀ y ∈ Bk ++ [w], b ≤ y.1 := fun y hy => by
        rcases List.mem_append.mp hy with z | z
        · exact hb y z
        · rw [List.mem_singleton.mp z]; exact hb2 w (List.mem_cons_self ..)
      have hL : ∀ y ∈ Bk ++ [w], y.2 ≤ w.2 := fun y hy => by
        rcases List.mem_append.mp hy with z | z
        · exact hlast y z w (List.mem_cons_self ..)
        · rw [List.mem_singleton.mp z]; exact Int.le_refl _
      have f1 := fit (P' := P) (Bk' := Bk ++ [w]) (b' := b) (by rw [eL]; simp) el hB b1 (hb2 w (List.mem_cons_self ..)) hL
      exact .cons f1 (edf_fit hk den (P := P) (Bk := Bk ++ [w]) (b := b) (by rw [eL]; simp) s1 el hB b1 (fun y hy => hb2 y (List.mem_cons_of_mem _ hy)) (fun x hx y hy => Int.le_trans (hL x hx) (hm.1 y hy).2) hm.2 hwr)
/-- days of a row of days hold at most so many -/
theorem few_days {M : Int} {d : List Int} (hM : ∀ x, (d.count x : Int) ≤ M) (b : Int) : ∀ n : Nat, (d.countP (fun x => decide (b ≤ x) && decide (x ≤ b + n)) : Int) ≤ M * (n + 1)
  | 0 => by
    have : d.countP (fun x => decide (b ≤ x) && decide (x ≤ b + (0 : Nat))) = d.count b := by
      unfold List.count
      refine List.countP_congr fun x _ => ?_
      simp
      omega
    rw [this]
    have := hM b
    simpa using this
  | n + 1 => by
    have ih := few_days hM b n
    have : ∀ l : List Int, l.countP (fun x => decide (b ≤ x) && decide (x ≤ b + ((n + 1 : Nat) : Int))) = l.countP (fun x => decide (b ≤ x) && decide (x ≤ b + (n : Int))) + l.count (b + (n : Int) + 1) := by
      intro l
      induction l with
      | nil => rfl
      | cons x l il =>
        rw [List.countP_cons, List.countP_cons, List.count_cons, il]
        by_cases c1 : x = b + (n : Int) + 1
        · have h1 : b ≤ x := by omega
          have h2 : x ≤ b + ((n + 1 : Nat) : Int) := by omega
          have h3 : ¬ x ≤ b + (n : Int) := by omega
          simp only [h1, h2, h3, decide_true, decide_false, Bool.and_true, Bool.and_false, if_true, if_false]
          rw [c1]
          simp
          omega
        · have h4 : (x == b + (n : Int) + 1) = false := by simpa using c1
          rw [h4]
          by_cases c2 : b ≤ x
          · by_cases c3 : x ≤ b + (n : Int)
            · have h2 : x ≤ b + ((n + 1 : Nat) : Int) := by omega
              simp only [c2, c3, h2, decide_true, Bool.and_true, if_true]
              simp
              omega
            · have h2 : ¬ x ≤ b + ((n + 1 : Nat) : Int) := by omega
              simp only [c2, c3, h2, decide_true, decide_false, Bool.and_false, if_false]
              simp
          · simp [c2]
    rw [this d]
    have := hM (b + (n : Int) + 1)
    have e : M * (((n + 1 : Nat) : Int) + 1) = M * ((n : Int) + 1) + M := by
      rw [show (((n + 1 : Nat) : Int) + 1) = ((n : Int) + 1) + 1 by omega, Int.mul_add, Int.mul_one]
    omega
theorem in_days {b e : Int} : ∀ {ls : List (Int × Int)} {d : List Int}, All2 (fun w x => w.1 ≤ x ∧ x ≤ w.2) ls d → ls.countP (inB b e) ≤ d.countP (fun x => decide (b ≤ x) && decide (x ≤ e))
  | _, _, .nil => Nat.le_refl _
  | w :: ls, x :: d, .cons h t => by
    have ih := in_days (b := b) (e := e) t
    rw [List.countP_cons, List.countP_cons]
    by_cases c : inB b e w = true
    · have c' := c
      unfold inB at c'
      simp at c'
      have h1 : b ≤ x := by omega
      have h2 : x ≤ e := by omega
      simp [c, h1, h2]
      exact ih
    · simp [c]
      omega
/-- a row that keeps to the days asks for as many a day as its fullest row of days -/
theorem most_ge {M b e : Int} {ls : List (Int × Int)} {d : List Int} (a : All2 (fun w x => w.1 ≤ x ∧ x ≤ w.2) ls d) (hM : ∀ x, (d.count x : Int) ≤ M) (h : b ≤ e) : (ls.countP (inB b e) : Int) ≤ M * (e - b + 1) := by
  obtain ⟨n, hn⟩ := Int.eq_ofNat_of_zero_le (show 0 ≤ e - b by omega)
  have h1 := few_days hM b n
  have h2 := in_days (b := b) (e := e) a
  rw [show b + (n : Int) = e by omega] at h1
  rw [hn]
  omega
theorem withF_lds {b e : Int} : ∀ {qs : List (CW × Option (Int × Int))}, (∀ q ∈ qs, 0 ≤ q.1.1) → withF qs b e = ((lds qs).countP (inB b e) : Int)
  | [], _ => rfl
  | q :: r, h => by
    have ih := withF_lds (b := b) (e := e) (qs := r) fun x hx => h x (List.mem_cons_of_mem _ hx)
    have h0 := h q (List.mem_cons_self ..)
    unfold withF lds
    rw [List.countP_append, ih]
    cases q.2 with
    | none => simp
    | some w =>
      dsimp only
      rw [List.countP_replicate]
      by_cases c : b ≤ w.1 ∧ w.2 ≤ e
      · have : inB b e w = true := by unfold inB; simp [c]
        rw [if_pos c, if_pos this]
        omega
      · have : ¬ inB b e w = true := by unfold inB; simpa using c
        rw [if_neg c, if_neg this]
        simp
theorem fold_cov {α β : Type} {step : Int × β → α → Int × β} {P : α → Int → Prop} (mono : ∀ st x, st.1 ≤ (step st x).1) (up : ∀ x c c', P x c → c ≤ c' → P x c') : ∀ {l : List α} {st : Int × β}, (∀ x ∈ l, ∀ st, P x (step st x).1) → st.1 ≤ (l.foldl step st).1 ∧ ∀ x ∈ l, P x (l.foldl step st).1
  | [], st, _ => ⟨Int.le_refl _, fun x hx => (by cases hx)⟩
  | y :: l, st, h => by
    obtain ⟨i1, i2⟩ := fold_cov mono up (l := l) (st := step st y) fun x hx => h x (List.mem_cons_of_mem _ hx)
    refine ⟨Int.le_trans (mono st y) i1, fun x hx => ?_⟩
    rcases List.mem_cons.mp hx with rfl | hx
    · exact up _ _ _ (h x (List.mem_cons_self ..) st) i1
    · exact i2 x hx
theorem fold_inv {α σ : Type} {step : σ → α → σ} {I : σ → Prop} : ∀ {l : List α} {st : σ}, (∀ x ∈ l, ∀ st, I st → I (step st x)) → I st → I (l.foldl step st)
  | [], _, _, h => h
  | y :: l, st, hs, h => fold_inv (l := l) (st := step st y) (fun x hx => hs x (List.mem_cons_of_mem _ hx)) (hs y (List.mem_cons_self ..) st h)
def ceilD (w n : Int) : Int := w / n + if 0 < w % n then 1 else 0
theorem bstep_eq {qs : List (CW × Option (Int × Int))} {b e : Int} {st : Int × Option (Int × Int)} : bstep qs b st e = if st.1 < ceilD (withF qs b e) (e - b + 1) then (ceilD (withF qs b e) (e - b + 1), some (b, e)) else st := rfl
theorem ceil_ge {w n : Int} (hn : 0 < n) : w ≤ ceilD w n * n := by
  have hd := Int.mul_ediv_add_emod w n
  have hr := Int.emod_lt_of_pos w hn
  unfold ceilD
  have e1 : (w / n + 1) * n = n * (w / n) + n := by rw [Int.add_mul, Int.one_mul, Int.mul_comm]
  have e2 : w / n * n = n * (w / n) := Int.mul_comm _ _
  split
  · rw [e1]; omega
  · rw [Int.add_zero, e2]; omega
theorem ceil_lt {w n : Int} (hn : 0 < n) : (ceilD w n - 1) * n < w := by
  have hd := Int.mul_ediv_add_emod w n
  have hr := Int.emod_lt_of_pos w hn
  have hr0 := Int.emod_nonneg w (show n ≠ 0 by omega)
  unfold ceilD
  have e2 : w / n * n = n * (w / n) := Int.mul_comm _ _
  split
  · rw [show w / n + 1 - 1 = w / n by omega, e2]; omega
  · have e3 : (w / n + 0 - 1) * n = n * (w / n) - n := by rw [Int.add_zero, Int.sub_mul, Int.one_mul, e2]
    rw [e3]; omega
section
variable {qs : List (CW × Option (Int × Int))} {days : Int}
theorem bstep_mono (b : Int) (st : Int × Option (Int × Int)) (e : Int) : st.1 ≤ (bstep qs b st e).1 := by
  rw [bstep_eq]
  split
  · dsimp only; omega
  · exact Int.le_refl _
theorem bstep_cov {b e : Int} (h : b ≤ e) (st : Int × Option (Int × Int)) : withF qs b e ≤ (bstep qs b st e).1 * (e - b + 1) := by
  have hc := ceil_ge (w := withF qs b e) (show 0 < e - b + 1 by omega)
  rw [bstep_eq]
  split
  · exact hc
  · rename_i z
    exact Int.le_trans hc (Int.mul_le_mul_of_nonneg_right (by omega) (by omega))
theorem best_cov : ∀ b e, 1 ≤ b → b ≤ e → e ≤ days → withF qs b e ≤ (bestF qs days).1 * (e - b + 1) := by
  have up : ∀ (b e : Int) (c c' : Int), b ≤ e → withF qs b e ≤ c * (e - b + 1) → c ≤ c' → withF qs b e ≤ c' * (e - b + 1) := fun b e c c' h h1 h2 => Int.le_trans h1 (Int.mul_le_mul_of_nonneg_right h2 (by omega))
  have row : ∀ (b : Int) (st : Int × Option (Int × Int)), st.1 ≤ (brow qs days st b).1 ∧ ∀ e, b ≤ e → e ≤ days → withF qs b e ≤ (brow qs days st b).1 * (e - b + 1) := fun b st => by
    obtain ⟨i1, i2⟩ := fold_cov (step := bstep qs b) (P := fun e c => b ≤ e → withF qs b e ≤ c * (e - b + 1)) (l := (List.range (days + 1 - b).toNat).map fun (j : Nat) => b + (j : Int)) (st := st) (bstep_mono b) (fun e c c' h1 h2 h3 => up b e c c' h3 (h1 h3) h2) (fun e he st h => bstep_cov h st)
    refine ⟨i1, fun e h1 h2 => i2 e ?_ h1⟩
    refine List.mem_map.mpr ⟨(e - b).toNat, List.mem_range.mpr (by omega), by omega⟩
  obtain ⟨_, i2⟩ := fold_cov (step := brow qs days) (P := fun b c => ∀ e, b ≤ e → e ≤ days → withF qs b e ≤ c * (e - b + 1)) (l := (List.range days.toNat).map fun (j : Nat) => 1 + (j : Int)) (st := ((0, none) : Int × Option (Int × Int))) (fun st b => (row b st).1) (fun b c c' h1 h2 e h3 h4 => up b e c c' h3 (h1 e h3 h4) h2) (fun b _ st => (row b st).2)
  intro b e h1 h2 h3
  exact i2 b (List.mem_map.mpr ⟨(b - 1).toNat, List.mem_range.mpr (by omega), by omega⟩) e h2 h3
/-- so many carts, and no cart less -/
def Least (qs : List (CW × Option (Int × Int))) (days : Int) (st : Int × Option (Int × Int)) : Prop := 0 ≤ st.1 ∧ (st = (0, none) ∨ ∃ b e, st.2 = some (b, e) ∧ 1 ≤ b ∧ b ≤ e ∧ e ≤ days ∧ (st.1 - 1) * (e - b + 1) < withF qs b e)
theorem best_least (hq : ∀ q ∈ qs, 0 ≤ q.1.1) : Least qs days (bestF qs days) := by
  unfold bestF
  refine fold_inv (fun b hb st h => ?_) ⟨Int.le_refl _, .inl rfl⟩
  obtain ⟨j, hj, rfl⟩ := List.mem_map.mp hb
  have hj := List.mem_range.mp hj
  unfold brow
  refine fold_inv (fun e he st h => ?_) h
  obtain ⟨i, hi, rfl⟩ := List.mem_map.mp he
  have hi := List.mem_range.mp hi
  obtain ⟨b, hb⟩ : ∃ b : Int, 1 + (j : Int) = b := ⟨_, rfl⟩
  rw [hb] at hi ⊢
  obtain ⟨e, he⟩ : ∃ e : Int, b + (i : Int) = e := ⟨_, rfl⟩
  rw [he]
  rw [bstep_eq]
  split
  · rename_i z
    have h0 := h.1
    exact ⟨by dsimp only; omega, .inr ⟨b, e, rfl, by omega, by omega, by omega, ceil_lt (by omega)⟩⟩
  · exact h
end
end Mi


namespace Mi
/-- the loads' windows -/
def wls : List CW → List (Int × Int)
  | [] => []
  | p :: r => List.replicate p.1.toNat p.2 ++ wls r
abbrev Fit (ls : List (Int × Int)) (d : List Int) : Prop := All2 (fun w x => w.1 ≤ x ∧ x ≤ w.2) ls d
/-- no run with loads is kept behind one behind it -/
def NoXw (ps : List CW) : Prop := ps.Pairwise fun p q => 0 < p.1 → 0 < q.1 → p.2.1 ≤ q.2.2
theorem all2_split {α β : Type} {P : α → β → Prop} : ∀ {as cs : List α} {bs : List β}, All2 P (as ++ cs) bs → ∃ b1 b2, bs = b1 ++ b2 ∧ All2 P as b1 ∧ All2 P cs b2
  | [], cs, bs, h => ⟨[], bs, rfl, .nil, h⟩
  | a :: as, cs, _, .cons h t => by
    obtain ⟨b1, b2, rfl, h1, h2⟩ := all2_split (as := as) t
    exact ⟨_ :: b1, b2, rfl, .cons h h1, h2⟩
theorem all2_rep {α β : Type} {P : α → β → Prop} {a : α} : ∀ {n : Nat} {bs : List β}, All2 P (List.replicate n a) bs → ∀ b ∈ bs, P a b
  | 0, _, .nil, b, hb => by cases hb
  | n + 1, _, .cons h t, b, hb => by
    rcases List.mem_cons.mp hb with rfl | hb
    · exact h
    · exact all2_rep t b hb
theorem rep_all2 {α β : Type} {P : α → β → Prop} {a : α} : ∀ {n : Nat} {bs : List β}, bs.length = n → (∀ b ∈ bs, P a b) → All2 P (List.replicate n a) bs
  | 0, bs, h, _ => by rw [List.eq_nil_of_length_eq_zero h]; exact .nil
  | n + 1, [], h, _ => by cases h
  | n + 1, b :: bs, h, k => .cons (k b (List.mem_cons_self ..)) (rep_all2 (by simpa using h) fun x hx => k x (List.mem_cons_of_mem _ hx))
theorem up_app : ∀ {a b : List Int}, Up (a ++ b) → Up a ∧ Up b ∧ ∀ x ∈ a, ∀ y ∈ b, x ≤ y
  | [], b, h => ⟨trivial, h, fun x hx => by cases hx⟩
  | x :: a, b, h => by
    obtain ⟨h1, h2, h3⟩ := up_app (a := a) (b := b) h.2
    refine ⟨⟨fun y hy => h.1 y (List.mem_append_left _ hy), h1⟩, h2, fun z hz y hy => ?_⟩
    rcases List.mem_cons.mp hz with rfl | hz
    · exact h.1 y (List.mem_append_right _ hy)
    · exact h3 z hz y hy
theorem app_up : ∀ {a b : List Int}, Up a → Up b → (∀ x ∈ a, ∀ y ∈ b, x ≤ y) → Up (a ++ b)
  | [], b, _, h, _ => h
  | x :: a, b, h1, h2, h3 => by
    refine ⟨fun y hy => ?_, app_up h1.2 h2 fun z hz => h3 z (List.mem_cons_of_mem _ hz)⟩
    rcases List.mem_append.mp hy with z | z
    · exact h1.1 y z
    · exact h3 x (List.mem_cons_self ..) y z
theorem le_lastR {x : Int} (h60 : x ≤ 60) : ∀ {r : List CW}, (∀ q ∈ r, 0 < q.1 → x ≤ q.2.2) → x ≤ lastR r
  | [], _ => h60
  | p :: r, h => by
    have ih := le_lastR h60 (r := r) fun q hq => h q (List.mem_cons_of_mem _ hq)
    have hp := h p (List.mem_cons_self ..)
    by_cases c : 0 < p.1
    · have := hp c
      have e : lastR (p :: r) = min (lastR r) p.2.2 := if_pos c
      rw [e]
      omega
    · have e : lastR (p :: r) = lastR r := if_neg c
      rw [e]
      exact ih
theorem lastR_le {p : CW} {r : List CW} (h : 0 < p.1) : lastR (p :: r) ≤ p.2.2 ∧ lastR (p :: r) ≤ lastR r := by
  have : lastR (p :: r) = min (lastR r) p.2.2 := if_pos h
  omega
theorem lastR_tail (p : CW) (r : List CW) : lastR (p :: r) ≤ lastR r := by
  by_cases c : 0 < p.1
  · have e : lastR (p :: r) = min (lastR r) p.2.2 := if_pos c
    rw [e]
    omega
  · have e : lastR (p :: r) = lastR r := if_neg c
    rw [e]
    exact Int.le_refl _
/-- what comes behind a day in a row is no less; so the day is no later than any last day behind it -/
theorem fit_last {x : Int} : ∀ {r : List CW} {d : List Int}, Fit (wls r) d → (∀ y ∈ d, x ≤ y) → ∀ q ∈ r, 0 < q.1 → x ≤ q.2.2
  | [], _, _, _, q, hq, _ => by cases hq
  | p :: r, d, h, hx, q, hq, h0 => by
    obtain ⟨d1, d2, rfl, h1, h2⟩ := all2_split h
    rcases List.mem_cons.mp hq with rfl | hq
    · have hl := h1.length
      rw [List.length_replicate] at hl
      cases d1 with
      | nil => exact absurd hl (by simp only [List.length_nil]; omega)
      | cons y d1 =>
        have := all2_rep h1 y (List.mem_cons_self ..)
        have := hx y (by simp)
        omega
    · exact fit_last h2 (fun y hy => hx y (List.mem_append_right _ hy)) q hq h0
theorem fit_nox : ∀ {ps : List CW} {d : List Int}, Fit (wls ps) d → Up d → NoXw ps
  | [], _, _, _ => .nil
  | p :: r, d, h, hu => by
    obtain ⟨d1, d2, rfl, h1, h2⟩ := all2_split h
    obtain ⟨u1, u2, u3⟩ := up_app hu
    refine .cons (fun q hq hp0 hq0 => ?_) (fit_nox h2 u2)
    have hl := h1.length
    rw [List.length_replicate] at hl
    cases d1 with
    | nil => exact absurd hl (by simp only [List.length_nil]; omega)
    | cons y d1 =>
      have h3 := all2_rep h1 y (List.mem_cons_self ..)
      have h4 := fit_last h2 (fun z hz => u3 y (List.mem_cons_self ..) z hz) q hq hq0
      omega
/-- a row within the windows is within the days left -/
theorem fit_spans : ∀ {ps : List CW} {f : Int} {d : List Int}, Fit (wls ps) d → Up d → (∀ x ∈ d, f ≤ x) → (∀ x ∈ d, x ≤ 60) → Fit (lds (ps.zip (spansG ps f))) d
  | [], f, _, .nil, _, _, _ => .nil
  | p :: r, f, d, h, hu, hf, h60 => by
    obtain ⟨d1, d2, rfl, h1, h2⟩ := all2_split h
    obtain ⟨u1, u2, u3⟩ := up_app hu
    have hl := h1.length
    rw [List.length_replicate] at hl
    unfold spansG
    by_cases c : 0 < p.1
    · rw [if_pos c, List.zip_cons_cons]
      show Fit (List.replicate p.1.toNat _ ++ lds (r.zip (spansG r (max f p.2.1)))) _
      cases d1 with
      | nil => exact absurd hl (by simp only [List.length_nil]; omega)
      | cons y d1 =>
        have hy := all2_rep h1 y (List.mem_cons_self ..)
        refine all2_app (rep_all2 hl fun x hx => ?_) (fit_spans h2 u2 (fun x hx => ?_) fun x hx => h60 x (List.mem_append_right _ hx))
        · have k1 := all2_rep h1 x hx
          have k2 := hf x (List.mem_append_left _ hx)
          have k3 := le_lastR (h60 x (List.mem_append_left _ hx)) (fit_last h2 fun z hz => u3 x hx z hz)
          have : lastR (p :: r) = min (lastR r) p.2.2 := if_pos c
          dsimp only
          omega
        · have k1 := hf x (List.mem_append_right _ hx)
          have k2 := u3 y (List.mem_cons_self ..) x hx
          omega
    · rw [if_neg c, List.zip_cons_cons]
      have hn : d1 = [] := List.eq_nil_of_length_eq_zero (by omega)
      subst hn
      exact fit_spans h2 u2 (fun x hx => hf x (by simpa using hx)) fun x hx => h60 x (by simpa using hx)
theorem spans_fit : ∀ {ps : List CW} {f : Int} {d : List Int}, Fit (lds (ps.zip (spansG ps f))) d → (∀ p ∈ ps, 0 ≤ p.1) → Fit (wls ps) d
  | [], f, _, .nil, _ => .nil
  | p :: r, f, d, h, h0 => by
    have hr := fun q (hq : q ∈ r) => h0 q (List.mem_cons_of_mem _ hq)
    unfold spansG at h
    by_cases c : 0 < p.1
    · rw [if_pos c, List.zip_cons_cons] at h
      have h : Fit (List.replicate p.1.toNat (max f p.2.1, lastR (p :: r)) ++ lds (r.zip (spansG r (max f p.2.1)))) d := h
      obtain ⟨d1, d2, rfl, h1, h2⟩ := all2_split h
      have hl := h1.length
      rw [List.length_replicate] at hl
      have := lastR_le (r := r) c
      refine all2_app (rep_all2 hl fun x hx => ?_) (spans_fit h2 hr)
      have k1 := all2_rep h1 x hx
      dsimp only at k1
      omega
    · rw [if_neg c, List.zip_cons_cons] at h
      have hp := h0 p (List.mem_cons_self ..)
      show Fit (List.replicate p.1.toNat p.2 ++ wls r) d
      rw [show p.1.toNat = 0 by omega]
      exact spans_fit (ps := r) (f := f) h hr
/-- the days left rise, and none is empty -/
theorem spans_ok {days : Int} (h60 : days ≤ 60) : ∀ {ps : List CW} {f : Int}, NoXw ps → (∀ p ∈ ps, p.2.1 ≤ p.2.2 ∧ p.2.2 ≤ days) → (∀ q ∈ ps, 0 < q.1 → f ≤ q.2.2) → 1 ≤ f →
    Mon (lds (ps.zip (spansG ps f))) ∧ ∀ w ∈ lds (ps.zip (spansG ps f)), f ≤ w.1 ∧ w.1 ≤ w.2 ∧ w.2 ≤ days ∧ lastR ps ≤ w.2
  | [], f, _, _, _, _ => ⟨trivial, fun w hw => (by cases hw)⟩
  | p :: r, f, .cons x1 x2, hw, hf, h1 => by
    have hwr := fun q (hq : q ∈ r) => hw q (List.mem_cons_of_mem _ hq)
    have hp := hw p (List.mem_cons_self ..)
    unfold spansG
    by_cases c : 0 < p.1
    · rw [if_pos c, List.zip_cons_cons]
      have hfr : ∀ q ∈ r, 0 < q.1 → max f p.2.1 ≤ q.2.2 := fun q hq h0 => by
        have k1 := hf q (List.mem_cons_of_mem _ hq) h0
        have k2 := x1 q hq c h0
        omega
      have hfp := hf p (List.mem_cons_self ..) c
      obtain ⟨i1, i2⟩ := spans_ok h60 x2 hwr hfr (show 1 ≤ max f p.2.1 by omega)
      have hlr : max f p.2.1 ≤ lastR (p :: r) := by
        have k1 : max f p.2.1 ≤ lastR r := le_lastR (by omega) hfr
        have : lastR (p :: r) = min (lastR r) p.2.2 := if_pos c
        omega
      have hll := lastR_le (r := r) c
      show Mon (List.replicate p.1.toNat _ ++ lds (r.zip (spansG r (max f p.2.1)))) ∧ ∀ w ∈ List.replicate p.1.toNat _ ++ lds (r.zip (spansG r (max f p.2.1))), _
      refine ⟨?_, fun w hw => ?_⟩
      · have : ∀ n : Nat, Mon (List.replicate n (max f p.2.1, lastR (p :: r)) ++ lds (r.zip (spansG r (max f p.2.1)))) := by
          intro n
          induction n with
          | zero => exact i1
          | succ n ih =>
            rw [List.replicate_succ, List.cons_append]
            refine ⟨fun y hy => ?_, ih⟩
            rcases List.mem_append.mp hy with z | z
            · rw [(List.mem_replicate.mp z).2]
              exact ⟨Int.le_refl _, Int.le_refl _⟩
            · have := i2 y z
              dsimp only
              omega
        exact this _
      · rcases List.mem_append.mp hw with z | z
        · rw [(List.mem_replicate.mp z).2]
          dsimp only
          omega
        · have := i2 w z
          omega
    · rw [if_neg c, List.zip_cons_cons]
      have hl : lastR (p :: r) = lastR r := if_neg c
      obtain ⟨i1, i2⟩ := spans_ok h60 x2 hwr (fun q hq => hf q (List.mem_cons_of_mem _ hq)) h1
      rw [hl]
      exact ⟨i1, i2⟩
theorem cross_none {ps : List CW} (h : crossF ps = none) : NoXw ps := by
  unfold NoXw
  rw [List.pairwise_iff_getElem]
  intro i j hi hj hij h1 h2
  unfold crossF at h
  rw [List.find?_eq_none] at h
  have hm : (i, j) ∈ xPairs ps.length := by
    unfold xPairs
    exact List.mem_flatMap.mpr ⟨j, List.mem_range.mpr hj, List.mem_map.mpr ⟨i, List.mem_range.mpr hij, rfl⟩⟩
  have := h (i, j) hm
  unfold xB at this
  have ei : pAt ps i = ps[i] := by simp [pAt, List.getD, List.getElem?_eq_getElem hi]
  have ej : pAt ps j = ps[j] := by simp [pAt, List.getD, List.getElem?_eq_getElem hj]
  dsimp only at this
  rw [ei, ej] at this
  simp [h1, h2] at this
  exact this
theorem nox_cross {ps : List CW} (h : NoXw ps) : crossF ps = none := by
  unfold NoXw at h
  rw [List.pairwise_iff_getElem] at h
  unfold crossF
  rw [List.find?_eq_none]
  intro q hq
  unfold xPairs at hq
  obtain ⟨j, hj, hq⟩ := List.mem_flatMap.mp hq
  obtain ⟨i, hi, rfl⟩ := List.mem_map.mp hq
  have hj := List.mem_range.mp hj
  have hi := List.mem_range.mp hi
  have hi2 : i < ps.length := by omega
  have := h i j hi2 hj hi
  have ei : pAt ps i = ps[i] := by simp [pAt, List.getD, List.getElem?_eq_getElem hi2]
  have ej : pAt ps j = ps[j] := by simp [pAt, List.getD, List.getElem?_eq_getElem hj]
  unfold xB
  dsimp only
  rw [ei, ej]
  simp
  intro h1 h2
  exact this h1 h2
/-! what is told is best -/
section
variable {ps : List CW} {days : Int}
def cartsF (ps : List CW) (days : Int) : Int := (bestF (runsQ ps) days).1
def schedF (ps : List CW) (days : Int) : List Int := daysF (cartsF ps days) (runsQ ps) (1, 0)
theorem runs_pos (G : Gd ps days) : ∀ q ∈ runsQ ps, 0 ≤ q.1.1 := fun q hq => (G.cnt _ (runsQ_mem hq)).1
theorem wls_len0 (h : ∀ p ∈ ps, p.1 ≤ 0) : wls ps = [] := by
  induction ps with
  | nil => rfl
  | cons p r ih =>
    have := h p (List.mem_cons_self ..)
    show List.replicate p.1.toNat p.2 ++ wls r = []
    rw [ih fun q hq => h q (List.mem_cons_of_mem _ hq), show p.1.toNat = 0 by omega]
    rfl
/-- a row that keeps to the windows takes at least so many -/
theorem least_ge (G : Gd ps days) {d : List Int} {M : Int} (h : Fit (wls ps) d) (hu : Up d) (hM : ∀ x, (d.count x : Int) ≤ M) (h1 : ∀ x ∈ d, 1 ≤ x ∧ x ≤ 60) : cartsF ps days ≤ M := by
  have hf := fit_spans (f := 1) h hu (fun x hx => (h1 x hx).1) fun x hx => (h1 x hx).2
  have hM0 : 0 ≤ M := by have := hM 0; omega
  obtain ⟨b0, bl⟩ := best_least (days := days) (runs_pos G)
  rcases bl with e | ⟨b, e, _, k1, k2, k3, k4⟩
  · show (bestF (runsQ ps) days).1 ≤ M
    rw [e]
    exact hM0
  · have k5 := most_ge (b := b) (e := e) hf hM k2
    rw [withF_lds (runs_pos G)] at k4
    refine Classical.byContradiction fun z => ?_
    have z : M ≤ (bestF (runsQ ps) days).1 - 1 := by
      have z : ¬ (bestF (runsQ ps) days).1 ≤ M := z
      omega
    have k6 := Int.mul_le_mul_of_nonneg_right z (show 0 ≤ e - b + 1 by omega)
    have k7 : (((lds (runsQ ps)).countP (inB b e) : Nat) : Int) ≤ M * (e - b + 1) := k5
    omega
theorem sched_len (G : Gd ps days) : (schedF ps days).length = (lds (runsQ ps)).length := by
  unfold schedF
  rw [daysF_edf, edf_len]
/-- the told days -/
theorem sched_ok (G : Gd ps days) (hx : NoXw ps) : Fit (wls ps) (schedF ps days) ∧ Up (schedF ps days) ∧ (∀ x, ((schedF ps days).count x : Int) ≤ cartsF ps days) ∧ (∀ x ∈ schedF ps days, 1 ≤ x ∧ x ≤ 60) ∧
    ∀ d, Fit (wls ps) d → Up d → (∀ x ∈ d, 1 ≤ x ∧ x ≤ 60) → (∀ x, (d.count x : Int) ≤ cartsF ps days) → All2 (fun a b : Int => a ≤ b) (schedF ps days) d := by
  have hd := G.day
  obtain ⟨m1, m2⟩ := spans_ok (f := 1) hd.2 hx (fun p hp => (G.win p hp).2) (fun q hq _ => by have := G.win q hq; omega) (Int.le_refl 1)
  have hw : ∀ w ∈ lds (runsQ ps), 1 ≤ w.1 ∧ w.1 ≤ w.2 ∧ w.2 ≤ days := fun w hw => by have := m2 w hw; omega
  have e : schedF ps days = edf (cartsF ps days) (lds (runsQ ps)) (1, 0) := by unfold schedF; rw [daysF_edf]
  have b0 : 0 ≤ cartsF ps days := (best_least (days := days) (runs_pos G)).1
  by_cases hk : 1 ≤ cartsF ps days
  · have den : ∀ b e, 1 ≤ b → b ≤ e → e ≤ days → ((lds (runsQ ps)).countP (inB b e) : Int) ≤ cartsF ps days * (e - b + 1) := fun b e h1 h2 h3 => by
      rw [← withF_lds (runs_pos G)]
      exact best_cov b e h1 h2 h3
    have f1 := edf_fit hk den (ls := lds (runsQ ps)) (P := []) (Bk := []) (H := []) (σ := (1, 0)) (b := 1) rfl (ei_start b0) (by simp) (fun w hw => by cases hw) (Int.le_refl _) (fun w h => (hw w h).1) (fun w hw => by cases hw) m1 hw
    obtain ⟨g1, g2, g3⟩ := edf_ge hk (ls := lds (runsQ ps)) (ei_start b0)
    rw [← e] at f1 g1 g2 g3
    have both : ∀ {ls : List (Int × Int)} {d : List Int}, All2 (fun w x => w.1 ≤ x) ls d → All2 (fun w x => x ≤ w.2) ls d → Fit ls d := fun a b => by
      induction a with
      | nil => cases b; exact .nil
      | cons h t ih => cases b with | cons h' t' => exact .cons ⟨h, h'⟩ (ih t')
    have fit := both g3 f1
    have up60 : ∀ {ls : List (Int × Int)} {d : List Int}, Fit ls d → (∀ w ∈ ls, w.2 ≤ 60) → ∀ x ∈ d, x ≤ 60 := fun a h => by
      induction a with
      | nil => intro x hx; cases hx
      | cons h1 t ih =>
        intro x hx
        rcases List.mem_cons.mp hx with rfl | hx
        · have := h _ (List.mem_cons_self ..); omega
        · exact ih (fun w hw => h w (List.mem_cons_of_mem _ hw)) x hx
    refine ⟨spans_fit fit fun p hp => (G.cnt p hp).1, g2, fun x => ?_, fun x hx => ⟨g1 x hx, up60 fit (fun w h => by have := hw w h; omega) x hx⟩, fun d h1 h2 h3 h4 => ?_⟩
    · have := edf_few hk (ls := lds (runsQ ps)) (ei_start b0) x
      rw [e]
      simpa using this
    · have hs := fit_spans (f := 1) h1 h2 (fun x hx => (h3 x hx).1) fun x hx => (h3 x hx).2
      rw [e]
      exact edf_first hk (H := []) (D := []) (ei_start b0) .nil (fun _ => rfl) (fun z => (z rfl).elim) (fun x hx => by cases hx) h2 (hs.imp fun w x h => h.1) (fun w h => (hw w h).1) fun x => by simpa using h4 x
  · have hk0 : cartsF ps days = 0 := by omega
    have hnil : lds (runsQ ps) = [] := by
      cases hl : lds (runsQ ps) with
      | nil => rfl
      | cons w r =>
        have h1 := hw w (by rw [hl]; exact List.mem_cons_self ..)
        have h2 := best_cov (qs := runsQ ps) (days := days) w.1 w.2 h1.1 h1.2.1 h1.2.2
        have h3 : (bestF (runsQ ps) days).1 = 0 := hk0
        rw [h3, Int.zero_mul, withF_lds (runs_pos G), hl, List.countP_cons] at h2
        have : inB w.1 w.2 w = true := by simp [inB]
        rw [this] at h2
        simp at h2
        omega
    have hs : schedF ps days = [] := by rw [e, hnil]; rfl
    have hf : Fit (lds (runsQ ps)) [] := by rw [hnil]; exact .nil
    rw [hs]
    refine ⟨spans_fit hf fun p hp => (G.cnt p hp).1, trivial, fun x => by simpa using b0, fun x hx => (by cases hx), fun d h1 h2 h3 h4 => ?_⟩
    have := fit_spans (f := 1) h1 h2 (fun x hx => (h3 x hx).1) fun x hx => (h3 x hx).2
    have hl : lds (ps.zip (spansG ps 1)) = [] := hnil
    rw [hl] at this
    cases this
    exact .nil
end
end Mi


namespace Mi
open PySem (Str PyData)
/-! all rows of days -/
def dRange (b e : Int) : List Int := (List.range (e - b).toNat).map fun (j : Nat) => b + (j : Int)
def begF (w : Int × Int) (row : List Int) : Int := maxL (w.1 :: row.getLast?.toList)
def extR (w : Int × Int) (row : List Int) : List (List Int) := (dRange (begF w row) (w.2 + 1)).map fun d => row ++ [d]
def extF (w : Int × Int) (rows : List (List Int)) : List (List Int) := rows.flatMap (extR w)
def allF : List (Int × Int) → List (List Int) → List (List Int)
  | [], rows => rows
  | w :: r, rows => allF r (extF w rows)
theorem dRange_mem {b e x : Int} : x ∈ dRange b e ↔ b ≤ x ∧ x < e := by
  unfold dRange
  rw [List.mem_map]
  constructor
  · rintro ⟨j, hj, rfl⟩
    have := List.mem_range.mp hj
    omega
  · rintro ⟨h1, h2⟩
    exact ⟨(x - b).toNat, List.mem_range.mpr (by omega), by omega⟩
theorem dRange_len (b e : Int) : (dRange b e).length = (e - b).toNat := by simp [dRange]
theorem begF_ge (w : Int × Int) (row : List Int) : w.1 ≤ begF w row := maxL_ge (List.mem_cons_self ..)
theorem up_snoc {r : List Int} {x : Int} : Up (r ++ [x]) ↔ Up r ∧ ∀ y ∈ r, y ≤ x := by
  constructor
  · intro h
    obtain ⟨h1, _, h3⟩ := up_app h
    exact ⟨h1, fun y hy => h3 y hy x (List.mem_singleton.mpr rfl)⟩
  · rintro ⟨h1, h2⟩
    exact app_up h1 ⟨fun y hy => (by cases hy), trivial⟩ fun y hy z hz => by rw [List.mem_singleton.mp hz]; exact h2 y hy
theorem begF_le {w : Int × Int} {row : List Int} (hu : Up row) {x : Int} : begF w row ≤ x ↔ w.1 ≤ x ∧ ∀ y ∈ row, y ≤ x := by
  rcases List.eq_nil_or_concat row with rfl | ⟨r, l, rfl⟩
  · have : begF w [] = w.1 := by simp [begF, maxL]
    rw [this]
    simp
  · rw [List.concat_eq_append] at hu ⊢
    have : begF w (r ++ [l]) = max w.1 l := by simp [begF, maxL]
    rw [this]
    have h2 := (up_snoc.mp hu).2
    constructor
    · intro h
      refine ⟨by omega, fun y hy => ?_⟩
      rcases List.mem_append.mp hy with z | z
      · have := h2 y z; omega
      · rw [List.mem_singleton.mp z]; omega
    · rintro ⟨a, b⟩
      have := b l (by simp)
      omega
theorem extF_mem {w : Int × Int} {rows : List (List Int)} (hr : ∀ r ∈ rows, Up r) {d : List Int} : d ∈ extF w rows ↔ ∃ r ∈ rows, ∃ x, d = r ++ [x] ∧ w.1 ≤ x ∧ x ≤ w.2 ∧ Up d := by
  unfold extF extR
  rw [List.mem_flatMap]
  constructor
  · rintro ⟨r, h1, h2⟩
    obtain ⟨x, hx, rfl⟩ := List.mem_map.mp h2
    obtain ⟨h3, h4⟩ := dRange_mem.mp hx
    obtain ⟨h5, h6⟩ := (begF_le (hr r h1)).mp h3
    exact ⟨r, h1, x, rfl, h5, by omega, up_snoc.mpr ⟨hr r h1, h6⟩⟩
  · rintro ⟨r, h1, x, rfl, h2, h3, h4⟩
    exact ⟨r, h1, List.mem_map.mpr ⟨x, dRange_mem.mpr ⟨(begF_le (hr r h1)).mpr ⟨h2, (up_snoc.mp h4).2⟩, by omega⟩, rfl⟩⟩
theorem extF_up {w : Int × Int} {rows : List (List Int)} (hr : ∀ r ∈ rows, Up r) : ∀ r ∈ extF w rows, Up r := fun d hd => by
  obtain ⟨_, _, _, _, _, _, h⟩ := (extF_mem hr).mp hd
  exact h
theorem allF_mem : ∀ {ls : List (Int × Int)} {rows : List (List Int)}, (∀ r ∈ rows, Up r) → ∀ {d : List Int}, d ∈ allF ls rows ↔ ∃ r ∈ rows, ∃ t, d = r ++ t ∧ Fit ls t ∧ Up d
  | [], rows, hr, d => by
    constructor
    · exact fun h => ⟨d, h, [], by simp, .nil, hr d h⟩
    · rintro ⟨r, h1, t, rfl, h2, _⟩
      cases h2
      simpa [allF] using h1
  | w :: ls, rows, hr, d => by
    rw [allF, allF_mem (extF_up hr)]
    constructor
    · rintro ⟨r, h1, t, rfl, h2, h3⟩
      obtain ⟨r', k1, x, rfl, k2, k3, _⟩ := (extF_mem hr).mp h1
      exact ⟨r', k1, x :: t, by simp, .cons ⟨k2, k3⟩ h2, h3⟩
    · rintro ⟨r, h1, t, rfl, h2, h3⟩
      cases h2 with
      | cons k1 k2 =>
        rename_i x t
        have e : r ++ x :: t = (r ++ [x]) ++ t := by simp
        refine ⟨r ++ [x], (extF_mem hr).mpr ⟨r, h1, x, rfl, k1.1, k1.2, ?_⟩, t, e, k2, h3⟩
        rw [e] at h3
        exact (up_app h3).1
/-- the rows of all runs -/
def rowsF (ps : List CW) : List (List Int) := allF (wls ps) [[]]
theorem rows_mem {ps : List CW} {d : List Int} : d ∈ rowsF ps ↔ Fit (wls ps) d ∧ Up d := by
  unfold rowsF
  rw [allF_mem (fun r hr => by rw [List.mem_singleton.mp hr]; trivial)]
  constructor
  · rintro ⟨r, h1, t, rfl, h2, h3⟩
    rw [List.mem_singleton.mp h1] at h3 ⊢
    exact ⟨h2, h3⟩
  · rintro ⟨h1, h2⟩
    exact ⟨[], by simp, d, rfl, h1, h2⟩
theorem extR_len {w : Int × Int} {row : List Int} (h : 1 ≤ w.1 ∧ w.2 ≤ 4) : (extR w row).length ≤ 4 := by
  have := begF_ge w row
  unfold extR
  rw [List.length_map, dRange_len]
  omega
theorem extF_len {w : Int × Int} (h : 1 ≤ w.1 ∧ w.2 ≤ 4) : ∀ rows : List (List Int), (extF w rows).length ≤ rows.length * 4
  | [] => Nat.le_refl _
  | r :: rows => by
    have := extF_len h rows
    have := extR_len (row := r) h
    show ((r :: rows).flatMap (extR w)).length ≤ _
    rw [List.flatMap_cons, List.length_append, List.length_cons]
    unfold extF at *
    omega
theorem allF_len : ∀ {ls : List (Int × Int)} {rows : List (List Int)}, (∀ w ∈ ls, 1 ≤ w.1 ∧ w.2 ≤ 4) → (allF ls rows).length ≤ rows.length * 4 ^ ls.length
  | [], rows, _ => by simp [allF]
  | w :: ls, rows, h => by
    have h1 := allF_len (ls := ls) (rows := extF w rows) fun x hx => h x (List.mem_cons_of_mem _ hx)
    have h2 := extF_len (h w (List.mem_cons_self ..)) rows
    refine Nat.le_trans h1 (Nat.le_trans (Nat.mul_le_mul_right _ h2) ?_)
    rw [List.length_cons, Nat.pow_succ, Nat.mul_comm (4 ^ ls.length) 4, Nat.mul_assoc]
    exact Nat.le_refl _
/-- the most on one day -/
def mostF (d : List Int) : Int := maxL (0 :: d.map fun x => ((d.count x : Nat) : Int))
theorem most_count (d : List Int) (x : Int) : ((d.count x : Nat) : Int) ≤ mostF d := by
  by_cases h : x ∈ d
  · exact maxL_ge (List.mem_cons_of_mem _ (List.mem_map.mpr ⟨x, h, rfl⟩))
  · rw [List.count_eq_zero.mpr h]
    exact maxL_ge (List.mem_cons_self ..)
theorem most_le {d : List Int} {M : Int} (h : ∀ x, ((d.count x : Nat) : Int) ≤ M) : mostF d ≤ M := by
  have hm : mostF d ∈ _ := maxL_mem (ns := 0 :: d.map fun x => ((d.count x : Nat) : Int)) (by simp)
  rcases List.mem_cons.mp hm with e | e
  · rw [e]
    have := h 0
    omega
  · obtain ⟨x, _, e⟩ := List.mem_map.mp e
    rw [← e]
    exact h x
/-! the law's words -/
section
variable {ps : List CW} {days : Int}
theorem wls_mem : ∀ {ps : List CW} {w : Int × Int}, w ∈ wls ps → ∃ p ∈ ps, w = p.2
  | p :: r, w, h => by
    rcases List.mem_append.mp h with z | z
    · exact ⟨p, List.mem_cons_self .., (List.mem_replicate.mp z).2⟩
    · obtain ⟨q, h1, h2⟩ := wls_mem z
      exact ⟨q, List.mem_cons_of_mem _ h1, h2⟩
theorem fit_in : ∀ {ls : List (Int × Int)} {d : List Int}, Fit ls d → (∀ w ∈ ls, 1 ≤ w.1 ∧ w.2 ≤ 60) → ∀ x ∈ d, 1 ≤ x ∧ x ≤ 60
  | _, _, .nil, _, x, hx => by cases hx
  | w :: ls, y :: d, .cons h1 h2, hw, x, hx => by
    have := hw w (List.mem_cons_self ..)
    rcases List.mem_cons.mp hx with rfl | hx
    · omega
    · exact fit_in h2 (fun v hv => hw v (List.mem_cons_of_mem _ hv)) x hx
theorem rows_in (G : Gd ps days) {d : List Int} (h : d ∈ rowsF ps) : ∀ x ∈ d, 1 ≤ x ∧ x ≤ 60 := fit_in (rows_mem.mp h).1 fun w hw => by
  obtain ⟨p, h1, rfl⟩ := wls_mem hw
  have h2 := G.win p h1
  have h3 := G.day
  omega
theorem rows_none (G : Gd ps days) : rowsF ps = [] ↔ crossF ps ≠ none := by
  constructor
  · intro h e
    have := sched_ok G (cross_none e)
    have : schedF ps days ∈ rowsF ps := rows_mem.mpr ⟨this.1, this.2.1⟩
    rw [h] at this
    cases this
  · intro h
    cases hr : rowsF ps with
    | nil => rfl
    | cons d r =>
      have hd : d ∈ rowsF ps := by rw [hr]; exact List.mem_cons_self ..
      obtain ⟨h1, h2⟩ := rows_mem.mp hd
      exact (h (nox_cross (fit_nox h1 h2))).elim
variable (G : Gd ps days) (hx : crossF ps = none)
include G hx
theorem sched_in : schedF ps days ∈ rowsF ps := by
  have := sched_ok G (cross_none hx)
  exact rows_mem.mpr ⟨this.1, this.2.1⟩
theorem rows_ge {d : List Int} (h : d ∈ rowsF ps) : cartsF ps days ≤ mostF d := by
  obtain ⟨h1, h2⟩ := rows_mem.mp h
  exact least_ge G h1 h2 (most_count d) (rows_in G h)
theorem sched_most : mostF (schedF ps days) = cartsF ps days := by
  have h1 := rows_ge G hx (sched_in G hx)
  have h2 := most_le (sched_ok G (cross_none hx)).2.2.1
  omega
theorem least_is : minL ((rowsF ps).map mostF) = cartsF ps days := by
  have hs := sched_in G hx
  have h1 : minL ((rowsF ps).map mostF) ≤ cartsF ps days := by
    rw [← sched_most G hx]
    exact minL_le (List.mem_map.mpr ⟨_, hs, rfl⟩)
  have h2 : minL ((rowsF ps).map mostF) ∈ (rowsF ps).map mostF := minL_mem (by rw [List.length_map]; exact List.length_pos_of_mem hs)
  obtain ⟨d, hd, e⟩ := List.mem_map.mp h2
  have h3 := rows_ge G hx hd
  omega
theorem good_ge {d : List Int} (h : d ∈ rowsF ps) (e : mostF d = cartsF ps days) : All2 (fun a b : Int => a ≤ b) (schedF ps days) d := by
  obtain ⟨h1, h2⟩ := rows_mem.mp h
  refine (sched_ok G (cross_none hx)).2.2.2.2 d h1 h2 (rows_in G h) fun x => ?_
  rw [← e]
  exact most_count d x
end
end Mi


namespace Mi
open PySem (Str PyData)
def rwD (d : List Int) : PyData := .list (d.map .int)
theorem cut_last (d : List Int) : cutP (d.map PyData.int) (some (-1)) none = d.getLast?.toList.map .int := by
  rcases List.eq_nil_or_concat d with rfl | ⟨r, l, rfl⟩
  · rfl
  · rw [List.concat_eq_append]
    unfold cutP
    have : HT.sIx ((r ++ [l]).map PyData.int).length 0 (some (-1)) = (r.map PyData.int).length := by
      unfold HT.sIx
      simp
      omega
    rw [this, List.map_append, List.drop_left]
    simp [HT.sIx]
/-- a row on the way: so many days still lack -/
def Rw (n : Nat) (x : List Int) : Prop := x.length + n ≤ 6 ∧ ∀ y ∈ x, 1 ≤ y ∧ y ≤ 4
theorem beg_hi {w : Int × Int} {x : List Int} (hw : w.1 ≤ 4) (h : ∀ y ∈ x, 1 ≤ y ∧ y ≤ 4) : begF w x ≤ 4 := by
  have : begF w x ∈ _ := maxL_mem (ns := w.1 :: x.getLast?.toList) (by simp)
  rcases List.mem_cons.mp this with e | e
  · omega
  · have := h (begF w x) (List.mem_of_getLast? (by simpa using e))
    omega
theorem extF_rw {w : Int × Int} {n : Nat} {rows : List (List Int)} (hw : 1 ≤ w.1 ∧ w.2 ≤ 4) (h : ∀ x ∈ rows, Rw (n + 1) x) : ∀ x ∈ extF w rows, Rw n x := fun x hx => by
  obtain ⟨r, hr, hx⟩ := List.mem_flatMap.mp hx
  obtain ⟨d, hd, rfl⟩ := List.mem_map.mp hx
  obtain ⟨h1, h2⟩ := h r hr
  have h3 := dRange_mem.mp hd
  have h4 := begF_ge w r
  refine ⟨by rw [List.length_append, List.length_singleton]; omega, fun y hy => ?_⟩
  rcases List.mem_append.mp hy with z | z
  · exact h2 y z
  · rw [List.mem_singleton.mp z]; omega
section
variable {L : Nat} {s : VS}
theorem v_most {d : List Int} (h : d.length ≤ 1000) : vcalls VTb (L + 1) 14 [.d (rwD d)] s = .ok (.int (mostF d)) s := by
  rw [vc14]
  unfold b14 rwD
  have e1 : vlc [] (.nm 1) (vdenc ⟨vcalls VTb L, gl, [], vF, false⟩ .none) (vden ⟨vcalls VTb L, gl, [], vF, false⟩ .st (.met .count (.var 0) (.cons (.var 1) .nil))) [some (.d (.list (d.map .int))), none] (d.map .int) [] s = .ok ((d.map fun x => ((d.count x : Nat) : Int)).map .int) s := by
    rw [List.map_map]
    refine vlc_map (k := PyData.int) (fun x hx => ⟨_, rfl, rfl, by simp⟩) (by simp; omega)
  have e2 : 1 + d.length ≤ 16777216 := by omega
  have e3 : vpri .max [.list (PyData.int 0 :: (d.map fun x => ((d.count x : Nat) : Int)).map .int)] = some (.int (mostF d)) := vmax_l (ns := 0 :: d.map fun x => ((d.count x : Nat) : Int)) (by simp) (by simp)
  simp [-List.map_map, e1, e2, e3]
theorem v_all {ps : List CW} (h0 : ∀ p ∈ ps, 0 ≤ p.1 ∧ p.1 ≤ 60) (hw : ∀ p ∈ ps, 1 ≤ p.2.1 ∧ p.2.1 ≤ p.2.2 ∧ p.2.2 ≤ 4) (h6 : (wls ps).length ≤ 6) : vcalls VTb (L + 1) 13 [.d (.list (cD ps)), .d (.list (wD ps))] s = .ok (.list ((rowsF ps).map rwD)) s := by
  rw [vc13]
  unfold b13
  have ez : vsrc .zip [.list (cD ps), .list (wD ps)] = some (ps.map fun p => .tuple [.int p.1, winD p.2]) := by
    rw [vsrc_zip seqD_l seqD_l, cD, wD, vpair_self]
  simp [ez]
  refine vr_of ?_
  rw [vsat_fin, vsat_bind]
  obtain ⟨I, hI⟩ : ∃ I : List CW → VSl → VS → Prop, I = fun r τ s' => s' = s ∧ (∀ p ∈ r, p ∈ ps) ∧ ∃ rows s3 s4 s5 s7 s8 s9, rowsF ps = allF (wls r) rows ∧ rows.length * 4 ^ (wls r).length ≤ 4096 ∧ (∀ x ∈ rows, Rw (wls r).length x) ∧ τ = [some (.d (.list (cD ps))), some (.d (.list (wD ps))), some (.d (.list (rows.map rwD))), s3, s4, s5, none, s7, s8, s9] := ⟨_, rfl⟩
  refine vloop_inv (k := fun p : CW => PyData.tuple [.int p.1, winD p.2]) I ?_ ?_ ?_
  · rintro p r τ s' h
    rw [hI] at h
    obtain ⟨rfl, hp, rows, s3, s4, s5, s7, s8, s9, ef, hl, hrw, rfl⟩ := h
    have hp1 := h0 p (hp p (List.mem_cons_self ..))
    have hp2 := hw p (hp p (List.mem_cons_self ..))
    have hpr := fun x (z : x ∈ r) => hp x (List.mem_cons_of_mem _ z)
    refine ⟨_, rfl, ?_⟩
    have h1 : p.1 < 4611686018427387904 := by omega
    have h2 : -4611686018427387904 ≤ p.1 := by omega
    simp [h1, h2]
    rw [vsat_bind, vrng_eq]
    have hwl : wls (p :: r) = List.replicate p.1.toNat p.2 ++ wls r := rfl
    have hwn : (wls (p :: r)).length = p.1.toNat + (wls r).length := by rw [hwl, List.length_append, List.length_replicate]
    rw [hwl] at ef
    rw [hwn] at hl hrw
    obtain ⟨J, hJ⟩ : ∃ J : List Nat → VSl → VS → Prop, J = fun r2 τ s2 => s2 = s' ∧ ∃ rows s5 s7 s8 s9, rowsF ps = allF (List.replicate r2.length p.2 ++ wls r) rows ∧ rows.length * 4 ^ (r2.length + (wls r).length) ≤ 4096 ∧ (∀ x ∈ rows, Rw (r2.length + (wls r).length) x) ∧ τ = [some (.d (.list (cD ps))), some (.d (.list (wD ps))), some (.d (.list (rows.map rwD))), some (.d (.int p.1)), some (.d (winD p.2)), s5, none, s7, s8, s9] := ⟨_, rfl⟩
    refine vloop_inv (k := fun i : Nat => PyData.int (0 + (i : Int))) J ?_ ?_ ?_
    · rintro i r2 τ s2 h
      rw [hJ] at h
      obtain ⟨rfl, rows, s5, s7, s8, s9, ef, hl, hrw, rfl⟩ := h
      refine ⟨_, rfl, ?_⟩
      rw [List.length_cons, show r2.length + 1 + (wls r).length = (r2.length + (wls r).length) + 1 by omega] at hl hrw
      rw [List.length_cons, List.replicate_succ, List.cons_append, allF] at ef
      obtain ⟨n, hn⟩ : ∃ n, r2.length + (wls r).length = n := ⟨_, rfl⟩
      rw [hn] at hl hrw
      have hx1 : (extF p.2 rows).length ≤ rows.length * 4 := extF_len ⟨hp2.1, hp2.2.2⟩ rows
      have hx2 : (extF p.2 rows).length * 4 ^ n ≤ 4096 := by
        refine Nat.le_trans (Nat.mul_le_mul_right _ hx1) ?_
        rw [Nat.pow_succ, Nat.mul_comm (4 ^ n) 4, ← Nat.mul_assoc] at hl
        exact hl
      have hx3 : (extF p.2 rows).length ≤ 4096 := Nat.le_trans (Nat.le_mul_of_pos_right _ (Nat.pow_pos (by decide))) hx2
      simp
      rw [vsat_bind]
      obtain ⟨K, hK⟩ : ∃ K : List (List Int) → VSl → VS → Prop, K = fun r3 τ s3 => s3 = s2 ∧ (∀ x ∈ r3, x ∈ rows) ∧ ∃ acc s7 s8 s9, extF p.2 rows = acc ++ extF p.2 r3 ∧ τ = [some (.d (.list (cD ps))), some (.d (.list (wD ps))), some (.d (.list (rows.map rwD))), some (.d (.int p.1)), some (.d (winD p.2)), some (.d (.int i)), some (.d (.list (acc.map rwD))), s7, s8, s9] := ⟨_, rfl⟩
      refine vloop_inv (k := rwD) K ?_ ?_ ?_
      · rintro row r3 τ s3 h
        rw [hK] at h
        obtain ⟨rfl, hr3, acc, s7, s8, s9, ea, rfl⟩ := h
        refine ⟨_, rfl, ?_⟩
        obtain ⟨hq1, hq2⟩ := hrw row (hr3 row (List.mem_cons_self ..))
        have e3 : vpri .max [.list (PyData.int p.2.1 :: row.getLast?.toList.map .int)] = some (.int (begF p.2 row)) := vmax_l (ns := p.2.1 :: row.getLast?.toList) (by simp) (by simp)
        have hb1 := begF_ge p.2 row
        have hb2 := beg_hi (w := p.2) (x := row) (by omega) hq2
        have h3 : begF p.2 row < 4611686018427387904 := by omega
        have h4 : -4611686018427387904 ≤ begF p.2 row := by omega
        have h5 : (p.2.2 + 1 : Int) < 4611686018427387904 := by omega
        have h6 : -4611686018427387904 ≤ (p.2.2 + 1 : Int) := by omega
        have hlast : 1 + row.getLast?.toList.length ≤ 16777216 := by
          cases row.getLast? <;> simp
        have ha : acc.length + (extR p.2 row).length ≤ 16777216 := by
          have := congrArg List.length ea
          unfold extF at this
          rw [List.flatMap_cons, List.length_append, List.length_append] at this
          unfold extF at hx3
          omega
        have e2 : ∀ (z0 z1 z2 z3 z4 z5 z6 z8 z9 : Option VV), vlc [6] (.nm 9) (vdenc ⟨vcalls VTb L, gl, [6], vF, false⟩ .none) (vden ⟨vcalls VTb L, gl, [6], vF, false⟩ .st (.bin .add (.var 7) (.lst (.cons (.var 9) .nil)))) [z0, z1, z2, z3, z4, z5, z6, some (.d (rwD row)), z8, z9] ((dRange (begF p.2 row) (p.2.2 + 1)).map .int) [] s3 = .ok ((extR p.2 row).map rwD) s3 := by
          intros
          unfold extR
          rw [List.map_map]
          have : row.length + 1 ≤ 16777216 := by omega
          refine vlc_map (k := PyData.int) (fun x hx => ⟨_, rfl, rfl, by simp [rwD, this]⟩) ?_
          rw [dRange_len]
          simp
          omega
        have e4 : vslc (rwD row) (some (-1)) none = some (.list (row.getLast?.toList.map .int)) := by
          rw [← cut_last]
          rfl
        have e5 : vrng (begF p.2 row) (p.2.2 + 1 - begF p.2 row).toNat = (dRange (begF p.2 row) (p.2.2 + 1)).map .int := by
          rw [vrng_eq]
          unfold dRange
          rw [List.map_map]
          rfl
        simp [-List.map_map, e4, e3, hlast, h3, h4, h5, h6, e5, e2, ha]
        rw [hK]
        refine ⟨rfl, fun x hx => hr3 x (List.mem_cons_of_mem _ hx), acc ++ extR p.2 row, _, _, _, ?_, by rw [List.map_append]⟩
        rw [ea]
        unfold extF
        rw [List.flatMap_cons, List.append_assoc]
      · rintro τ s3 h
        rw [hK] at h
        obtain ⟨rfl, hr3, acc, s7, s8, s9, ea, rfl⟩ := h
        simp
        rw [hJ]
        have ea : acc = extF p.2 rows := by
          rw [ea]
          simp [extF]
        subst ea
        exact ⟨rfl, _, _, _, _, _, ef, by rw [hn]; exact hx2, by rw [hn]; exact extF_rw ⟨hp2.1, hp2.2.2⟩ hrw, rfl⟩
      · rw [hK]
        exact ⟨rfl, fun x hx => hx, [], _, _, _, rfl, rfl⟩
    · rintro τ s2 h
      rw [hJ] at h
      obtain ⟨rfl, rows, s5, s7, s8, s9, ef, hl, hrw, rfl⟩ := h
      simp
      rw [hI]
      exact ⟨rfl, hpr, rows, _, _, _, _, _, _, by simpa using ef, by simpa using hl, by simpa using hrw, rfl⟩
    · rw [hJ]
      exact ⟨rfl, rows, _, _, _, _, by simpa using ef, by simpa using hl, by simpa using hrw, rfl⟩
  · rintro τ s' h
    rw [hI] at h
    obtain ⟨rfl, hp, rows, s3, s4, s5, s7, s8, s9, ef, hl, hrw, rfl⟩ := h
    simp
    exact congrArg _ ef.symm
  · rw [hI]
    exact ⟨rfl, fun p hp => hp, [[]], _, _, _, _, _, _, rfl, by
      have : (4 : Nat) ^ (wls ps).length ≤ 4 ^ 6 := Nat.pow_le_pow_right (by decide) h6
      simpa using this, fun x hx => by
      rw [List.mem_singleton.mp hx]
      exact ⟨by simpa using h6, fun y hy => (by cases hy)⟩, rfl⟩
end
end Mi


namespace Mi
open PySem (Str PyData)
theorem shd_rw (d : List Int) : shd (rwD d) = true := (lyd_ints (n := 0)).shd (by decide)
theorem shd_rows (l : List (List Int)) : shd (.list (l.map rwD)) = true := (lyd_l (n := 1) fun d hd => by
  obtain ⟨q, _, rfl⟩ := List.mem_map.mp hd
  exact lyd_ints).shd (by decide)
theorem vne_nil {xs : List PyData} (h : shd (.list xs) = true) : vop .ne (.list xs) (.list []) = some (.bool (!xs.isEmpty)) := by
  rw [vne_d h (by decide), eqv_nilD]
theorem veq_nil {xs : List PyData} (h : shd (.list xs) = true) : vop .eq (.list xs) (.list []) = some (.bool xs.isEmpty) := by
  rw [veq_d h (by decide), eqv_nilD]
theorem all2_flip {α β : Type} {P : α → β → Prop} {as : List α} {bs : List β} (a : All2 P as bs) : All2 (fun b a => P a b) bs as := by
  induction a with
  | nil => exact .nil
  | cons h t ih => exact .cons h ih
theorem eqv_rw (d : List Int) : PyData.eqv (rwD d) (rwD d) = true := (eqvAll_map PyData.int (fun a _ b _ => by simp [PyData.eqv])).mpr rfl
theorem vnotin_rw {d : List Int} {rows : List (List Int)} (h : d ∈ rows) : vop .notin (rwD d) (.list (rows.map rwD)) = some (.bool false) := by
  show (vin (rwD d) (.list (rows.map rwD))).map (fun b => PyData.bool (!b)) = _
  have e : vin (rwD d) (.list (rows.map rwD)) = some ((rows.map rwD).any fun y => PyData.eqv y (rwD d)) := if_pos (.inr ⟨shd_rw d, shd_rows rows⟩)
  rw [e]
  have : ((rows.map rwD).any fun y => PyData.eqv y (rwD d)) = true := List.any_eq_true.mpr ⟨rwD d, List.mem_map.mpr ⟨d, h, rfl⟩, eqv_rw d⟩
  rw [this]
  rfl
theorem wls_max : ∀ {ps : List CW} {p : CW}, p ∈ ps → p.1.toNat ≤ (wls ps).length
  | q :: r, p, h => by
    show _ ≤ (List.replicate q.1.toNat q.2 ++ wls r).length
    rw [List.length_append, List.length_replicate]
    rcases List.mem_cons.mp h with rfl | h
    · omega
    · have := wls_max h; omega
section
variable {L : Nat} {s : VS} {ps : List CW} {days : Int}
theorem rows_len6 {d : List Int} (h : d ∈ rowsF ps) : d.length = (wls ps).length := by have := (rows_mem.mp h).1.length; omega
theorem v_right (G : Gd ps days) (h6 : (wls ps).length ≤ 6) (h4 : days ≤ 4) : vcalls VTb (L + 5) 15 [.d (.list (cD ps)), .d (.list (wD ps)), .d (.int days)] s = .ok (.bool true) s := by
  have e1 : ∀ s, vcalls VTb (L + 4) 8 [.d (.list (cD ps)), .d (.list (wD ps)), .d (.int days)] s = .ok (fewD ps days) s := fun s => v_fewest (bb := false) G
  have e2 : ∀ s, vcalls VTb (L + 4) 13 [.d (.list (cD ps)), .d (.list (wD ps))] s = .ok (.list ((rowsF ps).map rwD)) s := fun s => v_all (L := L + 3) G.cnt (fun p hp => by have := G.win p hp; omega) h6
  have hw4 : ∀ w ∈ wls ps, 1 ≤ w.1 ∧ w.2 ≤ 4 := fun w hw => by
    obtain ⟨p, hp, rfl⟩ := wls_mem hw
    have := G.win p hp
    omega
  have hlen : (rowsF ps).length ≤ 4096 := by
    have h1 := allF_len (rows := [[]]) hw4
    have h2 : (4 : Nat) ^ (wls ps).length ≤ 4 ^ 6 := Nat.pow_le_pow_right (by decide) h6
    simp at h1
    exact Nat.le_trans h1 h2
  rw [vc15]
  unfold b15
  simp [-List.map_map, e1, e2]
  rw [veq_nil (shd_rows _)]
  cases hx : crossF ps with
  | some q =>
    have hr := (rows_none G).mpr (by rw [hx]; simp)
    rw [hr]
    simp [fewD, hx, vidx, L2.atI, L2.ixN]
  | none =>
    have hin := sched_in G hx
    have hne : rowsF ps ≠ [] := List.ne_nil_of_mem hin
    have em : ∀ (d : List Int) (s : VS), d ∈ rowsF ps → vcalls VTb (L + 4) 14 [.d (rwD d)] s = .ok (.int (mostF d)) s := fun d s hd => v_most (by have := rows_len6 hd; omega)
    have ef : fewD ps days = .tuple [.str z0, .int (cartsF ps days), rwD (schedF ps days), spD (bestF (runsQ ps) days).2] := by unfold fewD; rw [hx]; rfl
    rw [ef]
    obtain ⟨tD, htD⟩ : ∃ tD, PyData.tuple [.str z0, .int (cartsF ps days), rwD (schedF ps days), spD (bestF (runsQ ps) days).2] = tD := ⟨_, rfl⟩
    have t0 : vidx tD (.int 0) = some (.str z0) := by rw [← htD]; rfl
    have t1 : vidx tD (.int 1) = some (.int (cartsF ps days)) := by rw [← htD]; rfl
    have t2 : vidx tD (.int 2) = some (rwD (schedF ps days)) := by rw [← htD]; rfl
    have tl : vpri .len [tD] = some (.int 4) := by rw [← htD]; rfl
    have c1 : ∀ (s : VS) (z0 z1 z2 z3 z4 z5 z6 z7 z8 z9 : Option VV), vlc [] (.nm 6) (vdenc ⟨vcalls VTb (L + 4), gl, [], vF, false⟩ .none) (vden ⟨vcalls VTb (L + 4), gl, [], vF, false⟩ .st (.cal 14 (.cons (.var 6) .nil))) [z0, z1, z2, z3, z4, z5, z6, z7, z8, z9] ((rowsF ps).map rwD) [] s = .ok (((rowsF ps).map mostF).map .int) s := by
      intros
      rw [List.map_map]
      exact vlc_map (k := rwD) (fun x hx => ⟨_, rfl, rfl, by simp [em x _ hx]⟩) (by simp; omega)
    have c2 : ∀ (s : VS) (z0 z1 z2 z3 z4 z6 z7 z8 z9 : Option VV), vlc [] (.nm 6) (vdenc ⟨vcalls VTb (L + 4), gl, [], vF, false⟩ (.some (.bin .eq (.cal 14 (.cons (.var 6) .nil)) (.var 5)))) (vden ⟨vcalls VTb (L + 4), gl, [], vF, false⟩ .st (.var 6)) [z0, z1, z2, z3, z4, some (.d (.int (cartsF ps days))), z6, z7, z8, z9] ((rowsF ps).map rwD) [] s = .ok (((rowsF ps).filter fun d => decide (mostF d = cartsF ps days)).map rwD) s := by
      intros
      refine (vlc_pure (k := rwD) (f := rwD) (p := fun d => decide (mostF d = cartsF ps days)) (fun x hx => ⟨_, rfl, ?_, fun _ => ?_⟩) (by simp; omega)).trans (by simp)
      · simp [em x _ hx]
      · simp
    have c3 : ∀ (s : VS) (z0 z1 z2 z4 z5 z6 z7 z8 z9 : Option VV) (gd : List (List Int)), gd.length ≤ 4096 → (∀ d ∈ gd, d ∈ rowsF ps ∧ mostF d = cartsF ps days) → vlc [] (.nm 6) (vdenc ⟨vcalls VTb (L + 4), gl, [], vF, false⟩ (.some (.bin .ne (.lc (.var 8) (.tp [8, 9]) .enum (.cons (.var 6) .nil) [8, 9] (.some (.bin .lt (.var 9) (.idx (.idx (.var 3) (.cst (.int 2))) (.var 8))))) (.lst .nil)))) (vden ⟨vcalls VTb (L + 4), gl, [], vF, false⟩ .st (.var 6)) [z0, z1, z2, some (.d tD), z4, z5, z6, z7, z8, z9] (gd.map rwD) [] s = .ok [] s := by
      intro s z0 z1 z2 z4 z5 z6 z7 z8 z9 gd hg hgd
      refine (vlc_pure (k := rwD) (f := rwD) (p := fun _ => false) (fun x hxg => ⟨_, rfl, ?_, fun h => by cases h⟩) (by simp; omega)).trans (by simp)
      obtain ⟨hx1, hx2⟩ := hgd x hxg
      have ha := good_ge G hx hx1 hx2
      have hlx := rows_len6 hx1
      have he : vsrc .enum [rwD x] = some ((x.zipIdx 0).map fun p => .tuple [.int (p.2 : Nat), .int p.1]) := by
        show some (venum 0 _) = _
        rw [venum_map]
      have ci : ∀ (s : VS) (z0 z1 z2 z4 z5 z6 z7 z8 z9 : Option VV), vlc [] (.tp [8, 9]) (vdenc ⟨vcalls VTb (L + 4), gl, [], vF, false⟩ (.some (.bin .lt (.var 9) (.idx (.idx (.var 3) (.cst (.int 2))) (.var 8))))) (vden ⟨vcalls VTb (L + 4), gl, [], vF, false⟩ .st (.var 8)) [z0, z1, z2, some (.d tD), z4, z5, z6, z7, z8, z9] ((x.zipIdx 0).map fun p => .tuple [.int (p.2 : Nat), .int p.1]) [] s = .ok [] s := by
        intros
        refine (vlc_pure (k := fun p : Int × Nat => PyData.tuple [.int (p.2 : Nat), .int p.1]) (f := fun p : Int × Nat => PyData.int (p.2 : Nat)) (p := fun _ => false) (fun p hp => ⟨_, vtg_2 (by simp) (by simp), ?_, fun h => by cases h⟩) (by simp; omega)).trans (by simp)
        obtain ⟨y, hy1, hy2⟩ := all2_at (all2_flip ha) (List.mem_zipIdx_iff_getElem?.mp hp)
        have hy3 : ¬ p.1 < y := by
          have : y ≤ p.1 := hy2
          omega
        simp [t2, rwD, vix_nat hy1, hy3]
      have en : vop .ne (.list []) (.list []) = some (.bool false) := vne_nil (xs := []) (by decide)
      simp [he, ci, en]
    have hcl : cartsF ps days ≤ 6 := by
      rw [← sched_most G hx]
      refine most_le fun x => ?_
      have h1 := List.count_le_length (a := x) (l := schedF ps days)
      have h2 := rows_len6 hin
      omega
    have hc0 : 0 ≤ cartsF ps days := (best_least (days := days) (runs_pos G)).1
    have er : vpri .repr [.int (cartsF ps days)] = some (.str (PyData.int (cartsF ps days)).shown) := vrepr_ok (okd_int (k := 2) (by decide) (by omega) (by decide)).r (by decide) (by decide)
    have emin : vpri .min [.list (((rowsF ps).map mostF).map PyData.int)] = some (.int (cartsF ps days)) := by
      rw [vmin_l (ns := (rowsF ps).map mostF) (by simp [hne]) rfl, least_is G hx]
    have hgl := List.length_filter_le (fun d => decide (mostF d = cartsF ps days)) (rowsF ps)
    rw [htD]
    simp [-List.map_map, hne, t0, t1, t2, tl, vnotin_rw hin, c1, emin, er, em _ _ hin, sched_most G hx, c2]
    rw [c3 _ _ _ _ _ _ _ _ _ _ _ (by omega) (fun d hd => by
      obtain ⟨h1, h2⟩ := List.mem_filter.mp hd
      exact ⟨h1, of_decide_eq_true h2⟩)]
    have en : vop .eq (.list []) (.list []) = some (.bool true) := veq_nil (xs := []) (by decide)
    simp [en]
end
end Mi


namespace Mi
open PySem (Str PyData)
theorem wls_app : ∀ (a b : List CW), wls (a ++ b) = wls a ++ wls b
  | [], b => rfl
  | p :: a, b => by
    show List.replicate p.1.toNat p.2 ++ wls (a ++ b) = _
    rw [wls_app a b, ← List.append_assoc]
    rfl
theorem sum_wls : ∀ {ps : List CW}, (∀ p ∈ ps, 0 ≤ p.1) → (ps.map (·.1)).sum = ((wls ps).length : Int)
  | [], _ => rfl
  | p :: r, h => by
    have h1 := h p (List.mem_cons_self ..)
    have h2 := sum_wls (ps := r) fun q hq => h q (List.mem_cons_of_mem _ hq)
    show ((p :: r).map (·.1)).sum = ((List.replicate p.1.toNat p.2 ++ wls r).length : Int)
    rw [List.map_cons, List.sum_cons, h2, List.length_append, List.length_replicate]
    omega
/-- runs as they are drawn -/
def Drn (ps : List CW) (days : Int) : Prop := (∀ p ∈ ps, (0 ≤ p.1 ∧ p.1 ≤ 60) ∧ 1 ≤ p.2.1 ∧ p.2.1 ≤ p.2.2 ∧ p.2.2 ≤ days) ∧ (wls ps).length ≤ 6
section
variable {L c : Nat} {s : VS} {Q : PyData → VS → Prop} {E : Nat → List (Str × PyData) → VS → Prop}
theorem v_tk {m : Int} (B : Bxs c s) (hc : c < 100000000) (hm : 0 < m ∧ m < 1073741824) (Z : ∀ (x : Int) (s' : VS), 0 ≤ x → x < m → Bxs (c + 1) s' → Q (.int x) s') : (vcalls VTb (L + 1) 11 [.box, .d (.int m)] s).sat Q E := v_take (T := VTb) B hc hm Z
theorem sum_cD {ps : List CW} (h : ∀ p ∈ ps, 0 ≤ p.1) : vpri .sum [.list (cD ps)] = some (.int ((wls ps).length : Int)) := by
  have : cD ps = (ps.map (·.1)).map PyData.int := by unfold cD; rw [List.map_map]; rfl
  rw [this, vsum_l, sum_wls h]
theorem v_row (B : Bxs c s) (hc : c < 10000000) (Z : ∀ (ps : List CW) (days : Int) (s' : VS), ps.length ≤ 4 → 1 ≤ days → days ≤ 4 → Drn ps days → Bxs (c + 20) s' → Q (.list [.list (cD ps), .list (wD ps), .int days]) s') : (vcalls VTb (L + 2) 12 [.box] s).sat Q E := by
  rw [vc12]
  unfold b12
  simp [vsat_fin, vsat_bind, vsat_sb]
  refine v_tk B (by omega) (by omega) fun d0 s1 hd0 hd1 B1 => ?_
  obtain ⟨days, hdays⟩ : ∃ d, 1 + d0 = d := ⟨_, rfl⟩
  simp [hdays, vsat_bind, vsat_sb]
  refine v_tk B1 (by omega) (by omega) fun n0 s2 hn0 hn1 B2 => ?_
  have h7 : 1 + n0 < 4611686018427387904 := by omega
  have h8 : -4611686018427387904 ≤ 1 + n0 := by omega
  simp [h7, h8, vsat_bind, vsat_sb]
  rw [vrng_eq]
  obtain ⟨I, hI⟩ : ∃ I : List Nat → VSl → VS → Prop, I = fun r τ s' => ∃ (ps : List CW) (s4 s5 s6 : Option VV), ps.length + r.length ≤ 4 ∧ Drn ps days ∧ Bxs (c + 2 + 3 * ps.length) s' ∧ τ = [some .box, some (.d (.int days)), some (.d (.list (cD ps))), some (.d (.list (wD ps))), s4, s5, s6] := ⟨_, rfl⟩
  refine vloop_inv (k := fun i : Nat => PyData.int (0 + (i : Int))) I ?_ ?_ ?_
  · intro k r τ s' h
    rw [hI] at h
    obtain ⟨ps, s4, s5, s6, hl, ⟨hp, h6⟩, B3, rfl⟩ := h
    refine ⟨_, rfl, ?_⟩
    simp at hl
    have esum := sum_cD (ps := ps) fun p hp' => (hp p hp').1.1
    simp [vsat_fin, vsat_bind, vsat_sb]
    refine v_tk B3 (by omega) (by omega) fun m s4 hm0 hm1 B4 => ?_
    have hlt : ps.length < 16777216 := by omega
    simp [esum, hlt, vsat_fin, vsat_bind, vsat_sb]
    refine v_tk B4 (by omega) (by omega) fun one s5 ho0 ho1 B5 => ?_
    simp [vsat_fin, vsat_bind, vsat_sb]
    refine v_tk B5 (by omega) (by omega) fun oth s6 ht0 ht1 B6 => ?_
    simp [hlt]
    rw [hI]
    obtain ⟨cn, hcn⟩ : ∃ cn, min m (6 - ((wls ps).length : Int)) = cn := ⟨_, rfl⟩
    have ec : cD (ps ++ [(cn, 1 + min one oth, 1 + max one oth)]) = cD ps ++ [.int (min m (6 - ((wls ps).length : Int)))] := by rw [hcn]; unfold cD; rw [List.map_append]; rfl
    have ew : wD (ps ++ [(cn, 1 + min one oth, 1 + max one oth)]) = wD ps ++ [.tuple [.int (1 + min one oth), .int (1 + max one oth)]] := by unfold wD; rw [List.map_append]; rfl
    refine ⟨ps ++ [(cn, 1 + min one oth, 1 + max one oth)], some (.d (.int (k : Nat))), some (.d (.int (1 + one))), some (.d (.int (1 + oth))), by simp; omega, ⟨fun p hp' => ?_, ?_⟩, B6.up (by simp; omega), ?_⟩
    · rcases List.mem_append.mp hp' with z | z
      · exact hp p z
      · rw [List.mem_singleton.mp z]
        dsimp only
        omega
    · rw [wls_app, List.length_append]
      show (wls ps).length + (List.replicate cn.toNat _ ++ []).length ≤ 6
      rw [List.append_nil, List.length_replicate]
      omega
    · rw [ec, ew]
  · intro τ s' h
    rw [hI] at h
    obtain ⟨ps, s4, s5, s6, hl, hD, B3, rfl⟩ := h
    simp at hl ⊢
    exact Z ps days s' (by omega) (by omega) (by omega) hD (B3.up (by omega))
  · rw [hI]
    exact ⟨[], _, _, _, by simp; omega, ⟨fun p hp => (by cases hp), by decide⟩, B2, rfl⟩
end
section
variable {S : List Int} {L : Nat} {h : Heap} {Q : RQ Val} {E : RE}
theorem c_cell {k : Int} (h0 : 0 ≤ k) (h1 : k < 1000) (Z : ∀ c : Int, Q (.int c) h) : (calls D gl S (L + 1) 9 [.scr, .int k] h).sat Q E := ok_cell (d := d9) rfl rfl rfl (by decide) h0 h1 Z
theorem c_box {c : Int} (Z : ∀ (n : Nat) (h' : Heap), n = h.length → Bx n 0 h' → Fr h h' → h'.length = h.length + 1 → Q (.ref n) h') : (calls D gl S (L + 1) 10 [.int c] h).sat Q E := ok_box (d := d10) rfl rfl rfl Z
end
/-- a turn of the law -/
def lawB : Sts := match b16 with
  | .cons (.frr _ _ _ b) _ => b
  | _ => .nil
theorem v_turn {k : Int} {s : VS} (B : Bxs 0 s) {s3 s4 s5 s6 : Option VV} : (vexes ⟨vcalls VTb 7, gl, [], vF, false⟩ (dropS 1 lawB) [some .scr, some (.d (.int k)), some .box, none, none, none, none] s).sat (fun f s' => ∃ τ', f = .nx τ' ∧ VScr 7 τ') nov := by
  unfold lawB b16
  dsimp only [dropS]
  simp [vsat_fin, vsat_bind, vsat_sb]
  rw [vrng_eq]
  obtain ⟨I, hI⟩ : ∃ I : List Nat → VSl → VS → Prop, I = fun r τ s' => ∃ (n : Nat) (s3 s4 s5 s6 : Option VV), n + r.length = 3 ∧ Bxs (20 * n) s' ∧ τ = [some .scr, some (.d (.int k)), some .box, s3, s4, s5, s6] := ⟨_, rfl⟩
  refine vloop_inv (k := fun i : Nat => PyData.int (0 + (i : Int))) I ?_ ?_ ?_
  · intro i r τ s' h
    rw [hI] at h
    obtain ⟨n, s3, s4, s5, s6, hl, B1, rfl⟩ := h
    refine ⟨_, rfl, ?_⟩
    simp at hl
    simp [vsat_fin, vsat_bind, vsat_sb]
    refine v_row (L := 5) B1 (by omega) fun ps days s2 hn hd1 hd2 hD B2 => ?_
    have G : Gd ps days := ⟨by omega, fun p hp => (hD.1 p hp).1, fun p hp => (hD.1 p hp).2, hd1, by omega⟩
    simp [vtg, vsetAll, v_right (L := 2) G hD.2 hd2]
    rw [hI]
    exact ⟨n + 1, _, _, _, _, by omega, B2.up (by omega), rfl⟩
  · intro τ s' h
    rw [hI] at h
    obtain ⟨n, s3, s4, s5, s6, hl, B1, rfl⟩ := h
    simp
    exact ⟨rfl, rfl⟩
  · rw [hI]
    exact ⟨0, _, _, _, _, by simp, B, rfl⟩
theorem law_ok (ns : List Int) (hn : ns.length ≤ 63) : ∃ h', mOf D gl ns 8 d16 [.scr] [] = .ok (.bl true) h' := by
  refine law_of ?_
  show (runDef ⟨calls D gl ns 7, gl, ns, none⟩ d16 [.scr] []).sat _ _
  unfold runDef startV d16 b16
  simp
  refine ⟨by omega, ?_⟩
  refine loopF_rng (fun _ σ h => Scr 7 σ) rfl ?_ ?_ ⟨rfl, rfl⟩
  · rintro k σ h hk S
    obtain ⟨r0, hr0, rfl⟩ := S.ex
    obtain ⟨s1, r1, hr1, rfl⟩ := len_s hr0
    obtain ⟨s2, r2, hr2, rfl⟩ := len_s hr1
    obtain ⟨s3, r3, hr3, rfl⟩ := len_s hr2
    obtain ⟨s4, r4, hr4, rfl⟩ := len_s hr3
    obtain ⟨s5, r5, hr5, rfl⟩ := len_s hr4
    obtain ⟨s6, r6, hr6, rfl⟩ := len_s hr5
    obtain rfl := len_z hr6
    refine ⟨_, rfl, ?_⟩
    show (exes _ lawB _ _).sat _ _
    rw [exes_cut 1, sat_bind]
    refine Res.sat.imp (Q := fun f h' => ∃ n s, f = .nx [some .scr, some (.int k), some (.ref n), s3, s4, s5, s6] ∧ n < h'.length ∧ Bxs 0 s ∧ BxS (some n) s h') (E := nox) ?_ ?_ fun _ _ _ z => z.elim
    · show (exes _ (.cons (.asg (.nm 2) (.cal 10 (.cons (.cal 9 (.cons (.var 0) (.cons (.var 1) .nil))) .nil))) .nil) _ _).sat _ _
      simp
      refine c_cell (by omega) (by omega) fun c => ?_
      refine c_box fun n h1 el1 B1 F1 l1 => ?_
      simp
      obtain ⟨s, b1, b2⟩ := B1.bs
      exact ⟨B1.lt, s, b1, b2⟩
    · rintro f h1 ⟨n, s, rfl, hn1, b1, b2⟩
      refine (v_suite vtok (v_turn (s3 := none) (s4 := none) (s5 := none) (s6 := none) b1) (.cons slr_s (.cons slr_i (.cons slr_b (.cons slr_n (.cons slr_n (.cons slr_n (.cons slr_n .nil))))))) (by simp) hn1 b2).imp (fun f h' z => ?_) fun _ _ _ z => z
      obtain ⟨vf, s', A', ⟨τ', rfl, vs⟩, fl, F, B'⟩ := z
      cases f with
      | nx σ' => exact vs.scr fl
      | rt v => exact fl.elim
      | ex c fs σ' => exact fl.elim
  · rintro σ h S
    simp
end Mi


namespace Mi
open PySem PySem.Spec PyProof.Rows L2
theorem lw_mk {P : Program} {w : World} {K : PySem.W.Frag} {h : PySem.Heap} {mg : Str → Option Value} {fa : Addr} (X : K.In h) (G : h.Ns mainGlobals mg) (hfa : mg "law" = some (.ref fa))
    {f0 : Addr} {oc0 kV0 doc0 pm0 cd0 ct0 : Value} {od0 an0 : Option Addr} {sl0 : Array (Option Value)}
    {f1 : Addr} {oc1 kV1 doc1 pm1 cd1 ct1 : Value} {od1 an1 : Option Addr} {sl1 : Array (Option Value)}
    {f2 : Addr} {oc2 kV2 doc2 pm2 cd2 ct2 : Value} {od2 an2 : Option Addr} {sl2 : Array (Option Value)}
    {f3 : Addr} {oc3 kV3 doc3 pm3 cd3 ct3 : Value} {od3 an3 : Option Addr} {sl3 : Array (Option Value)}
    {f4 : Addr} {oc4 kV4 doc4 pm4 cd4 ct4 : Value} {od4 an4 : Option Addr} {sl4 : Array (Option Value)}
    {f5 : Addr} {oc5 kV5 doc5 pm5 cd5 ct5 : Value} {od5 an5 : Option Addr} {sl5 : Array (Option Value)}
    {f6 : Addr} {oc6 kV6 doc6 pm6 cd6 ct6 : Value} {od6 an6 : Option Addr} {sl6 : Array (Option Value)}
    {f7 : Addr} {oc7 kV7 doc7 pm7 cd7 ct7 : Value} {od7 an7 : Option Addr} {sl7 : Array (Option Value)}
    {f8 : Addr} {oc8 kV8 doc8 pm8 cd8 ct8 : Value} {od8 an8 : Option Addr} {sl8 : Array (Option Value)}
    {f9 : Addr} {oc9 kV9 doc9 pm9 cd9 ct9 : Value} {od9 an9 : Option Addr} {sl9 : Array (Option Value)}
    {f10 : Addr} {oc10 kV10 doc10 pm10 cd10 ct10 : Value} {od10 an10 : Option Addr} {sl10 : Array (Option Value)}
    {f11 : Addr} {oc11 kV11 doc11 pm11 cd11 ct11 : Value} {od11 an11 : Option Addr} {sl11 : Array (Option Value)}
    {f12 : Addr} {oc12 kV12 doc12 pm12 cd12 ct12 : Value} {od12 an12 : Option Addr} {sl12 : Array (Option Value)}
    {f13 : Addr} {oc13 kV13 doc13 pm13 cd13 ct13 : Value} {od13 an13 : Option Addr} {sl13 : Array (Option Value)}
    {f14 : Addr} {oc14 kV14 doc14 pm14 cd14 ct14 : Value} {od14 an14 : Option Addr} {sl14 : Array (Option Value)}
    {f15 : Addr} {oc15 kV15 doc15 pm15 cd15 ct15 : Value} {od15 an15 : Option Addr} {sl15 : Array (Option Value)}
    {f16 : Addr} {oc16 kV16 doc16 pm16 cd16 ct16 : Value} {od16 an16 : Option Addr} {sl16 : Array (Option Value)}
    {tk_MOST_DAYS : Tok}
    {tk_MOST_GROUPS : Tok}
    {tk_MOST_THINGS : Tok}
    {CR fR : Addr} {odR anR : Option Addr} {slR : Array (Option Value)} {ocR dcR pmR cdR ctR kwR : Value}
    {C_NoList fI_NoList N_NoList : Addr} {nm_NoList q_NoList : Str} {bs_NoList : List Value} {sn_NoList : List Str} {sub_NoList : List Value} {ab_NoList : Bool} {col_NoList : Option Bool} {dd_NoList : Option Addr} {m0_NoList m1_NoList m2_NoList m3_NoList m5_NoList : Option Value} {od_NoList an_NoList : Option Addr} {sl_NoList : Array (Option Value)} {oc_NoList dc_NoList pm_NoList cd_NoList ct_NoList kw_NoList : Value}
    {C_NoNumber fI_NoNumber N_NoNumber : Addr} {nm_NoNumber q_NoNumber : Str} {bs_NoNumber : List Value} {sn_NoNumber : List Str} {sub_NoNumber : List Value} {ab_NoNumber : Bool} {col_NoNumber : Option Bool} {dd_NoNumber : Option Addr} {m0_NoNumber m1_NoNumber m2_NoNumber m3_NoNumber m5_NoNumber : Option Value} {od_NoNumber an_NoNumber : Option Addr} {sl_NoNumber : Array (Option Value)} {oc_NoNumber dc_NoNumber pm_NoNumber cd_NoNumber ct_NoNumber kw_NoNumber : Value}
    {C_Unlike fI_Unlike N_Unlike : Addr} {nm_Unlike q_Unlike : Str} {bs_Unlike : List Value} {sn_Unlike : List Str} {sub_Unlike : List Value} {ab_Unlike : Bool} {col_Unlike : Option Bool} {dd_Unlike : Option Addr} {m0_Unlike m1_Unlike m2_Unlike m3_Unlike m5_Unlike : Option Value} {od_Unlike an_Unlike : Option Addr} {sl_Unlike : Array (Option Value)} {oc_Unlike dc_Unlike pm_Unlike cd_Unlike ct_Unlike kw_Unlike : Value}
    {C_Outside fI_Outside N_Outside : Addr} {nm_Outside q_Outside : Str} {bs_Outside : List Value} {sn_Outside : List Str} {sub_Outside : List Value} {ab_Outside : Bool} {col_Outside : Option Bool} {dd_Outside : Option Addr} {m0_Outside m1_Outside m2_Outside m3_Outside m5_Outside : Option Value} {od_Outside an_Outside : Option Addr} {sl_Outside : Array (Option Value)} {oc_Outside dc_Outside pm_Outside cd_Outside ct_Outside kw_Outside : Value}
    (a0 : PySem.W.nsIn K mainGlobals "is_whole" = some (some (.ref f0))) (l0 : K.lookup f0 = some ⟨oc0, od0, .func (PySem.W.fnOf "is_whole" "is_whole" (defArgs s0) (defBody s0) (defScope s0) .none kV0 doc0 pm0 an0 cd0 ct0), sl0⟩) (c0 : PySem.W.codeIn K cd0 "is_whole" = true) (k0 : PySem.W.keepIn K (.ref f0) = true)
    (a1 : PySem.W.nsIn K mainGlobals "are_few" = some (some (.ref f1))) (l1 : K.lookup f1 = some ⟨oc1, od1, .func (PySem.W.fnOf "are_few" "are_few" (defArgs s1) (defBody s1) (defScope s1) .none kV1 doc1 pm1 an1 cd1 ct1), sl1⟩) (c1 : PySem.W.codeIn K cd1 "are_few" = true) (k1 : PySem.W.keepIn K (.ref f1) = true)
    (a2 : PySem.W.nsIn K mainGlobals "is_window" = some (some (.ref f2))) (l2 : K.lookup f2 = some ⟨oc2, od2, .func (PySem.W.fnOf "is_window" "is_window" (defArgs s2) (defBody s2) (defScope s2) .none kV2 doc2 pm2 an2 cd2 ct2), sl2⟩) (c2 : PySem.W.codeIn K cd2 "is_window" = true) (k2 : PySem.W.keepIn K (.ref f2) = true)
    (a3 : PySem.W.nsIn K mainGlobals "need_days" = some (some (.ref f3))) (l3 : K.lookup f3 = some ⟨oc3, od3, .func (PySem.W.fnOf "need_days" "need_days" (defArgs s3) (defBody s3) (defScope s3) .none kV3 doc3 pm3 an3 cd3 ct3), sl3⟩) (c3 : PySem.W.codeIn K cd3 "need_days" = true) (k3 : PySem.W.keepIn K (.ref f3) = true)
    (a4 : PySem.W.nsIn K mainGlobals "spans_of" = some (some (.ref f4))) (l4 : K.lookup f4 = some ⟨oc4, od4, .func (PySem.W.fnOf "spans_of" "spans_of" (defArgs s4) (defBody s4) (defScope s4) .none kV4 doc4 pm4 an4 cd4 ct4), sl4⟩) (c4 : PySem.W.codeIn K cd4 "spans_of" = true) (k4 : PySem.W.keepIn K (.ref f4) = true)
    (a5 : PySem.W.nsIn K mainGlobals "crossed" = some (some (.ref f5))) (l5 : K.lookup f5 = some ⟨oc5, od5, .func (PySem.W.fnOf "crossed" "crossed" (defArgs s5) (defBody s5) (defScope s5) .none kV5 doc5 pm5 an5 cd5 ct5), sl5⟩) (c5 : PySem.W.codeIn K cd5 "crossed" = true) (k5 : PySem.W.keepIn K (.ref f5) = true)
    (a6 : PySem.W.nsIn K mainGlobals "within" = some (some (.ref f6))) (l6 : K.lookup f6 = some ⟨oc6, od6, .func (PySem.W.fnOf "within" "within" (defArgs s6) (defBody s6) (defScope s6) .none kV6 doc6 pm6 an6 cd6 ct6), sl6⟩) (c6 : PySem.W.codeIn K cd6 "within" = true) (k6 : PySem.W.keepIn K (.ref f6) = true)
    (a7 : PySem.W.nsIn K mainGlobals "days_of" = some (some (.ref f7))) (l7 : K.lookup f7 = some ⟨oc7, od7, .func (PySem.W.fnOf "days_of" "days_of" (defArgs s7) (defBody s7) (defScope s7) .none kV7 doc7 pm7 an7 cd7 ct7), sl7⟩) (c7 : PySem.W.codeIn K cd7 "days_of" = true) (k7 : PySem.W.keepIn K (.ref f7) = true)
    (a8 : PySem.W.nsIn K mainGlobals "fewest_carts" = some (some (.ref f8))) (l8 : K.lookup f8 = some ⟨oc8, od8, .func (PySem.W.fnOf "fewest_carts" "fewest_carts" (defArgs s8) (defBody s8) (defScope s8) .none kV8 doc8 pm8 an8 cd8 ct8), sl8⟩) (c8 : PySem.W.codeIn K cd8 "fewest_carts" = true) (k8 : PySem.W.keepIn K (.ref f8) = true)
    (a9 : PySem.W.nsIn K mainGlobals "_law_cell" = some (some (.ref f9))) (l9 : K.lookup f9 = some ⟨oc9, od9, .func (PySem.W.fnOf "_law_cell" "_law_cell" (defArgs s9) (defBody s9) (defScope s9) .none kV9 doc9 pm9 an9 cd9 ct9), sl9⟩) (c9 : PySem.W.codeIn K cd9 "_law_cell" = true) (k9 : PySem.W.keepIn K (.ref f9) = true)
    (a10 : PySem.W.nsIn K mainGlobals "_law_bag" = some (some (.ref f10))) (l10 : K.lookup f10 = some ⟨oc10, od10, .func (PySem.W.fnOf "_law_bag" "_law_bag" (defArgs s10) (defBody s10) (defScope s10) .none kV10 doc10 pm10 an10 cd10 ct10), sl10⟩) (c10 : PySem.W.codeIn K cd10 "_law_bag" = true) (k10 : PySem.W.keepIn K (.ref f10) = true)
    (a11 : PySem.W.nsIn K mainGlobals "_law_take" = some (some (.ref f11))) (l11 : K.lookup f11 = some ⟨oc11, od11, .func (PySem.W.fnOf "_law_take" "_law_take" (defArgs s11) (defBody s11) (defScope s11) .none kV11 doc11 pm11 an11 cd11 ct11), sl11⟩) (c11 : PySem.W.codeIn K cd11 "_law_take" = true) (k11 : PySem.W.keepIn K (.ref f11) = true)
    (a12 : PySem.W.nsIn K mainGlobals "_law_row" = some (some (.ref f12))) (l12 : K.lookup f12 = some ⟨oc12, od12, .func (PySem.W.fnOf "_law_row" "_law_row" (defArgs s12) (defBody s12) (defScope s12) .none kV12 doc12 pm12 an12 cd12 ct12), sl12⟩) (c12 : PySem.W.codeIn K cd12 "_law_row" = true) (k12 : PySem.W.keepIn K (.ref f12) = true)
    (a13 : PySem.W.nsIn K mainGlobals "_law_all_days" = some (some (.ref f13))) (l13 : K.lookup f13 = some ⟨oc13, od13, .func (PySem.W.fnOf "_law_all_days" "_law_all_days" (defArgs s13) (defBody s13) (defScope s13) .none kV13 doc13 pm13 an13 cd13 ct13), sl13⟩) (c13 : PySem.W.codeIn K cd13 "_law_all_days" = true) (k13 : PySem.W.keepIn K (.ref f13) = true)
    (a14 : PySem.W.nsIn K mainGlobals "_law_most" = some (some (.ref f14))) (l14 : K.lookup f14 = some ⟨oc14, od14, .func (PySem.W.fnOf "_law_most" "_law_most" (defArgs s14) (defBody s14) (defScope s14) .none kV14 doc14 pm14 an14 cd14 ct14), sl14⟩) (c14 : PySem.W.codeIn K cd14 "_law_most" = true) (k14 : PySem.W.keepIn K (.ref f14) = true)
    (a15 : PySem.W.nsIn K mainGlobals "_law_right" = some (some (.ref f15))) (l15 : K.lookup f15 = some ⟨oc15, od15, .func (PySem.W.fnOf "_law_right" "_law_right" (defArgs s15) (defBody s15) (defScope s15) .none kV15 doc15 pm15 an15 cd15 ct15), sl15⟩) (c15 : PySem.W.codeIn K cd15 "_law_right" = true) (k15 : PySem.W.keepIn K (.ref f15) = true)
    (a16 : PySem.W.nsIn K mainGlobals "law" = some (some (.ref f16))) (l16 : K.lookup f16 = some ⟨oc16, od16, .func (PySem.W.fnOf "law" "law" (defArgs s16) (defBody s16) (defScope s16) .none kV16 doc16 pm16 an16 cd16 ct16), sl16⟩) (c16 : PySem.W.codeIn K cd16 "law" = true) (k16 : PySem.W.keepIn K (.ref f16) = true)
    (zn_all : PySem.W.nsIn K mainGlobals "all" = some none)
    (zn_bool : PySem.W.nsIn K mainGlobals "bool" = some none)
    (zn_divmod : PySem.W.nsIn K mainGlobals "divmod" = some none)
    (zn_enumerate : PySem.W.nsIn K mainGlobals "enumerate" = some none)
    (zn_int : PySem.W.nsIn K mainGlobals "int" = some none)
    (zn_isinstance : PySem.W.nsIn K mainGlobals "isinstance" = some none)
    (zn_len : PySem.W.nsIn K mainGlobals "len" = some none)
    (zn_list : PySem.W.nsIn K mainGlobals "list" = some none)
    (zn_max : PySem.W.nsIn K mainGlobals "max" = some none)
    (zn_min : PySem.W.nsIn K mainGlobals "min" = some none)
    (zn_range : PySem.W.nsIn K mainGlobals "range" = some none)
    (zn_repr : PySem.W.nsIn K mainGlobals "repr" = some none)
    (zn_reversed : PySem.W.nsIn K mainGlobals "reversed" = some none)
    (zn_sum : PySem.W.nsIn K mainGlobals "sum" = some none)
    (zn_tuple : PySem.W.nsIn K mainGlobals "tuple" = some none)
    (zn_zip : PySem.W.nsIn K mainGlobals "zip" = some none)
    (zc_MOST_DAYS : PySem.W.nsIn K mainGlobals "MOST_DAYS" = some (some (.int 60 tk_MOST_DAYS)))
    (zc_MOST_GROUPS : PySem.W.nsIn K mainGlobals "MOST_GROUPS" = some (some (.int 12 tk_MOST_GROUPS)))
    (zc_MOST_THINGS : PySem.W.nsIn K mainGlobals "MOST_THINGS" = some (some (.int 60 tk_MOST_THINGS)))
    (rA : PySem.W.nsIn K mainGlobals "ShelvesError" = some (some (.ref CR))) (rR : PySem.W.readsIn K CR (.type "type") = true) (rG : PySem.W.specialIn K (.ref CR) "__getattribute__" = some (some (.builtin "type.__getattribute__"))) (rV : PySem.W.findCls K (.ref CR) (.type "type") "__init__" = some (.val (.ref fR))) (rK : PySem.W.keepIn K (.ref fR) = true)
    (rL : K.lookup fR = some ⟨ocR, odR, .func (PySem.W.fnOf "__init__" "ShelvesError.__init__" (defArgs sI_ShelvesError) (defBody sI_ShelvesError) (defScope sI_ShelvesError) .none kwR dcR pmR anR cdR ctR), slR⟩) (rC : PySem.W.codeIn K cdR "ShelvesError.__init__" = true) (rN : PySem.W.nsIn K mainGlobals "ValueError" = some none) (rF : PySem.W.findCls K (.type "ValueError") (.type "type") "__init__" = some (.val (.builtin "ValueError.__init__")))
    (xA_NoList : PySem.W.nsIn K mainGlobals "NoList" = some (some (.ref C_NoList))) (xL_NoList : K.lookup C_NoList = some (excClassObj nm_NoList q_NoList C_NoList N_NoList bs_NoList [.ref CR, .type "ValueError", .type "Exception", .type "BaseException", .type "object"] true sn_NoList sub_NoList ab_NoList col_NoList dd_NoList m0_NoList m1_NoList m2_NoList m3_NoList m5_NoList "ValueError.__new__"))
    (xS_NoList : PySem.W.findIn K (.ref C_NoList) "__setattr__" = some (some (.builtin "object.__setattr__"))) (xI_NoList : PySem.W.findIn K (.ref C_NoList) "__init__" = some (some (.ref fI_NoList))) (xT_NoList : PySem.W.typeIn K (.ref fI_NoList) = some (.type "function")) (xE_NoList : PySem.W.subIn K (.ref C_NoList) (.type "BaseException") = some true) (xY_NoList : PySem.W.typeIn K (.ref C_NoList) = some (.type "type")) (xK_NoList : PySem.W.keepIn K (.ref C_NoList) = true)
    (xX_NoList : PySem.W.findIn K (.ref C_NoList) "__getattribute__" = some (some (.builtin "BaseException.__getattribute__"))) (xG_NoList : PySem.W.findIn K (.ref C_NoList) "__getattr__" = some none) (xH_NoList : PySem.W.hasDictIn K C_NoList = true) (xF_NoList : K.lookup fI_NoList = some ⟨oc_NoList, od_NoList, .func (PySem.W.fnOf "__init__" "NoList.__init__" (defArgs sI_NoList) (defBody sI_NoList) (defScope sI_NoList) .none kw_NoList dc_NoList pm_NoList an_NoList cd_NoList ct_NoList), sl_NoList⟩) (xC_NoList : PySem.W.codeIn K cd_NoList "NoList.__init__" = true) (xJ_NoList : PySem.W.keepIn K (.ref fI_NoList) = true)
    (xN_NoList_found : PySem.W.findIn K (.ref C_NoList) "found" = some none)
    (xA_NoNumber : PySem.W.nsIn K mainGlobals "NoNumber" = some (some (.ref C_NoNumber))) (xL_NoNumber : K.lookup C_NoNumber = some (excClassObj nm_NoNumber q_NoNumber C_NoNumber N_NoNumber bs_NoNumber [.ref CR, .type "ValueError", .type "Exception", .type "BaseException", .type "object"] true sn_NoNumber sub_NoNumber ab_NoNumber col_NoNumber dd_NoNumber m0_NoNumber m1_NoNumber m2_NoNumber m3_NoNumber m5_NoNumber "ValueError.__new__"))
    (xS_NoNumber : PySem.W.findIn K (.ref C_NoNumber) "__setattr__" = some (some (.builtin "object.__setattr__"))) (xI_NoNumber : PySem.W.findIn K (.ref C_NoNumber) "__init__" = some (some (.ref fI_NoNumber))) (xT_NoNumber : PySem.W.typeIn K (.ref fI_NoNumber) = some (.type "function")) (xE_NoNumber : PySem.W.subIn K (.ref C_NoNumber) (.type "BaseException") = some true) (xY_NoNumber : PySem.W.typeIn K (.ref C_NoNumber) = some (.type "type")) (xK_NoNumber : PySem.W.keepIn K (.ref C_NoNumber) = true)
    (xX_NoNumber : PySem.W.findIn K (.ref C_NoNumber) "__getattribute__" = some (some (.builtin "BaseException.__getattribute__"))) (xG_NoNumber : PySem.W.findIn K (.ref C_NoNumber) "__getattr__" = some none) (xH_NoNumber : PySem.W.hasDictIn K C_NoNumber = true) (xF_NoNumber : K.lookup fI_NoNumber = some ⟨oc_NoNumber, od_NoNumber, .func (PySem.W.fnOf "__init__" "NoNumber.__init__" (defArgs sI_NoNumber) (defBody sI_NoNumber) (defScope sI_NoNumber) .none kw_NoNumber dc_NoNumber pm_NoNumber an_NoNumber cd_NoNumber ct_NoNumber), sl_NoNumber⟩) (xC_NoNumber : PySem.W.codeIn K cd_NoNumber "NoNumber.__init__" = true) (xJ_NoNumber : PySem.W.keepIn K (.ref fI_NoNumber) = true)
    (xN_NoNumber_found : PySem.W.findIn K (.ref C_NoNumber) "found" = some none)
    (xA_Unlike : PySem.W.nsIn K mainGlobals "Unlike" = some (some (.ref C_Unlike))) (xL_Unlike : K.lookup C_Unlike = some (excClassObj nm_Unlike q_Unlike C_Unlike N_Unlike bs_Unlike [.ref CR, .type "ValueError", .type "Exception", .type "BaseException", .type "object"] true sn_Unlike sub_Unlike ab_Unlike col_Unlike dd_Unlike m0_Unlike m1_Unlike m2_Unlike m3_Unlike m5_Unlike "ValueError.__new__"))
    (xS_Unlike : PySem.W.findIn K (.ref C_Unlike) "__setattr__" = some (some (.builtin "object.__setattr__"))) (xI_Unlike : PySem.W.findIn K (.ref C_Unlike) "__init__" = some (some (.ref fI_Unlike))) (xT_Unlike : PySem.W.typeIn K (.ref fI_Unlike) = some (.type "function")) (xE_Unlike : PySem.W.subIn K (.ref C_Unlike) (.type "BaseException") = some true) (xY_Unlike : PySem.W.typeIn K (.ref C_Unlike) = some (.type "type")) (xK_Unlike : PySem.W.keepIn K (.ref C_Unlike) = true)
    (xX_Unlike : PySem.W.findIn K (.ref C_Unlike) "__getattribute__" = some (some (.builtin "BaseException.__getattribute__"))) (xG_Unlike : PySem.W.findIn K (.ref C_Unlike) "__getattr__" = some none) (xH_Unlike : PySem.W.hasDictIn K C_Unlike = true) (xF_Unlike : K.lookup fI_Unlike = some ⟨oc_Unlike, od_Unlike, .func (PySem.W.fnOf "__init__" "Unlike.__init__" (defArgs sI_Unlike) (defBody sI_Unlike) (defScope sI_Unlike) .none kw_Unlike dc_Unlike pm_Unlike an_Unlike cd_Unlike ct_Unlike), sl_Unlike⟩) (xC_Unlike : PySem.W.codeIn K cd_Unlike "Unlike.__init__" = true) (xJ_Unlike : PySem.W.keepIn K (.ref fI_Unlike) = true)
    (xN_Unlike_found : PySem.W.findIn K (.ref C_Unlike) "found" = some none)
    (xA_Outside : PySem.W.nsIn K mainGlobals "Outside" = some (some (.ref C_Outside))) (xL_Outside : K.lookup C_Outside = some (excClassObj nm_Outside q_Outside C_Outside N_Outside bs_Outside [.ref CR, .type "ValueError", .type "Exception", .type "BaseException", .type "object"] true sn_Outside sub_Outside ab_Outside col_Outside dd_Outside m0_Outside m1_Outside m2_Outside m3_Outside m5_Outside "ValueError.__new__"))
    (xS_Outside : PySem.W.findIn K (.ref C_Outside) "__setattr__" = some (some (.builtin "object.__setattr__"))) (xI_Outside : PySem.W.findIn K (.ref C_Outside) "__init__" = some (some (.ref fI_Outside))) (xT_Outside : PySem.W.typeIn K (.ref fI_Outside) = some (.type "function")) (xE_Outside : PySem.W.subIn K (.ref C_Outside) (.type "BaseException") = some true) (xY_Outside : PySem.W.typeIn K (.ref C_Outside) = some (.type "type")) (xK_Outside : PySem.W.keepIn K (.ref C_Outside) = true)
    (xX_Outside : PySem.W.findIn K (.ref C_Outside) "__getattribute__" = some (some (.builtin "BaseException.__getattribute__"))) (xG_Outside : PySem.W.findIn K (.ref C_Outside) "__getattr__" = some none) (xH_Outside : PySem.W.hasDictIn K C_Outside = true) (xF_Outside : K.lookup fI_Outside = some ⟨oc_Outside, od_Outside, .func (PySem.W.fnOf "__init__" "Outside.__init__" (defArgs sI_Outside) (defBody sI_Outside) (defScope sI_Outside) .none kw_Outside dc_Outside pm_Outside an_Outside cd_Outside ct_Outside), sl_Outside⟩) (xC_Outside : PySem.W.codeIn K cd_Outside "Outside.__init__" = true) (xJ_Outside : PySem.W.keepIn K (.ref fI_Outside) = true)
    (xN_Outside_found : PySem.W.findIn K (.ref C_Outside) "found" = some none)
    (ok : ∀ ns : List Int, ns.length ≤ 63 → ∃ h', mOf D gl ns 8 d16 [.scr] [] = .ok (.bl true) h') :
    ∃ (fd : FuncData) (ga : Nat → Option Addr) (m : List Int → List Val → Heap → Res Val), (∀ (s : Shared) (u : Value), BindsTo s fd ⟨[u], []⟩ [("script", u)]) ∧ (∀ ns : List Int, ns.length ≤ 63 → ∃ h', m ns [.scr] [] = .ok (.bl true) h') ∧
      ∀ (a : Addr) (ns : List Int) (base : PySem.Heap), K.In base → base.Ns mainGlobals mg → (∃ mm, base.Ns sysModules mm) → FnG P w K mg base 11 fa fd ["script"] (spC ⟨K, ga, a, ns, none⟩ (m ns)) := by
  have e := hfa.symm.trans (PySem.W.mg_of X G a16)
  cases e
  have F : Fx K mg (fun i => match i with | 0 => some C_NoList | 1 => some C_NoNumber | 2 => some C_Unlike | 3 => some C_Outside | _ => none) := ⟨⟨⟨_, _, _, ⟨PySem.W.mg_of X G rA, ⟨rR, rG⟩, ⟨rV, rfl⟩, rK⟩, fun_mk (st := sI_ShelvesError) rL rC rK, (fun_mk (st := sI_ShelvesError) rL rC rK).binds (ps := ["self", "text"]) fun _ _ _ _ _ _ us hl => match us, hl with | [_, _], _ => rfl⟩, PySem.W.mg_none_of X G rN, rF⟩,
    ⟨C_NoList, _, _, rfl, ⟨PySem.W.mg_of X G xA_NoList, ⟨⟨_, _, _, _, _, _, _, _, _, _, _, _, _, _, _, xL_NoList, by rfl⟩, xS_NoList, xE_NoList, xY_NoList, xK_NoList⟩, xI_NoList, xT_NoList, ⟨xX_NoList, xG_NoList, xE_NoList, xH_NoList⟩, (by intro f hf; simp only [List.mem_cons, List.not_mem_nil, or_false] at hf; subst hf <;> assumption)⟩, fun_mk (st := sI_NoList) xF_NoList xC_NoList xJ_NoList, (fun_mk (st := sI_NoList) xF_NoList xC_NoList xJ_NoList).binds (ps := ["self", "found"]) fun _ _ _ _ _ _ us hl => match us, hl with | [_, _], _ => rfl⟩,
    ⟨C_NoNumber, _, _, rfl, ⟨PySem.W.mg_of X G xA_NoNumber, ⟨⟨_, _, _, _, _, _, _, _, _, _, _, _, _, _, _, xL_NoNumber, by rfl⟩, xS_NoNumber, xE_NoNumber, xY_NoNumber, xK_NoNumber⟩, xI_NoNumber, xT_NoNumber, ⟨xX_NoNumber, xG_NoNumber, xE_NoNumber, xH_NoNumber⟩, (by intro f hf; simp only [List.mem_cons, List.not_mem_nil, or_false] at hf; subst hf <;> assumption)⟩, fun_mk (st := sI_NoNumber) xF_NoNumber xC_NoNumber xJ_NoNumber, (fun_mk (st := sI_NoNumber) xF_NoNumber xC_NoNumber xJ_NoNumber).binds (ps := ["self", "found"]) fun _ _ _ _ _ _ us hl => match us, hl with | [_, _], _ => rfl⟩,
    ⟨C_Unlike, _, _, rfl, ⟨PySem.W.mg_of X G xA_Unlike, ⟨⟨_, _, _, _, _, _, _, _, _, _, _, _, _, _, _, xL_Unlike, by rfl⟩, xS_Unlike, xE_Unlike, xY_Unlike, xK_Unlike⟩, xI_Unlike, xT_Unlike, ⟨xX_Unlike, xG_Unlike, xE_Unlike, xH_Unlike⟩, (by intro f hf; simp only [List.mem_cons, List.not_mem_nil, or_false] at hf; subst hf <;> assumption)⟩, fun_mk (st := sI_Unlike) xF_Unlike xC_Unlike xJ_Unlike, (fun_mk (st := sI_Unlike) xF_Unlike xC_Unlike xJ_Unlike).binds (ps := ["self", "found"]) fun _ _ _ _ _ _ us hl => match us, hl with | [_, _], _ => rfl⟩,
    ⟨C_Outside, _, _, rfl, ⟨PySem.W.mg_of X G xA_Outside, ⟨⟨_, _, _, _, _, _, _, _, _, _, _, _, _, _, _, xL_Outside, by rfl⟩, xS_Outside, xE_Outside, xY_Outside, xK_Outside⟩, xI_Outside, xT_Outside, ⟨xX_Outside, xG_Outside, xE_Outside, xH_Outside⟩, (by intro f hf; simp only [List.mem_cons, List.not_mem_nil, or_false] at hf; subst hf <;> assumption)⟩, fun_mk (st := sI_Outside) xF_Outside xC_Outside xJ_Outside, (fun_mk (st := sI_Outside) xF_Outside xC_Outside xJ_Outside).binds (ps := ["self", "found"]) fun _ _ _ _ _ _ us hl => match us, hl with | [_, _], _ => rfl⟩,
    PySem.W.mg_none_of X G zn_all,
    PySem.W.mg_none_of X G zn_bool,
    PySem.W.mg_none_of X G zn_divmod,
    PySem.W.mg_none_of X G zn_enumerate,
    PySem.W.mg_none_of X G zn_int,
    PySem.W.mg_none_of X G zn_isinstance,
    PySem.W.mg_none_of X G zn_len,
    PySem.W.mg_none_of X G zn_list,
    PySem.W.mg_none_of X G zn_max,
    PySem.W.mg_none_of X G zn_min,
    PySem.W.mg_none_of X G zn_range,
    PySem.W.mg_none_of X G zn_repr,
    PySem.W.mg_none_of X G zn_reversed,
    PySem.W.mg_none_of X G zn_sum,
    PySem.W.mg_none_of X G zn_tuple,
    PySem.W.mg_none_of X G zn_zip,
    ⟨_, PySem.W.mg_of X G zc_MOST_DAYS⟩,
    ⟨_, PySem.W.mg_of X G zc_MOST_GROUPS⟩,
    ⟨_, PySem.W.mg_of X G zc_MOST_THINGS⟩,
    ⟨⟨_, _, _, _, _, _, _, _, _, _, PySem.W.mg_of X G a0, l0, c0, k0, (fun_mk (st := s0) l0 c0 k0).binds (ps := ["thing", "low", "high"]) fun _ _ _ _ _ _ us hl => match us, hl with | [_, _, _], _ => rfl⟩⟩,
    ⟨⟨_, _, _, _, _, _, _, _, _, _, PySem.W.mg_of X G a1, l1, c1, k1, (fun_mk (st := s1) l1 c1 k1).binds (ps := ["thing", "most"]) fun _ _ _ _ _ _ us hl => match us, hl with | [_, _], _ => rfl⟩⟩,
    ⟨⟨_, _, _, _, _, _, _, _, _, _, PySem.W.mg_of X G a2, l2, c2, k2, (fun_mk (st := s2) l2 c2 k2).binds (ps := ["thing"]) fun _ _ _ _ _ _ us hl => match us, hl with | [_], _ => rfl⟩⟩,
    ⟨⟨_, _, _, _, _, _, _, _, _, _, PySem.W.mg_of X G a3, l3, c3, k3, (fun_mk (st := s3) l3 c3 k3).binds (ps := ["counts", "windows", "days"]) fun _ _ _ _ _ _ us hl => match us, hl with | [_, _, _], _ => rfl⟩⟩,
    ⟨⟨_, _, _, _, _, _, _, _, _, _, PySem.W.mg_of X G a4, l4, c4, k4, (fun_mk (st := s4) l4 c4 k4).binds (ps := ["counts", "windows"]) fun _ _ _ _ _ _ us hl => match us, hl with | [_, _], _ => rfl⟩⟩,
    ⟨⟨_, _, _, _, _, _, _, _, _, _, PySem.W.mg_of X G a5, l5, c5, k5, (fun_mk (st := s5) l5 c5 k5).binds (ps := ["counts", "windows"]) fun _ _ _ _ _ _ us hl => match us, hl with | [_, _], _ => rfl⟩⟩,
    ⟨⟨_, _, _, _, _, _, _, _, _, _, PySem.W.mg_of X G a6, l6, c6, k6, (fun_mk (st := s6) l6 c6 k6).binds (ps := ["counts", "spans", "begin", "end"]) fun _ _ _ _ _ _ us hl => match us, hl with | [_, _, _, _], _ => rfl⟩⟩,
    ⟨⟨_, _, _, _, _, _, _, _, _, _, PySem.W.mg_of X G a7, l7, c7, k7, (fun_mk (st := s7) l7 c7 k7).binds (ps := ["counts", "spans", "carts"]) fun _ _ _ _ _ _ us hl => match us, hl with | [_, _, _], _ => rfl⟩⟩,
    ⟨⟨_, _, _, _, _, _, _, _, _, _, PySem.W.mg_of X G a8, l8, c8, k8, (fun_mk (st := s8) l8 c8 k8).binds (ps := ["counts", "windows", "days"]) fun _ _ _ _ _ _ us hl => match us, hl with | [_, _, _], _ => rfl⟩⟩,
    ⟨⟨_, _, _, _, _, _, _, _, _, _, PySem.W.mg_of X G a9, l9, c9, k9, (fun_mk (st := s9) l9 c9 k9).binds (ps := ["script", "k"]) fun _ _ _ _ _ _ us hl => match us, hl with | [_, _], _ => rfl⟩⟩,
    ⟨⟨_, _, _, _, _, _, _, _, _, _, PySem.W.mg_of X G a10, l10, c10, k10, (fun_mk (st := s10) l10 c10 k10).binds (ps := ["cell"]) fun _ _ _ _ _ _ us hl => match us, hl with | [_], _ => rfl⟩⟩,
    ⟨⟨_, _, _, _, _, _, _, _, _, _, PySem.W.mg_of X G a11, l11, c11, k11, (fun_mk (st := s11) l11 c11 k11).binds (ps := ["bag", "many"]) fun _ _ _ _ _ _ us hl => match us, hl with | [_, _], _ => rfl⟩⟩,
    ⟨⟨_, _, _, _, _, _, _, _, _, _, PySem.W.mg_of X G a12, l12, c12, k12, (fun_mk (st := s12) l12 c12 k12).binds (ps := ["bag"]) fun _ _ _ _ _ _ us hl => match us, hl with | [_], _ => rfl⟩⟩,
    ⟨⟨_, _, _, _, _, _, _, _, _, _, PySem.W.mg_of X G a13, l13, c13, k13, (fun_mk (st := s13) l13 c13 k13).binds (ps := ["counts", "windows"]) fun _ _ _ _ _ _ us hl => match us, hl with | [_, _], _ => rfl⟩⟩,
    ⟨⟨_, _, _, _, _, _, _, _, _, _, PySem.W.mg_of X G a14, l14, c14, k14, (fun_mk (st := s14) l14 c14 k14).binds (ps := ["row"]) fun _ _ _ _ _ _ us hl => match us, hl with | [_], _ => rfl⟩⟩,
    ⟨⟨_, _, _, _, _, _, _, _, _, _, PySem.W.mg_of X G a15, l15, c15, k15, (fun_mk (st := s15) l15 c15 k15).binds (ps := ["counts", "windows", "days"]) fun _ _ _ _ _ _ us hl => match us, hl with | [_, _, _], _ => rfl⟩⟩,
    ⟨⟨_, _, _, _, _, _, _, _, _, _, PySem.W.mg_of X G a16, l16, c16, k16, (fun_mk (st := s16) l16 c16 k16).binds (ps := ["script"]) fun _ _ _ _ _ _ us hl => match us, hl with | [_], _ => rfl⟩⟩⟩
  refine ⟨PySem.W.fnOf "law" "law" (defArgs s16) (defBody s16) (defScope s16) .none kV16 doc16 pm16 an16 cd16 ct16, fun i => match i with | 0 => some C_NoList | 1 => some C_NoNumber | 2 => some C_Unlike | 3 => some C_Outside | _ => none, fun ns => mOf D gl ns 8 d16, fun s v => .of_eq rfl, ok, fun a ns base _ _ sm => ?_⟩
  exact fn_law (t := ⟨K, fun i => match i with | 0 => some C_NoList | 1 => some C_NoNumber | 2 => some C_Unlike | 3 => some C_Outside | _ => none, a, ns, none⟩) rfl rfl sm l16 c16 sc16 rfl rfl fun A outer s H E O hr => w16 (tx_all (K := K) (mg := mg) (t := ⟨K, fun i => match i with | 0 => some C_NoList | 1 => some C_NoNumber | 2 => some C_Unlike | 3 => some C_Outside | _ => none, a, ns, none⟩) rfl rfl sm F 7) O hr
end Mi
open PySem PySem.W PyProof.Rows
set_option maxRecDepth 100000 in
set_option maxHeartbeats 0 in
theorem PySem.Challenge.cw_shelvesmoved_k49_whole_no_cart_less_holds : PySem.Challenge.rw_shelvesmoved_k49_whole_no_cart_less.Holds := by
  w_on; o_law; k_head; (case hw => w_witness2)
  k_fill
  refine Mi.walk_g (l := PySem.Challenge.rw_shelvesmoved_k49_whole_no_cart_less) (n := 63) (k := 11) (x := "script") rfl (by decide) rfl (by decide +kernel) ⟨rfl, by decide, by decide⟩ (fun w h Y => PySem.W.kIn_of Y) ?F
  case F =>
    intro w mg fa h KX G hmg
    refine' Mi.lw_mk KX G hmg ?a0 ?l0 ?c0 ?k0 ?a1 ?l1 ?c1 ?k1 ?a2 ?l2 ?c2 ?k2 ?a3 ?l3 ?c3 ?k3 ?a4 ?l4 ?c4 ?k4 ?a5 ?l5 ?c5 ?k5 ?a6 ?l6 ?c6 ?k6 ?a7 ?l7 ?c7 ?k7 ?a8 ?l8 ?c8 ?k8 ?a9 ?l9 ?c9 ?k9 ?a10 ?l10 ?c10 ?k10 ?a11 ?l11 ?c11 ?k11 ?a12 ?l12 ?c12 ?k12 ?a13 ?l13 ?c13 ?k13 ?a14 ?l14 ?c14 ?k14 ?a15 ?l15 ?c15 ?k15 ?a16 ?l16 ?c16 ?k16 ?zn_all ?zn_bool ?zn_divmod ?zn_enumerate ?zn_int ?zn_isinstance ?zn_len ?zn_list ?zn_max ?zn_min ?zn_range ?zn_repr ?zn_reversed ?zn_sum ?zn_tuple ?zn_zip ?zc_MOST_DAYS ?zc_MOST_GROUPS ?zc_MOST_THINGS ?rA ?rR ?rG ?rV ?rK ?rL ?rC ?rN ?rF ?xA_NoList ?xL_NoList ?xS_NoList ?xI_NoList ?xT_NoList ?xE_NoList ?xY_NoList ?xK_NoList ?xX_NoList ?xG_NoList ?xH_NoList ?xF_NoList ?xC_NoList ?xJ_NoList ?xN_NoList_found ?xA_NoNumber ?xL_NoNumber ?xS_NoNumber ?xI_NoNumber ?xT_NoNumber ?xE_NoNumber ?xY_NoNumber ?xK_NoNumber ?xX_NoNumber ?xG_NoNumber ?xH_NoNumber ?xF_NoNumber ?xC_NoNumber ?xJ_NoNumber ?xN_NoNumber_found ?xA_Unlike ?xL_Unlike ?xS_Unlike ?xI_Unlike ?xT_Unlike ?xE_Unlike ?xY_Unlike ?xK_Unlike ?xX_Unlike ?xG_Unlike ?xH_Unlike ?xF_Unlike ?xC_Unlike ?xJ_Unlike ?xN_Unlike_found ?xA_Outside ?xL_Outside ?xS_Outside ?xI_Outside ?xT_Outside ?xE_Outside ?xY_Outside ?xK_Outside ?xX_Outside ?xG_Outside ?xH_Outside ?xF_Outside ?xC_Outside ?xJ_Outside ?xN_Outside_found Mi.law_ok
    (case a0 => k_is); (case l0 => k_is); (case c0 => k_is); (case k0 => k_is)
    (case a1 => k_is); (case l1 => k_is); (case c1 => k_is); (case k1 => k_is)
    (case a2 => k_is); (case l2 => k_is); (case c2 => k_is); (case k2 => k_is)
    (case a3 => k_is); (case l3 => k_is); (case c3 => k_is); (case k3 => k_is)
    (case a4 => k_is); (case l4 => k_is); (case c4 => k_is); (case k4 => k_is)
    (case a5 => k_is); (case l5 => k_is); (case c5 => k_is); (case k5 => k_is)
    (case a6 => k_is); (case l6 => k_is); (case c6 => k_is); (case k6 => k_is)
    (case a7 => k_is); (case l7 => k_is); (case c7 => k_is); (case k7 => k_is)
    (case a8 => k_is); (case l8 => k_is); (case c8 => k_is); (case k8 => k_is)
    (case a9 => k_is); (case l9 => k_is); (case c9 => k_is); (case k9 => k_is)
    (case a10 => k_is); (case l10 => k_is); (case c10 => k_is); (case k10 => k_is)
    (case a11 => k_is); (case l11 => k_is); (case c11 => k_is); (case k11 => k_is)
    (case a12 => k_is); (case l12 => k_is); (case c12 => k_is); (case k12 => k_is)
    (case a13 => k_is); (case l13 => k_is); (case c13 => k_is); (case k13 => k_is)
    (case a14 => k_is); (case l14 => k_is); (case c14 => k_is); (case k14 => k_is)
    (case a15 => k_is); (case l15 => k_is); (case c15 => k_is); (case k15 => k_is)
    (case a16 => k_is); (case l16 => k_is); (case c16 => k_is); (case k16 => k_is)
    (case zn_all => k_is); (case zn_bool => k_is); (case zn_divmod => k_is); (case zn_enumerate => k_is)
    (case zn_int => k_is); (case zn_isinstance => k_is); (case zn_len => k_is); (case zn_list => k_is)
    (case zn_max => k_is); (case zn_min => k_is); (case zn_range => k_is); (case zn_repr => k_is)
    (case zn_reversed => k_is); (case zn_sum => k_is); (case zn_tuple => k_is); (case zn_zip => k_is)
    (case zc_MOST_DAYS => k_is); (case zc_MOST_GROUPS => k_is); (case zc_MOST_THINGS => k_is); (case rA => k_is)
    (case rR => k_is); (case rG => k_is); (case rV => k_is); (case rK => k_is)
    (case rL => k_is); (case rC => k_is); (case rN => k_is); (case rF => k_is)
    (case xA_NoList => k_is); (case xL_NoList => k_is); (case xS_NoList => k_is); (case xI_NoList => k_is)
    (case xT_NoList => k_is); (case xE_NoList => k_is); (case xY_NoList => k_is); (case xK_NoList => k_is)
    (case xX_NoList => k_is); (case xG_NoList => k_is); (case xH_NoList => k_is); (case xF_NoList => k_is)
    (case xC_NoList => k_is); (case xJ_NoList => k_is); (case xN_NoList_found => k_is); (case xA_NoNumber => k_is)
    (case xL_NoNumber => k_is); (case xS_NoNumber => k_is); (case xI_NoNumber => k_is); (case xT_NoNumber => k_is)
    (case xE_NoNumber => k_is); (case xY_NoNumber => k_is); (case xK_NoNumber => k_is); (case xX_NoNumber => k_is)
    (case xG_NoNumber => k_is); (case xH_NoNumber => k_is); (case xF_NoNumber => k_is); (case xC_NoNumber => k_is)
    (case xJ_NoNumber => k_is); (case xN_NoNumber_found => k_is); (case xA_Unlike => k_is); (case xL_Unlike => k_is)
    (case xS_Unlike => k_is); (case xI_Unlike => k_is); (case xT_Unlike => k_is); (case xE_Unlike => k_is)
    (case xY_Unlike => k_is); (case xK_Unlike => k_is); (case xX_Unlike => k_is); (case xG_Unlike => k_is)
    (case xH_Unlike => k_is); (case xF_Unlike => k_is); (case xC_Unlike => k_is); (case xJ_Unlike => k_is)
    (case xN_Unlike_found => k_is); (case xA_Outside => k_is); (case xL_Outside => k_is); (case xS_Outside => k_is)
    (case xI_Outside => k_is); (case xT_Outside => k_is); (case xE_Outside => k_is); (case xY_Outside => k_is)
    (case xK_Outside => k_is); (case xX_Outside => k_is); (case xG_Outside => k_is); (case xH_Outside => k_is)
    (case xF_Outside => k_is); (case xC_Outside => k_is); (case xJ_Outside => k_is); (case xN_Outside_found => k_is)
#print axioms PySem.Challenge.cw_shelvesmoved_k49_whole_no_cart_less_holds

