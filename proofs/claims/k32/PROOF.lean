import PyProof.Rows.All
import Wide.All
import OpenK.AllK
import Wide.FinOn
import HandS.ForMost
import HandS.Flow
import HandS.IsInst
import HandS.TupAny
import HandS.TupLe
import HandS.Style
import HandS.WordsExc
import HandS.More
import HandS.TupMul
import HandS.TryOnly
import HandS.Codes
import HandS.Defaults
import KE.DataMinMax
import KE.DataCmp
import HandS.Deep
import PyProof.StrOps2
import HandS.Zip
import HandS.TryMany
import HandS.ExcField
import HandS.ExcInit
import HandS.ClsMeth
import HandS.Sort
import PySem.Challenge.RW_shelvesmoved_k32_whole_no_cutting_does_b
set_option Elab.async false
set_option linter.all false
set_option maxRecDepth 100000
set_option maxHeartbeats 4000000

/-! # Mi1: a small language of values, heaps, expressions, statements, and what they do (plain functions) -/
namespace Mi
open PySem (Str PyData)
abbrev Key := Sum Int Str
abbrev SL : Nat := 16777216

inductive Val where
  | non | bl (b : Bool) | int (i : Int) | str (x : Str) | ref (n : Nat) | ty (s : String) | glo (x : Nat) | scr
  deriving DecidableEq, Repr
inductive Ob where
  | lst (xs : List Val) | tup (xs : List Val) | dic (kvs : List (Key × Val)) | ins (c : Nat) (fs : List (Str × Val))
  deriving DecidableEq, Repr
abbrev Heap := List Ob
inductive Res (α : Type) where
  | ok (a : α) (h : Heap) | exc (c : Nat) (fs : List (Str × Val)) (h : Heap) | bad
  deriving Repr
def Res.bind {α β : Type} (r : Res α) (f : α → Heap → Res β) : Res β :=
  match r with
  | .ok a h => f a h
  | .exc c fs h => .exc c fs h
  | .bad => .bad
@[simp] theorem Res.bind_ok {α β : Type} (a : α) (h : Heap) (f : α → Heap → Res β) : (Res.ok a h).bind f = f a h := rfl
@[simp] theorem Res.bind_bad {α β : Type} (f : α → Heap → Res β) : (Res.bad : Res α).bind f = .bad := rfl
@[simp] theorem Res.bind_exc {α β : Type} (c : Nat) (fs : List (Str × Val)) (h : Heap) (f : α → Heap → Res β) : (Res.exc c fs h : Res α).bind f = .exc c fs h := rfl
abbrev Sl := List (Option Val)

/-! ## data as trees -/
def mapO {α β : Type} (f : α → Option β) : List α → Option (List β)
  | [] => some []
  | x :: xs => match f x, mapO f xs with
    | some y, some ys => some (y :: ys)
    | _, _ => none
def keyD : Key → PyData
  | .inl i => .int i
  | .inr x => .str x
/-- the data that a value is, as deep as n -/
def rd : Nat → Heap → Val → Option PyData
  | _, _, .non => some .none
  | _, _, .bl b => some (.bool b)
  | _, _, .int i => some (.int i)
  | _, _, .str x => some (.str x)
  | n + 1, h, .ref k => match h[k]? with
    | some (.lst xs) => (mapO (rd n h) xs).map .list
    | some (.tup xs) => (mapO (rd n h) xs).map .tuple
    | some (.dic kvs) => (mapO (fun p : Key × Val => (rd n h p.2).map fun d => (keyD p.1, d)) kvs).map .dict
    | _ => none
  | _, _, _ => none

/-! ## truth, operators -/
def tru (h : Heap) : Val → Option Bool
  | .non => some false
  | .bl b => some b
  | .int i => some (i != 0)
  | .str x => if x.length ≤ SL then some ((x.length : Int) != 0) else none
  | .ref n => match h[n]? with
    | some (.lst xs) => some (!xs.isEmpty)
    | some (.tup xs) => some (!xs.isEmpty)
    | some (.dic kvs) => some (!kvs.isEmpty)
    | _ => none
  | _ => none
inductive Op where
  | add | sub | mul | fdiv | mod | pow | eq | ne | lt | le | gt | ge | is | isnot | in_ | notin
  deriving DecidableEq, Repr
def new (o : Ob) (h : Heap) : Res Val := .ok (.ref h.length) (h ++ [o])
def addV (x y : Val) (h : Heap) : Res Val :=
  match x, y with
  | .int i, .int j => .ok (.int (i + j)) h
  | .str a, .str b => if a.length + b.length ≤ SL then .ok (.str (a ++ b)) h else .bad
  | .ref m, .ref n => match h[m]?, h[n]? with
    | some (.lst xs), some (.lst ys) => if xs.length + ys.length ≤ SL then new (.lst (xs ++ ys)) h else .bad
    | some (.tup xs), some (.tup ys) => if xs.length + ys.length ≤ SL then (if xs = [] then .ok y h else if ys = [] then .ok x h else new (.tup (xs ++ ys)) h) else .bad
    | _, _ => .bad
  | _, _ => .bad
def subV (x y : Val) (h : Heap) : Res Val :=
  match x, y with
  | .int i, .int j => .ok (.int (i - j)) h
  | _, _ => .bad
/-- a text k times over -/
def repS (x : Str) (k : Int) : Str := ⟨(List.replicate k.toNat x.cps.toList).flatten.toArray⟩
def mulV (x y : Val) (h : Heap) : Res Val :=
  match x, y with
  | .int i, .int j => if (-(2 ^ 64) < i ∧ i < 2 ^ 64) ∨ (-(2 ^ 64) < j ∧ j < 2 ^ 64) then .ok (.int (i * j)) h else .bad
  | .ref m, .int k => match h[m]? with
    | some (.lst xs) => if -(2 ^ 63) ≤ k ∧ k < 2 ^ 63 ∧ xs.length * k.toNat ≤ SL then new (.lst (List.replicate k.toNat xs).flatten) h else .bad
    | some (.tup xs) => if xs ≠ [] ∧ 2 ≤ k ∧ k ≤ 1000 ∧ xs.length ≤ 1000 then new (.tup (List.replicate k.toNat xs).flatten) h else .bad
    | _ => .bad
  | .str a, .int k => if -(2 ^ 63) ≤ k ∧ k < 2 ^ 63 ∧ a.length * k.toNat ≤ SL then .ok (.str (repS a k)) h else .bad
  | _, _ => .bad
def fdivV (x y : Val) (h : Heap) : Res Val :=
  match x, y with
  | .int i, .int j => if 0 < j ∧ j < 1073741824 then .ok (.int (i / j)) h else .bad
  | _, _ => .bad
def modV (x y : Val) (h : Heap) : Res Val :=
  match x, y with
  | .int i, .int j => if 0 < j then .ok (.int (i % j)) h else .bad
  | _, _ => .bad
def powV (x y : Val) (h : Heap) : Res Val :=
  match x, y with
  | .int i, .int j => if 0 ≤ j ∧ j ≤ 1000000 ∧ i.natAbs < 2 ^ 64 then .ok (.int (i ^ j.toNat)) h else .bad
  | _, _ => .bad
def eqO (h : Heap) (x y : Val) : Option Bool :=
  match x, y with
  | .int i, .int j => some (decide (i = j))
  | .str a, .str b => some (decide (a = b))
  | .bl a, .bl b => some (decide (a = b))
  | _, _ => match rd 60 h x, rd 60 h y with
    | some d, some e => if PySem.SeqAt.shaped d = true ∧ PySem.SeqAt.shaped e = true then some (PyData.eqv d e) else none
    | _, _ => none
def ofB (o : Option Bool) (h : Heap) : Res Val :=
  match o with
  | some b => .ok (.bl b) h
  | none => .bad
def ltA (x y : Val) : Option Bool :=
  match x, y with
  | .int i, .int j => some (decide (i < j))
  | .str a, .str b => some (decide (a.cps.toList < b.cps.toList))
  | _, _ => none
def isSqD : PyData → Bool
  | .list _ => true
  | .tuple _ => true
  | _ => false
def ltO (h : Heap) (x y : Val) : Option Bool :=
  match x, y with
  | .ref m, .ref n => (match rd 60 h (.ref m), rd 60 h (.ref n) with
    | some d, some e => if PySem.SeqAt.shaped d = true ∧ PySem.SeqAt.shaped e = true ∧ PySem.W.alike d e = true ∧ isSqD d = true ∧ d.depth ≤ 60 then some (PySem.W.dataLt d e) else none
    | _, _ => none)
  | x, y => ltA x y
def leO (x y : Val) : Option Bool :=
  match x, y with
  | .int i, .int j => some (decide (i ≤ j))
  | .str a, .str b => some (!decide (b.cps.toList < a.cps.toList))
  | _, _ => none
def isO (x y : Val) : Option Bool :=
  match y with
  | .non => some (decide (x = .non))
  | .bl b => (match x with
    | .bl a => some (decide (a = b))
    | .scr => none
    | .ref _ => some false
    | .int _ => some false
    | .str _ => some false
    | .non => some false
    | _ => none)
  | _ => none
def flat : Val → Bool
  | .non => true | .bl _ => true | .int _ => true | .str _ => true
  | _ => false
def eqF : Val → Val → Bool
  | .non, .non => true
  | .bl a, .bl b => a == b
  | .bl a, .int b => (if a then 1 else 0) == b
  | .int a, .bl b => a == (if b then 1 else 0)
  | .int a, .int b => a == b
  | .str a, .str b => a == b
  | _, _ => false
def keyV : Val → Option Key
  | .int i => some (.inl i)
  | .str x => some (.inr x)
  | _ => none
def getK (kvs : List (Key × Val)) (k : Key) : Option Val := (kvs.find? fun kv => decide (kv.1 = k)).map (·.2)
def inO (h : Heap) (x y : Val) : Option Bool :=
  match y with
  | .str z => (match x with
    | .str w => (match w.cps.toList with
      | [c] => some (decide (c ∈ z.cps.toList))
      | _ => none)
    | _ => none)
  | .ref n => match h[n]? with
    | some (.lst xs) => if flat x = true ∧ xs.all flat = true then some (xs.any fun y => eqF y x) else none
    | some (.tup xs) => if flat x = true ∧ xs.all flat = true then some (xs.any fun y => eqF y x) else none
    | some (.dic kvs) => (match keyV x with
      | some k => some (getK kvs k).isSome
      | none => none)
    | _ => none
  | _ => none
def inD (h : Heap) (x y : Val) : Option Bool :=
  match rd 60 h x, rd 60 h y with
  | some d, some (.list ds) => if PySem.SeqAt.shaped d = true ∧ PySem.SeqAt.shaped (.list ds) = true then some (ds.any fun z => PyData.eqv z d) else none
  | _, _ => none
def inX (h : Heap) (x y : Val) : Option Bool :=
  match inO h x y with
  | some b => some b
  | none => inD h x y
def bop (o : Op) (x y : Val) (h : Heap) : Res Val :=
  match o with
  | .add => addV x y h
  | .sub => subV x y h
  | .mul => mulV x y h
  | .fdiv => fdivV x y h
  | .mod => modV x y h
  | .pow => powV x y h
  | .eq => ofB (eqO h x y) h
  | .ne => ofB ((eqO h x y).map (!·)) h
  | .lt => ofB (ltO h x y) h
  | .le => ofB (leO x y) h
  | .gt => ofB (ltA y x) h
  | .ge => ofB (leO y x) h
  | .is => ofB (isO x y) h
  | .isnot => ofB ((isO x y).map (!·)) h
  | .in_ => ofB (inX h x y) h
  | .notin => ofB ((inX h x y).map (!·)) h

/-- in place: ints, texts -/
def aop (o : Op) (x y : Val) (h : Heap) : Res Val :=
  match o, x, y with
  | .add, .int i, .int j => .ok (.int (i + j)) h
  | .sub, .int i, .int j => .ok (.int (i - j)) h
  | .add, .str a, .str b => if a.length + b.length ≤ SL then .ok (.str (a ++ b)) h else .bad
  | _, _, _ => .bad

/-! ## the surroundings: what a call gives, the module's constants, the script -/
structure G where
  call : Nat → List Val → Heap → Res Val
  glob : Nat → Option Val
  scr : List Int
  /-- the fields of the exception that is handled -/
  ex : Option (List (Str × Val))

/-! ## items, slices -/
def idxV (g : G) (x y : Val) (h : Heap) : Res Val :=
  match x, y with
  | .scr, .int i => (match L2.atI g.scr i with
    | some n => .ok (.int n) h
    | none => .bad)
  | .str z, .int i => if z.length ≤ SL then (match L2.atI z.cps.toList i with
    | some c => .ok (.str ⟨#[c]⟩) h
    | none => .bad) else .bad
  | .ref n, y => match h[n]? with
    | some (.lst xs) => (match y with
      | .int i => (match L2.atI xs i with
        | some v => .ok v h
        | none => .bad)
      | _ => .bad)
    | some (.tup xs) => (match y with
      | .int i => (match L2.atI xs i with
        | some v => .ok v h
        | none => .bad)
      | _ => .bad)
    | some (.dic kvs) => (match keyV y with
      | some k => (match getK kvs k with
        | some v => .ok v h
        | none => .bad)
      | none => .bad)
    | _ => .bad
  | _, _ => .bad
def slcV (x : Val) (lo hi : Option Int) (h : Heap) : Res Val :=
  match x with
  | .str z => if z.length ≤ SL then .ok (.str (L2.cutS z lo hi)) h else .bad
  | .ref n => match h[n]? with
    | some (.lst xs) => new (.lst ((xs.drop (HT.sIx xs.length 0 lo)).take (HT.sIx xs.length xs.length hi - HT.sIx xs.length 0 lo))) h
    | some (.tup xs) => if HT.sIx xs.length 0 lo = 0 ∧ HT.sIx xs.length xs.length hi = xs.length then .ok x h
      else new (.tup ((xs.drop (HT.sIx xs.length 0 lo)).take (HT.sIx xs.length xs.length hi - HT.sIx xs.length 0 lo))) h
    | _ => .bad
  | _ => .bad

/-! ## built-in functions -/
def intsO : List Val → Option (List Int)
  | [] => some []
  | .int i :: r => (intsO r).map (i :: ·)
  | _ => none
def blsO : List Val → Option (List Bool)
  | [] => some []
  | .bl i :: r => (blsO r).map (i :: ·)
  | _ => none
def strsO : List Val → Option (List Str)
  | [] => some []
  | .str i :: r => (strsO r).map (i :: ·)
  | _ => none
def maxL (ns : List Int) : Int := ns.foldl max (ns.headD 0)
def minL (ns : List Int) : Int := ns.foldl min (ns.headD 0)
/-- the items of a list or a tuple -/
def seqO (h : Heap) : Val → Option (List Val)
  | .ref n => match h[n]? with
    | some (.lst xs) => some xs
    | some (.tup xs) => some xs
    | _ => none
  | _ => none
def lstO (h : Heap) : Val → Option (List Val)
  | .ref n => match h[n]? with
    | some (.lst xs) => some xs
    | _ => none
  | _ => none
/-- isinstance against a built-in type -/
def tyO (h : Heap) : Val → Option String
  | .non => some "NoneType"
  | .bl _ => some "bool"
  | .int _ => some "int"
  | .str _ => some "str"
  | .ref n => match h[n]? with
    | some (.lst _) => some "list"
    | some (.tup _) => some "tuple"
    | some (.dic _) => some "dict"
    | _ => none
  | _ => none
def isTy (a b : String) : Bool := a == b || (a == "bool" && b == "int")
def okTy (b : String) : Bool := b == "int" || b == "bool" || b == "str" || b == "list" || b == "tuple" || b == "dict"
def tysO : List Val → Option (List String)
  | [] => some []
  | .ty i :: r => if okTy i then (tysO r).map (i :: ·) else none
  | _ => none
inductive Pr where
  | len | max | min | sum | all | any | int | str | bool | list | tuple | isinst | repr
  deriving DecidableEq, Repr
def lenV (g : G) (h : Heap) : Val → Option Nat
  | .scr => some g.scr.length
  | .str z => if z.length ≤ SL then some z.length else none
  | .ref n => match h[n]? with
    | some (.lst xs) => some xs.length
    | some (.tup xs) => some xs.length
    | some (.dic kvs) => some kvs.length
    | _ => none
  | _ => none
def maxV (f : Int → Int → Int) (fl : List Int → Int) (h : Heap) (vs : List Val) : Res Val :=
  match vs with
  | [.int i, .int j] => .ok (.int (f i j)) h
  | [x] => (match (seqO h x).bind intsO with
    | some ns => if 0 < ns.length then .ok (.int (fl ns)) h else .bad
    | none => .bad)
  | _ => .bad
def pri (g : G) (p : Pr) (vs : List Val) (h : Heap) : Res Val :=
  match p with
  | .len => (match vs with
    | [x] => (match lenV g h x with
      | some n => .ok (.int n) h
      | none => .bad)
    | _ => .bad)
  | .max => maxV (fun i j => if j > i then j else i) maxL h vs
  | .min => maxV (fun i j => if j < i then j else i) minL h vs
  | .sum => (match vs with
    | [x] => (match (seqO h x).bind intsO with
      | some ns => .ok (.int ns.sum) h
      | none => .bad)
    | _ => .bad)
  | .all => (match vs with
    | [x] => (match (lstO h x).bind blsO with
      | some ns => .ok (.bl (ns.all id)) h
      | none => .bad)
    | _ => .bad)
  | .any => (match vs with
    | [x] => (match (lstO h x).bind blsO with
      | some ns => .ok (.bl (ns.any id)) h
      | none => .bad)
    | _ => .bad)
  | .int => (match vs with
    | [.int i] => .ok (.int i) h
    | [.bl b] => .ok (.int (if b then 1 else 0)) h
    | [.str x] => (match PySem.intText? x with
      | some n => if x.length ≤ 640 then .ok (.int n) h else .bad
      | none => .bad)
    | _ => .bad)
  | .str => (match vs with
    | [.int i] => if i.natAbs.log2 < 1920 then .ok (.str (Str.ofString (toString i))) h else .bad
    | [.str x] => .ok (.str x) h
    | _ => .bad)
  | .bool => (match vs with
    | [.int i] => .ok (.bl (i != 0)) h
    | [.bl b] => .ok (.bl b) h
    | _ => .bad)
  | .list => (match vs with
    | [x] => (match seqO h x with
      | some xs => new (.lst xs) h
      | none => .bad)
    | _ => .bad)
  | .tuple => (match vs with
    | [x] => (match x with
      | .ref n => (match h[n]? with
        | some (.lst xs) => new (.tup xs) h
        | some (.tup _) => .ok x h
        | _ => .bad)
      | _ => .bad)
    | _ => .bad)
  | .isinst => (match vs with
    | [x, .ty t] => (match tyO h x with
      | some s => if okTy t then .ok (.bl (isTy s t)) h else .bad
      | none => .bad)
    | [x, .ref n] => (match tyO h x, h[n]? with
      | some s, some (.tup ts) => (match tysO ts with
        | some us => .ok (.bl (us.any (isTy s))) h
        | none => .bad)
      | _, _ => .bad)
    | _ => .bad)
  | .repr => (match vs with
    | [x] => (match rd 60 h x with
      | some d => if d.showable = true ∧ d.depth ≤ 60 ∧ d.shown.length ≤ SL then .ok (.str d.shown) h else .bad
      | none => .bad)
    | _ => .bad)

/-- xs[::-1] -/
def revV (x : Val) (h : Heap) : Res Val :=
  match lstO h x with
  | some xs => new (.lst xs.reverse) h
  | none => .bad
/-- the two things of a pair -/
def twoV (v : Val) (h : Heap) : Res (Val × Val) :=
  match v with
  | .ref n => (match h[n]? with
    | some (.tup [x, y]) => .ok (x, y) h
    | _ => .bad)
  | _ => .bad

/-! ## methods of built-in types -/
def putK (kvs : List (Key × Val)) (k : Key) (v : Val) : List (Key × Val) :=
  if (kvs.any fun kv => decide (kv.1 = k)) = true then kvs.map (fun kv => if kv.1 = k then (kv.1, v) else kv) else kvs ++ [(k, v)]
inductive Me where
  | append | join | split | insert | pop | clear | extend | sindex
  deriving DecidableEq, Repr
def met (m : Me) (x : Val) (vs : List Val) (h : Heap) : Res Val :=
  match m with
  | .append => (match x, vs with
    | .ref n, [y] => (match h[n]? with
      | some (.lst xs) => if xs.length < SL then .ok .non (h.set n (.lst (xs ++ [y]))) else .bad
      | _ => .bad)
    | _, _ => .bad)
  | .join => (match x, vs with
    | .str a, [y] => (match (seqO h y).bind strsO with
      | some ys => if (ys.map (·.length)).sum + ys.length * a.length ≤ SL then .ok (.str (PySem.Txt.join a ys)) h else .bad
      | none => .bad)
    | _, _ => .bad)
  | .split => (match x, vs with
    | .str a, [.str b] => if (b.length == 0) = false ∧ a.length + 2 ≤ SL then new (.lst ((PySem.Txt.split a b).map .str)) h else .bad
    | _, _ => .bad)
  | .insert => (match x, vs with
    | .ref n, [.int i, y] => (match h[n]? with
      | some (.lst xs) => if xs.length < SL ∧ 0 ≤ i ∧ i < 2 ^ 63 then .ok .non (h.set n (.lst (xs.take i.toNat ++ [y] ++ xs.drop i.toNat))) else .bad
      | _ => .bad)
    | _, _ => .bad)
  | .pop => (match x, vs with
    | .ref n, [] => (match h[n]? with
      | some (.lst xs) => (match xs[xs.length - 1]? with
        | some y => .ok y (h.set n (.lst xs.dropLast))
        | none => .bad)
      | _ => .bad)
    | .ref n, [.int i] => (match h[n]? with
      | some (.lst xs) => (match L2.ixN xs.length i with
        | some k => (match xs[k]? with
          | some y => .ok y (h.set n (.lst (xs.eraseIdx k)))
          | none => .bad)
        | none => .bad)
      | _ => .bad)
    | _, _ => .bad)
  | .clear => (match x, vs with
    | .ref n, [] => (match h[n]? with
      | some (.lst _) => .ok .non (h.set n (.lst []))
      | _ => .bad)
    | _, _ => .bad)
  | .extend => (match x, vs with
    | .ref n, [.ref m] => (match h[n]?, h[m]? with
      | some (.lst xs), some (.lst ys) => if xs.length + ys.length ≤ SL then .ok .non (h.set n (.lst (xs ++ ys))) else .bad
      | _, _ => .bad)
    | _, _ => .bad)
  | .sindex => (match x, vs with
    | .str a, [.str b] => (match PySem.Builtin.Str.occurrences a b 0 a.length 1 with
      | i :: _ => .ok (.int (i : Nat)) h
      | [] => .bad)
    | _, _ => .bad)
/-- what a receiver must be -/
def rcv (m : Me) (x : Val) (h : Heap) : Bool :=
  match m with
  | .append => (lstO h x).isSome
  | .insert => (lstO h x).isSome
  | .pop => (lstO h x).isSome
  | .clear => (lstO h x).isSome
  | .extend => (lstO h x).isSome
  | .join => match x with | .str _ => true | _ => false
  | .split => match x with | .str _ => true | _ => false
  | .sindex => match x with | .str _ => true | _ => false
/-- o[i] = v -/
def setV (o i v : Val) (h : Heap) : Res Unit :=
  match o with
  | .ref n => match h[n]? with
    | some (.lst xs) => (match i with
      | .int k => (match L2.ixN xs.length k with
        | some j => .ok () (h.set n (.lst (xs.set j v)))
        | none => .bad)
      | _ => .bad)
    | some (.dic kvs) => (match keyV i with
      | some k => if kvs.length < SL then .ok () (h.set n (.dic (putK kvs k v))) else .bad
      | none => .bad)
    | _ => .bad
  | _ => .bad

/-! ## expressions -/
/-- where a value goes: a slot, a tuple of slots -/
inductive Tg where
  | nm (i : Nat) | tp (is : List Nat)
  deriving DecidableEq, Repr
def setAll : List Nat → List Val → Sl → Option Sl
  | [], [], σ => some σ
  | i :: is, v :: vs, σ => setAll is vs (σ.set i (some v))
  | _, _, _ => none
def tgV (t : Tg) (v : Val) (σ : Sl) (h : Heap) : Option Sl :=
  match t with
  | .nm i => some (σ.set i (some v))
  | .tp is => match v with
    | .ref n => (match h[n]? with
      | some (.tup vs) => setAll is vs σ
      | some (.lst vs) => setAll is vs σ
      | _ => none)
    | _ => none
/-- what a loop walks: at each turn an item, perhaps a pair that is made there; the things walked must stand -/
inductive It where
  | v (x : Val) | pr (x y : Val)
  deriving DecidableEq, Repr
structure Walk where
  items : List It
  stands : List (Nat × Ob)
def Walk.ok (w : Walk) (h : Heap) : Bool := w.stands.all fun p => decide (h[p.1]? = some p.2)
def yieldI (i : It) (h : Heap) : Val × Heap :=
  match i with
  | .v x => (x, h)
  | .pr x y => (.ref h.length, h ++ [.tup [x, y]])
def walkV (x : Val) (h : Heap) : Option Walk :=
  match x with
  | .str z => some ⟨z.cps.toList.map fun c => .v (.str ⟨#[c]⟩), []⟩
  | .ref n => match h[n]? with
    | some (.lst xs) => some ⟨xs.map .v, [(n, .lst xs)]⟩
    | some (.tup xs) => some ⟨xs.map .v, [(n, .tup xs)]⟩
    | _ => none
  | _ => none
def intItems (lo : Int) : Nat → List It
  | 0 => []
  | n + 1 => .v (.int lo) :: intItems (lo + 1) n
def pairI : List Val → List Val → List It
  | x :: xs, y :: ys => .pr x y :: pairI xs ys
  | _, _ => []
def enumI : Nat → List Val → List It
  | n, x :: xs => .pr (.int n) x :: enumI (n + 1) xs
  | _, [] => []
/-- a list or a tuple with its items -/
def obO (h : Heap) (n : Nat) : Option (Ob × List Val) :=
  match h[n]? with
  | some (.lst xs) => some (.lst xs, xs)
  | some (.tup xs) => some (.tup xs, xs)
  | _ => none
inductive Src where
  | val | rng1 | rng2 | enum | zip
  deriving DecidableEq, Repr
def srcV (s : Src) (vs : List Val) (h : Heap) : Option Walk :=
  match s with
  | .val => (match vs with
    | [x] => walkV x h
    | _ => none)
  | .rng1 => (match vs with
    | [.int j] => if -(2 ^ 62) ≤ j ∧ j < 2 ^ 62 then some ⟨intItems 0 j.toNat, []⟩ else none
    | _ => none)
  | .rng2 => (match vs with
    | [.int i, .int j] => if -(2 ^ 62) ≤ i ∧ i < 2 ^ 62 ∧ -(2 ^ 62) ≤ j ∧ j < 2 ^ 62 then some ⟨intItems i (j - i).toNat, []⟩ else none
    | _ => none)
  | .enum => (match vs with
    | [.ref n] => (match h[n]? with
      | some (.lst xs) => some ⟨enumI 0 xs, [(n, .lst xs)]⟩
      | _ => none)
    | _ => none)
  | .zip => (match vs with
    | [.ref n, .ref m] => (match obO h n, obO h m with
      | some (o, xs), some (o', ys) => some ⟨pairI xs ys, [(n, o), (m, o')]⟩
      | _, _ => none)
    | _ => none)
def srcR (s : Src) (vs : List Val) (h : Heap) : Res Walk :=
  match srcV s vs h with
  | some w => .ok w h
  | none => .bad
def wipe (σ : Sl) : List Nat → Sl
  | [] => σ
  | v :: vs => (wipe σ vs).set v none
/-- a comprehension's loop: what is gathered -/
def lcF (w : Walk) (t : Tg) (c : Sl → Heap → Res Bool) (e : Sl → Heap → Res Val) (σ : Sl) : List It → List Val → Heap → Res (List Val)
  | [], acc, h => if w.ok h then .ok acc h else .bad
  | i :: is, acc, h => if w.ok h then
      match tgV t (yieldI i h).1 σ (yieldI i h).2 with
      | none => .bad
      | some σ' => match c σ' (yieldI i h).2 with
        | .ok true h1 => (match e σ' h1 with
          | .ok v h2 => if acc.length < SL then lcF w t c e σ is (acc ++ [v]) h2 else .bad
          | _ => .bad)
        | .ok false h1 => lcF w t c e σ is acc h1
        | _ => .bad
    else .bad
mutual
inductive Ex where
  | var (i : Nat)
  | cst (v : Val)
  | glb (x : Nat)
  | bin (o : Op) (a b : Ex)
  | neg (a : Ex)
  | not (a : Ex)
  | and (a b : Ex)
  | or (a b : Ex)
  | chn (o p : Op) (a b c : Ex)
  | ite (c a b : Ex)
  | lst (es : Exs)
  | tup (es : Exs)
  | dnew
  | dic (es : Exs)
  | idx (a i : Ex)
  | slc (a : Ex) (lo hi : Exo)
  | rev (a : Ex)
  | efl (i : Nat) (f : Str)
  | inr (neg : Bool) (a : Ex) (es : Exs)
  | cal (f : Nat) (es : Exs)
  | pri (p : Pr) (es : Exs)
  | met (m : Me) (o : Ex) (es : Exs)
  | lc (e : Ex) (t : Tg) (s : Src) (es : Exs) (own : List Nat) (c : Exo)
inductive Exs where
  | nil | cons (e : Ex) (es : Exs)
inductive Exo where
  | none | some (e : Ex)
end
/-- x in range(..) -/
def inrV (neg : Bool) (x : Val) (vs : List Val) (h : Heap) : Res Val :=
  match x with
  | .int i => (match vs with
    | [.int j] => .ok (.bl (xor neg (decide (0 ≤ i ∧ i < j)))) h
    | [.int l, .int j] => .ok (.bl (xor neg (decide (l ≤ i ∧ i < j)))) h
    | _ => .bad)
  | _ => .bad
/-- keys and values, one by one -/
def kvsO : List Val → Option (List (Key × Val))
  | [] => some []
  | k :: v :: r => match keyV k, kvsO r with
    | some k, some r => some ((k, v) :: r)
    | _, _ => none
  | _ => none
def truB (v : Val) (h : Heap) : Res Bool :=
  match tru h v with
  | some b => .ok b h
  | none => .bad
def intO : Val → Heap → Res (Option Int)
  | .int i, h => .ok (some i) h
  | _, _ => .bad
mutual
def den (g : G) : Ex → Sl → Heap → Res Val
  | .var i, σ, h => match σ[i]? with
    | some (some v) => .ok v h
    | _ => .bad
  | .cst v, _, h => .ok v h
  | .glb x, _, h => match g.glob x with
    | some v => .ok v h
    | none => .bad
  | .bin o a b, σ, h => (den g a σ h).bind fun x h => (den g b σ h).bind fun y h => bop o x y h
  | .neg a, σ, h => (den g a σ h).bind fun x h => match x with
    | .int i => .ok (.int (-i)) h
    | _ => .bad
  | .not a, σ, h => (den g a σ h).bind fun x h => (truB x h).bind fun b h => .ok (.bl (!b)) h
  | .and a b, σ, h => (den g a σ h).bind fun x h => (truB x h).bind fun t h => if t then den g b σ h else .ok x h
  | .or a b, σ, h => (den g a σ h).bind fun x h => (truB x h).bind fun t h => if t then .ok x h else den g b σ h
  | .chn o p a b c, σ, h => (den g a σ h).bind fun x h => (den g b σ h).bind fun y h => (bop o x y h).bind fun k h =>
    match k with
    | .bl true => (den g c σ h).bind fun z h => bop p y z h
    | .bl false => .ok (.bl false) h
    | _ => .bad
  | .ite c a b, σ, h => (den g c σ h).bind fun x h => (truB x h).bind fun t h => if t then den g a σ h else den g b σ h
  | .lst es, σ, h => (dens g es σ h).bind fun vs h => if vs.length ≤ SL then new (.lst vs) h else .bad
  | .tup es, σ, h => (dens g es σ h).bind fun vs h => if vs.length ≤ SL then new (.tup vs) h else .bad
  | .dnew, _, h => new (.dic []) h
  | .dic es, σ, h => (dens g es σ h).bind fun vs h => match kvsO vs with
    | some kvs => if kvs.length ≤ 15 then new (.dic (kvs.foldl (fun acc kv => putK acc kv.1 kv.2) [])) h else .bad
    | none => .bad
  | .idx a i, σ, h => (den g a σ h).bind fun x h => (den g i σ h).bind fun y h => idxV g x y h
  | .slc a lo hi, σ, h => (den g a σ h).bind fun x h => (deno g lo σ h).bind fun l h => (deno g hi σ h).bind fun u h => slcV x l u h
  | .rev a, σ, h => (den g a σ h).bind fun x h => revV x h
  | .efl i f, σ, h => match σ[i]? with
    | some none => (match g.ex with
      | some fs => (match fs.lookup f with
        | some v => .ok v h
        | none => .bad)
      | none => .bad)
    | _ => .bad
  | .inr neg a es, σ, h => (den g a σ h).bind fun x h => (dens g es σ h).bind fun vs h => inrV neg x vs h
  | .cal f es, σ, h => (dens g es σ h).bind fun vs h => g.call f vs h
  | .pri p es, σ, h => (dens g es σ h).bind fun vs h => Mi.pri g p vs h
  | .met m o es, σ, h => (den g o σ h).bind fun x h => if rcv m x h then (dens g es σ h).bind fun vs h => Mi.met m x vs h else .bad
  | .lc e t s es own c, σ, h => ((dens g es σ h).bind fun vs h => srcR s vs h).bind fun w h => (lcF w t (denc g c) (den g e) (wipe σ own) w.items [] h).bind fun vs h => new (.lst vs) h
def dens (g : G) : Exs → Sl → Heap → Res (List Val)
  | .nil, _, h => .ok [] h
  | .cons e es, σ, h => (den g e σ h).bind fun v h => (dens g es σ h).bind fun vs h => .ok (v :: vs) h
def deno (g : G) : Exo → Sl → Heap → Res (Option Int)
  | .none, _, h => .ok none h
  | .some e, σ, h => (den g e σ h).bind intO
def denc (g : G) : Exo → Sl → Heap → Res Bool
  | .none, _, h => .ok true h
  | .some e, σ, h => (den g e σ h).bind truB
end
/-- as a test -/
def denT (g : G) (e : Ex) (σ : Sl) (h : Heap) : Res Bool := (den g e σ h).bind truB

/-! ## statements -/
/-- how a statement ends: on, with a value, with an exception (its class, its fields, the slots then) -/
inductive Fl where
  | nx (σ : Sl) | rt (v : Val) | ex (c : Nat) (fs : List (Str × Val)) (σ : Sl)
/-- an expression's end within a statement -/
def Res.sb {α : Type} (σ : Sl) (r : Res α) (f : α → Heap → Res Fl) : Res Fl :=
  match r with
  | .ok a h => f a h
  | .exc c fs h => .ok (.ex c fs σ) h
  | .bad => .bad
@[simp] theorem Res.sb_ok {α : Type} (σ : Sl) (a : α) (h : Heap) (f : α → Heap → Res Fl) : (Res.ok a h).sb σ f = f a h := rfl
@[simp] theorem Res.sb_bad {α : Type} (σ : Sl) (f : α → Heap → Res Fl) : (Res.bad : Res α).sb σ f = .bad := rfl
@[simp] theorem Res.sb_exc {α : Type} (σ : Sl) (c : Nat) (fs : List (Str × Val)) (h : Heap) (f : α → Heap → Res Fl) : (Res.exc c fs h : Res α).sb σ f = .ok (.ex c fs σ) h := rfl
/-- go on where it goes on -/
def Fl.go (f : Fl) (h : Heap) (k : Sl → Heap → Res Fl) : Res Fl :=
  match f with
  | .nx σ => k σ h
  | .rt v => .ok (.rt v) h
  | .ex c fs σ => .ok (.ex c fs σ) h
@[simp] theorem Fl.go_nx (σ : Sl) (h : Heap) (k : Sl → Heap → Res Fl) : (Fl.nx σ).go h k = k σ h := rfl
@[simp] theorem Fl.go_rt (v : Val) (h : Heap) (k : Sl → Heap → Res Fl) : (Fl.rt v).go h k = .ok (.rt v) h := rfl
@[simp] theorem Fl.go_ex (c : Nat) (fs : List (Str × Val)) (σ : Sl) (h : Heap) (k : Sl → Heap → Res Fl) : (Fl.ex c fs σ).go h k = .ok (.ex c fs σ) h := rfl
mutual
inductive St where
  | pass
  | exp (e : Ex)
  | ret (e : Ex)
  | asg (t : Tg) (e : Ex)
  | par (is : List Nat) (es : Exs)
  | sti (o i e : Ex)
  | sw2 (o i p j e : Ex)
  | aug (o : Op) (i : Nat) (e : Ex)
  | ite (c : Ex) (a b : Sts)
  | whl (c : Ex) (b : Sts)
  | frr (t : Tg) (s : Src) (es : Exs) (b : Sts)
  | nvr
  | rse (c : Nat) (fs : List Str) (es : Exs)
  | tri (b : Sts) (hs : Hds)
inductive Sts where
  | nil | cons (s : St) (ss : Sts)
/-- except clauses: the classes that they take, the slot of the name, the suite -/
inductive Hds where
  | nil | cons (ids : List Nat) (sl : Option Nat) (b : Sts) (r : Hds)
end
/-- the name of a clause goes -/
def goneS : Option Nat → Sl → Sl
  | none, σ => σ
  | some i, σ => σ.set i none
/-- a suite's end -/
def unx (sl : Option Nat) (f : Fl) (h : Heap) : Res Fl :=
  match f with
  | .nx σ => .ok (.nx (goneS sl σ)) h
  | .rt v => .ok (.rt v) h
  | .ex _ _ _ => .bad
def loopF (w : Walk) (t : Tg) (b : Sl → Heap → Res Fl) : List It → Sl → Heap → Res Fl
  | [], σ, h => if w.ok h then .ok (.nx σ) h else .bad
  | i :: is, σ, h => if w.ok h then
      match tgV t (yieldI i h).1 σ (yieldI i h).2 with
      | none => .bad
      | some σ' => (b σ' (yieldI i h).2).bind fun f h => f.go h (loopF w t b is)
    else .bad
def loopW (c : Sl → Heap → Res Bool) (b : Sl → Heap → Res Fl) : Nat → Sl → Heap → Res Fl
  | 0, _, _ => .bad
  | n + 1, σ, h => (c σ h).sb σ fun t h => if t then (b σ h).bind fun f h => f.go h (loopW c b n) else .ok (.nx σ) h
def turns : Nat := 1000000
def setT (t : Tg) (v : Val) (σ : Sl) (h : Heap) : Res Fl :=
  match tgV t v σ h with
  | some σ' => .ok (.nx σ') h
  | none => .bad
def setP (is : List Nat) (vs : List Val) (σ : Sl) (h : Heap) : Res Fl :=
  match setAll is vs σ with
  | some σ' => .ok (.nx σ') h
  | none => .bad
mutual
def exe (g : G) : St → Sl → Heap → Res Fl
  | .pass, σ, h => .ok (.nx σ) h
  | .exp e, σ, h => (den g e σ h).sb σ fun _ h => .ok (.nx σ) h
  | .ret e, σ, h => (den g e σ h).sb σ fun v h => .ok (.rt v) h
  | .asg t e, σ, h => (den g e σ h).sb σ fun v h => setT t v σ h
  | .par is es, σ, h => (dens g es σ h).sb σ fun vs h => setP is vs σ h
  | .sti o i e, σ, h => (den g e σ h).sb σ fun v h => (den g o σ h).sb σ fun x h => (den g i σ h).sb σ fun y h => (setV x y v h).sb σ fun _ h => .ok (.nx σ) h
  | .sw2 o i p j e, σ, h => (den g e σ h).sb σ fun v h => (twoV v h).sb σ fun xy h => (den g o σ h).sb σ fun x h => (den g i σ h).sb σ fun y h => (setV x y xy.1 h).sb σ fun _ h =>
    (den g p σ h).sb σ fun x h => (den g j σ h).sb σ fun y h => (setV x y xy.2 h).sb σ fun _ h => .ok (.nx σ) h
  | .aug o i e, σ, h => (den g (.var i) σ h).sb σ fun x h => (den g e σ h).sb σ fun y h => (aop o x y h).sb σ fun v h => .ok (.nx (σ.set i (some v))) h
  | .ite c a b, σ, h => (denT g c σ h).sb σ fun t h => if t then exes g a σ h else exes g b σ h
  | .whl c b, σ, h => loopW (denT g c) (exes g b) turns σ h
  | .frr t s es b, σ, h => ((dens g es σ h).bind fun vs h => srcR s vs h).sb σ fun w h => loopF w t (exes g b) w.items σ h
  | .nvr, _, _ => .bad
  | .rse c fs es, σ, h => (dens g es σ h).sb σ fun vs h => if vs.length = fs.length then .ok (.ex c (fs.zip vs).reverse σ) h else .bad
  | .tri b hs, σ, h => (exes g b σ h).bind fun f h => match f with
    | .ex c fs σ' => hands g hs c fs σ' h
    | .nx σ' => .ok (.nx σ') h
    | .rt v => .ok (.rt v) h
def exes (g : G) : Sts → Sl → Heap → Res Fl
  | .nil, σ, h => .ok (.nx σ) h
  | .cons s ss, σ, h => (exe g s σ h).bind fun f h => f.go h (exes g ss)
/-- the clauses, one by one -/
def hands (g : G) : Hds → Nat → List (Str × Val) → Sl → Heap → Res Fl
  | .nil, c, fs, σ, h => .ok (.ex c fs σ) h
  | .cons ids sl b r, c, fs, σ, h => if c ∈ ids then (exes { g with ex := some fs } b (goneS sl σ) h).bind fun f h => unx sl f h else hands g r c fs σ h
end

/-! ## defs and calls -/
structure Def where
  params : Nat
  slots : Nat
  dflt : List Val
  body : Sts
def startV (d : Def) (vs : List Val) : Sl := vs.map some ++ List.replicate (d.slots - vs.length) none
def Fl.out (f : Fl) (h : Heap) : Res Val :=
  match f with
  | .nx _ => .ok .non h
  | .rt v => .ok v h
  | .ex c fs _ => .exc c fs h
def Res.fin (r : Res Fl) : Res Val :=
  match r with
  | .ok f h => f.out h
  | .exc _ _ _ => .bad
  | .bad => .bad
@[simp] theorem Res.fin_ok (f : Fl) (h : Heap) : (Res.ok f h).fin = f.out h := rfl
@[simp] theorem Res.fin_bad : (Res.bad : Res Fl).fin = .bad := rfl
@[simp] theorem Fl.out_rt (v : Val) (h : Heap) : (Fl.rt v).out h = .ok v h := rfl
@[simp] theorem Fl.out_nx (σ : Sl) (h : Heap) : (Fl.nx σ).out h = .ok .non h := rfl
@[simp] theorem Fl.out_ex (c : Nat) (fs : List (Str × Val)) (σ : Sl) (h : Heap) : (Fl.ex c fs σ).out h = .exc c fs h := rfl
def runDef (g : G) (d : Def) (vs : List Val) (h : Heap) : Res Val :=
  if vs.length = d.params then (exes g d.body (startV d vs) h).fin else .bad
/-- calls at most n deep -/
def calls (D : Nat → Option Def) (gl : Nat → Option Val) (scr : List Int) : Nat → Nat → List Val → Heap → Res Val
  | 0, _, _, _ => .bad
  | n + 1, f, vs, h => match D f with
    | some d => runDef ⟨calls D gl scr n, gl, scr, none⟩ d (vs ++ d.dflt.drop (d.dflt.length + vs.length - d.params)) h
    | none => .bad
end Mi


/-! # Mi2: what the small language says, and the abstract heap of the hand layer -/
namespace Mi
open PySem PySem.Spec PyProof.Rows L2

/-- what stands fast: the written part, where the classes and defs stand, the script -/
structure Th where
  K : PySem.W.Frag
  ga : Nat → Option Addr
  sa : Addr
  S : List Int
  /-- the exception that is handled: the slot of its name, where it stands, its dict, its fields -/
  ex : Option (Nat × Addr × Addr × List (Str × Val)) := none

theorem pr_get {α β : Type} {F : α → β → Prop} : ∀ {xs : List α} {ys : List β} {i : Nat} {x : α}, Paired F xs ys → xs[i]? = some x → ∃ y, ys[i]? = some y ∧ F x y
  | _, _, _, _, .nil, e => by simp at e
  | _, _, 0, _, .cons r _, e => by simp at e; subst e; exact ⟨_, rfl, r⟩
  | _, _, i + 1, x, .cons _ t, e => by
    obtain ⟨u, h1, h2⟩ := pr_get (i := i) (x := x) t (by simpa using e)
    exact ⟨u, by simpa using h1, h2⟩
theorem pr_set {α β : Type} {F : α → β → Prop} {x : α} {u : β} (r : F x u) : ∀ {xs : List α} {us : List β} (i : Nat), Paired F xs us → Paired F (xs.set i x) (us.set i u)
  | _, _, _, .nil => .nil
  | _, _, 0, .cons _ t => .cons r t
  | _, _, i + 1, .cons q t => .cons q (pr_set r i t)
theorem pr_append {α β : Type} {F : α → β → Prop} : ∀ {xs ys : List α} {us ws : List β}, Paired F xs us → Paired F ys ws → Paired F (xs ++ ys) (us ++ ws)
  | _, _, _, _, .nil, s => s
  | _, _, _, _, .cons r t, s => .cons r (pr_append t s)
theorem pr_take {α β : Type} {F : α → β → Prop} : ∀ {xs : List α} {us : List β} (n : Nat), Paired F xs us → Paired F (xs.take n) (us.take n)
  | _, _, 0, _ => .nil
  | _, _, _ + 1, .nil => .nil
  | _, _, n + 1, .cons r t => .cons r (pr_take n t)
theorem pr_drop {α β : Type} {F : α → β → Prop} : ∀ {xs : List α} {us : List β} (n : Nat), Paired F xs us → Paired F (xs.drop n) (us.drop n)
  | _, _, 0, r => r
  | _, _, _ + 1, .nil => .nil
  | _, _, n + 1, .cons _ t => pr_drop n t
theorem pr_mono {α β : Type} {F F' : α → β → Prop} (h : ∀ a b, F a b → F' a b) : ∀ {xs : List α} {us : List β}, Paired F xs us → Paired F' xs us
  | _, _, .nil => .nil
  | _, _, .cons r t => .cons (h _ _ r) (pr_mono h t)
theorem pr_rep {α β : Type} {F : α → β → Prop} {xs : List α} {us : List β} (r : Paired F xs us) : ∀ n : Nat, Paired F (List.replicate n xs).flatten (List.replicate n us).flatten
  | 0 => .nil
  | n + 1 => by
    rw [List.replicate_succ, List.replicate_succ, List.flatten_cons, List.flatten_cons]
    exact pr_append r (pr_rep r n)
theorem pr_erase {α β : Type} {F : α → β → Prop} : ∀ {xs : List α} {us : List β} (n : Nat), Paired F xs us → Paired F (xs.eraseIdx n) (us.eraseIdx n)
  | _, _, _, .nil => .nil
  | _, _, 0, .cons _ t => t
  | _, _, n + 1, .cons r t => .cons r (pr_erase n t)
theorem pr_dropLast {α β : Type} {F : α → β → Prop} {xs : List α} {us : List β} (r : Paired F xs us) : Paired F xs.dropLast us.dropLast := by
  rw [List.dropLast_eq_take, List.dropLast_eq_take, r.length]
  exact pr_take _ r
theorem pr_map {α β α' β' : Type} {F : α → β → Prop} {F' : α' → β' → Prop} {f : α → α'} {g : β → β'} (h : ∀ a b, F a b → F' (f a) (g b)) : ∀ {xs : List α} {us : List β}, Paired F xs us → Paired F' (xs.map f) (us.map g)
  | _, _, .nil => .nil
  | _, _, .cons r t => .cons (h _ _ r) (pr_map h t)

section
variable (t : Th)
def VR (ρ : List Addr) : Val → V → Prop
  | .non, y => y = .non
  | .bl b, y => y = .bl b
  | .int i, y => y = .int i
  | .str x, y => y = .str x
  | .ref n, y => ∃ a, ρ[n]? = some a ∧ y = .ref a
  | .ty s, y => y = .ty s
  | .glo x, y => ∃ a, t.ga x = some a ∧ y = .ref a
  | .scr, y => y = .ref t.sa
abbrev VRs (ρ : List Addr) : List Val → List V → Prop := Paired (VR t ρ)
abbrev KRs (ρ : List Addr) : List (Key × Val) → List (Key × V) → Prop := Paired fun p q => p.1 = q.1 ∧ VR t ρ p.2 q.2
abbrev FRs (ρ : List Addr) : List (Str × Val) → List (Str × V) → Prop := Paired fun p q => p.1 = q.1 ∧ VR t ρ p.2 q.2
def SO (ρ : List Addr) : Option Val → Option V → Prop
  | some v, some y => VR t ρ v y
  | none, _ => True
  | _, _ => False
structure SR (ρ : List Addr) (s : Sl) (σ : L2.St) : Prop where
  pr : Paired (SO t ρ) s σ
  px : ∀ i a d fs, t.ex = some (i, a, d, fs) → s[i]? = some none → σ[i]? = some (some (.ref a))
def OR (ρ : List Addr) (H : Hp) (a : Addr) : Ob → Prop
  | .lst xs => ∃ ys, H a = some (.lst ys) ∧ VRs t ρ xs ys
  | .tup xs => ∃ ys, H a = some (.tup ys) ∧ VRs t ρ xs ys
  | .dic xs => ∃ ys, H a = some (.dK ys) ∧ KRs t ρ xs ys
  | .ins c fs => ∃ C dx ys, t.ga c = some C ∧ H a = some (.ins C dx ys) ∧ FRs t ρ fs ys
def ScrOk (H : Hp) : Prop := (∃ o, H t.sa = some (.frz o (.lst (t.S.map V.int)))) ∨
  ∃ (o : Obj) (its : Array Value) (n : Nat), t.K.lookup t.sa = some o ∧ o.cls = .type "list" ∧ o.dict = none ∧ o.data = .seq its n ∧ its.size ≤ sizeLine ∧ Vals (t.S.map V.int) its.toList
/-- what is known of the exception that is handled -/
def XOk (ρ : List Addr) (H : Hp) : Prop := ∀ i a d fs, t.ex = some (i, a, d, fs) → ∃ ys, H d = some (.xd ys) ∧ FRs t ρ fs ys
structure HR (ρ : List Addr) (h : Heap) (H : Hp) : Prop where
  len : ρ.length = h.length
  nd : ρ.Nodup
  ob : ∀ (n : Nat) (o : Ob) (a : Addr), h[n]? = some o → ρ[n]? = some a → OR t ρ H a o
  sc : ScrOk t H
  xs : XOk t ρ H
end
structure Ext (ρ : List Addr) (H : Hp) (ρ' : List Addr) (H' : Hp) : Prop where
  pre : ∃ τ, ρ' = ρ ++ τ
  keep : ∀ a o, a ∉ ρ → H a = some o → H' a = some o
  nu : ∀ a, a ∈ ρ' → a ∉ ρ → H a = none

section
variable {t : Th} {ρ ρ' ρ1 ρ2 τ : List Addr} {h h' : Heap} {H H' H1 H2 : Hp} {v : Val} {y : V} {a : Addr} {n : Nat}
theorem ScrOk.sq (x : ScrOk t H) : SqL t.K H t.sa (t.S.map V.int) := by
  rcases x with ⟨o, h⟩ | h
  · exact .inl (.inr ⟨o, h⟩)
  · exact .inr h
theorem Ext.refl (ρ : List Addr) (H : Hp) : Ext ρ H ρ H := ⟨⟨[], by simp⟩, fun _ _ _ h => h, fun a h1 h2 => absurd h1 h2⟩
theorem Ext.sub (e : Ext ρ H ρ' H') (ha : a ∈ ρ) : a ∈ ρ' := by
  obtain ⟨τ, rfl⟩ := e.pre
  exact List.mem_append_left _ ha
theorem Ext.trans (e : Ext ρ H ρ1 H1) (f : Ext ρ1 H1 ρ2 H2) : Ext ρ H ρ2 H2 := by
  refine ⟨?_, fun a o ha ho => ?_, fun a h1 h2 => ?_⟩
  · obtain ⟨τ, rfl⟩ := e.pre
    obtain ⟨τ', rfl⟩ := f.pre
    exact ⟨τ ++ τ', by rw [List.append_assoc]⟩
  · refine f.keep a o (fun hm => ?_) (e.keep a o ha ho)
    have := e.nu a hm ha
    rw [ho] at this; cases this
  · by_cases hm : a ∈ ρ1
    · exact e.nu a hm h2
    · have z := f.nu a h1 hm
      cases q : H a with
      | none => rfl
      | some o =>
        have := e.keep a o h2 q
        rw [z] at this; cases this
theorem VR.app : VR t ρ v y → VR t (ρ ++ τ) v y := by
  cases v <;> intro r <;> try exact r
  obtain ⟨b, e, r⟩ := r
  exact ⟨b, by rw [List.getElem?_append_left (List.getElem?_eq_some_iff.mp e).1]; exact e, r⟩
theorem VR.ext (e : Ext ρ H ρ' H') (r : VR t ρ v y) : VR t ρ' v y := by
  obtain ⟨τ, rfl⟩ := e.pre
  exact r.app
theorem VRs.ext (e : Ext ρ H ρ' H') {xs : List Val} {ys : List V} (r : VRs t ρ xs ys) : VRs t ρ' xs ys := pr_mono (fun _ _ q => VR.ext e q) r
theorem SO.app : ∀ {o : Option Val} {p : Option V}, SO t ρ o p → SO t (ρ ++ τ) o p
  | some _, some _, r => VR.app (show VR t ρ _ _ from r)
  | none, _, _ => trivial
  | some _, none, r => r.elim
theorem SR.ext (e : Ext ρ H ρ' H') {s : Sl} {σ : L2.St} (r : SR t ρ s σ) : SR t ρ' s σ := by
  obtain ⟨τ, rfl⟩ := e.pre
  exact ⟨pr_mono (fun _ _ q => SO.app q) r.pr, r.px⟩
/-- a slot is stored -/
theorem SR.put {s : Sl} {σ : L2.St} (i : Nat) (r : VR t ρ v y) (x : SR t ρ s σ) : SR t ρ (s.set i (some v)) (σ.set i (some y)) := by
  refine ⟨pr_set (x := some v) (u := some y) (show SO t ρ (some v) (some y) from r) i x.pr, fun j a d fs e1 e2 => ?_⟩
  by_cases h : i = j
  · subst h
    by_cases hl : i < s.length
    · rw [List.getElem?_set_self hl] at e2; cases e2
    · rw [List.getElem?_eq_none (by rw [List.length_set]; omega)] at e2; cases e2
  · rw [List.getElem?_set_ne h] at e2 ⊢
    exact x.px j a d fs e1 e2
theorem OR.app {o : Ob} (r : OR t ρ H a o) : OR t (ρ ++ τ) H a o := by
  cases o with
  | lst xs => obtain ⟨ys, e, q⟩ := r; exact ⟨ys, e, pr_mono (fun _ _ z => z.app) q⟩
  | tup xs => obtain ⟨ys, e, q⟩ := r; exact ⟨ys, e, pr_mono (fun _ _ z => z.app) q⟩
  | dic xs => obtain ⟨ys, e, q⟩ := r; exact ⟨ys, e, pr_mono (fun _ _ z => ⟨z.1, z.2.app⟩) q⟩
  | ins c fs => obtain ⟨C, dx, ys, e1, e, q⟩ := r; exact ⟨C, dx, ys, e1, e, pr_mono (fun _ _ z => ⟨z.1, z.2.app⟩) q⟩
theorem OR.at {o : Ob} (e : H' a = H a) (r : OR t ρ H a o) : OR t ρ H' a o := by
  cases o with
  | lst xs => obtain ⟨ys, q⟩ := r; exact ⟨ys, by rw [e]; exact q⟩
  | tup xs => obtain ⟨ys, q⟩ := r; exact ⟨ys, by rw [e]; exact q⟩
  | dic xs => obtain ⟨ys, q⟩ := r; exact ⟨ys, by rw [e]; exact q⟩
  | ins c fs => obtain ⟨C, dx, ys, q⟩ := r; exact ⟨C, dx, ys, by rw [e]; exact q⟩
theorem OR.tr {o : Ob} (r : OR t ρ H a o) : ∃ u, H a = some u ∧ (∀ ob w, u ≠ .frz ob w) ∧ ∀ ys, u ≠ .xd ys := by
  cases o with
  | lst xs => obtain ⟨ys, q, _⟩ := r; exact ⟨_, q, fun _ _ => nofun, fun _ => nofun⟩
  | tup xs => obtain ⟨ys, q, _⟩ := r; exact ⟨_, q, fun _ _ => nofun, fun _ => nofun⟩
  | dic xs => obtain ⟨ys, q, _⟩ := r; exact ⟨_, q, fun _ _ => nofun, fun _ => nofun⟩
  | ins c fs => obtain ⟨C, dx, ys, _, q, _⟩ := r; exact ⟨_, q, fun _ _ => nofun, fun _ => nofun⟩
theorem HR.at (x : HR t ρ h H) {o : Ob} (e : h[n]? = some o) : ∃ a, ρ[n]? = some a ∧ OR t ρ H a o := by
  have hn : n < ρ.length := by rw [x.len]; exact (List.getElem?_eq_some_iff.mp e).1
  exact ⟨ρ[n], List.getElem?_eq_getElem hn, x.ob n o _ e (List.getElem?_eq_getElem hn)⟩
theorem HR.tr (x : HR t ρ h H) (ha : a ∈ ρ) : ∃ u, H a = some u ∧ (∀ ob w, u ≠ .frz ob w) ∧ ∀ ys, u ≠ .xd ys := by
  obtain ⟨n, hn, e⟩ := List.getElem_of_mem ha
  have hn' : n < h.length := by rw [← x.len]; exact hn
  exact (x.ob n _ a (List.getElem?_eq_getElem hn') (by rw [List.getElem?_eq_getElem hn, e])).tr
theorem HR.free (x : HR t ρ h H) (hp : H a = none) : a ∉ ρ := fun ha => by
  obtain ⟨u, e, _⟩ := x.tr ha
  rw [hp] at e; cases e
theorem HR.ref (x : HR t ρ h H) {o : Ob} (e : h[n]? = some o) (r : VR t ρ (.ref n) y) : ∃ a, y = .ref a ∧ ρ[n]? = some a ∧ OR t ρ H a o := by
  obtain ⟨a, e1, rfl⟩ := r
  exact ⟨a, rfl, e1, x.ob n o a e e1⟩
/-- a new object -/
theorem HR.new (x : HR t ρ h H) (hp : H a = none) {u : HO} {o : Ob} (k : OR t (ρ ++ [a]) (upd H a u) a o) : HR t (ρ ++ [a]) (h ++ [o]) (upd H a u) := by
  have hf := x.free hp
  refine ⟨by simp [x.len], ?_, fun n ob b e1 e2 => ?_, ?_, fun _ _ d fs ed => ?_⟩
  · rw [List.nodup_append]
    refine ⟨x.nd, by simp, fun b hb c hc e => ?_⟩
    have : c = a := by simpa using hc
    subst this; subst e
    exact hf hb
  · by_cases hn : n < h.length
    · rw [List.getElem?_append_left hn] at e1
      rw [List.getElem?_append_left (by rw [x.len]; exact hn)] at e2
      have q := x.ob n ob b e1 e2
      have hb : b ≠ a := fun z => hf (z ▸ List.mem_of_getElem? e2)
      exact (q.at (upd_ne hb)).app
    · have hn2 : n = h.length := by
        have := (List.getElem?_eq_some_iff.mp e1).1
        simp at this; omega
      subst hn2
      simp at e1
      rw [← x.len] at e2
      simp at e2
      subst e1; subst e2
      exact k
  · rcases x.sc with ⟨o, e⟩ | e
    · exact .inl ⟨o, by rw [upd_ne (ne_of_none e hp)]; exact e⟩
    · exact .inr e
  · obtain ⟨ys, e, q⟩ := x.xs _ _ d fs ed
    exact ⟨ys, by rw [upd_ne (ne_of_none e hp)]; exact e, pr_mono (fun _ _ z => ⟨z.1, z.2.app⟩) q⟩
theorem Ext.new (x : HR t ρ h H) (hp : H a = none) {u : HO} : Ext ρ H (ρ ++ [a]) (upd H a u) := by
  refine ⟨⟨_, rfl⟩, fun b o hb e => by rw [upd_ne (ne_of_none e hp)]; exact e, fun b h1 h2 => ?_⟩
  rcases List.mem_append.mp h1 with z | z
  · exact absurd z h2
  · have : b = a := by simpa using z
    rw [this]; exact hp
theorem VR.new (x : HR t ρ h H) : VR t (ρ ++ [a]) (.ref h.length) (.ref a) := ⟨a, by rw [← x.len]; simp, rfl⟩
/-- an object is written -/
theorem HR.write (x : HR t ρ h H) (e : ρ[n]? = some a) {u : HO} {o : Ob} (k : OR t ρ (upd H a u) a o) : HR t ρ (h.set n o) (upd H a u) := by
  refine ⟨by simp [x.len], x.nd, fun m ob b e1 e2 => ?_, ?_, fun _ _ d fs ed => ?_⟩
  · by_cases hm : m = n
    · subst hm
      rw [e] at e2; cases e2
      have hn : m < h.length := by rw [← x.len]; exact (List.getElem?_eq_some_iff.mp e).1
      rw [List.getElem?_set_self hn] at e1
      cases e1
      exact k
    · rw [List.getElem?_set_ne (fun z => hm z.symm)] at e1
      refine (x.ob m ob b e1 e2).at (upd_ne fun z => hm ?_)
      subst z
      obtain ⟨hm1, e1'⟩ := List.getElem?_eq_some_iff.mp e2
      obtain ⟨hm2, e2'⟩ := List.getElem?_eq_some_iff.mp e
      exact (List.getElem_inj x.nd).mp (e1'.trans e2'.symm)
  · rcases x.sc with ⟨o, es⟩ | es
    · refine .inl ⟨o, ?_⟩
      obtain ⟨w, ew, nf, _⟩ := x.tr (List.mem_of_getElem? e)
      rw [upd_ne]
      · exact es
      · intro z
        rw [← z, es] at ew; cases ew
        exact nf _ _ rfl
    · exact .inr es
  · obtain ⟨ys, e', q⟩ := x.xs _ _ d fs ed
    obtain ⟨w, ew, _, nx⟩ := x.tr (List.mem_of_getElem? e)
    exact ⟨ys, by rw [upd_ne fun z => by rw [← z, e'] at ew; cases ew; exact nx _ rfl]; exact e', q⟩
theorem Ext.write (e : ρ[n]? = some a) {u : HO} : Ext ρ H ρ (upd H a u) :=
  ⟨⟨[], by simp⟩, fun b o hb q => by rw [upd_ne fun z => hb (by rw [z]; exact List.mem_of_getElem? e)]; exact q, fun b h1 h2 => absurd h1 h2⟩
end

/-! ## what is wanted behind a result -/
section
variable {α β : Type} (t : Th)
/-- behind an expression: k of the value, the heaps; E of an exception -/
def Post (ρ : List Addr) (H : Hp) (r : Res α) (k : α → Heap → List Addr → Hp → Prop) (E : Value → Option Addr → Hp → Prop) : Prop :=
  match r with
  | .ok a h' => ∀ ρ' H', Ext ρ H ρ' H' → HR t ρ' h' H' → k a h' ρ' H'
  | .exc c fs h' => ∀ ρ' H' C d ys, Ext ρ H ρ' H' → HR t ρ' h' H' → t.ga c = some C → H' d = some (.xd ys) → FRs t ρ' fs ys → E (.ref C) (some d) H'
  | .bad => False
end
section
variable {α β : Type} {t : Th} {ρ ρ' : List Addr} {h : Heap} {H H' : Hp} {E : Value → Option Addr → Hp → Prop}
theorem Post.ext {r : Res α} {k : α → Heap → List Addr → Hp → Prop} (e : Ext ρ H ρ' H') (p : Post t ρ H r k E) : Post t ρ' H' r k E := by
  cases r with
  | ok a h => exact fun ρ2 H2 e2 => p ρ2 H2 (e.trans e2)
  | exc c fs h => exact fun ρ2 H2 C d ys e2 => p ρ2 H2 C d ys (e.trans e2)
  | bad => exact p
theorem Post.imp {r : Res α} {k k' : α → Heap → List Addr → Hp → Prop} (p : Post t ρ H r k E) (h : ∀ a h' ρ' H', Ext ρ H ρ' H' → HR t ρ' h' H' → k a h' ρ' H' → k' a h' ρ' H') : Post t ρ H r k' E := by
  cases r with
  | ok a h1 => exact fun ρ2 H2 e2 x => h _ _ _ _ e2 x (p ρ2 H2 e2 x)
  | exc c fs h => exact p
  | bad => exact p
theorem Post.impe {r : Res α} {k k' : α → Heap → List Addr → Hp → Prop} (p : Post t ρ H r k E) (h : ∀ a h' ρ' H', r = .ok a h' → Ext ρ H ρ' H' → HR t ρ' h' H' → k a h' ρ' H' → k' a h' ρ' H') : Post t ρ H r k' E := by
  cases r with
  | ok a h1 => exact fun ρ2 H2 e2 x => h _ _ _ _ rfl e2 x (p ρ2 H2 e2 x)
  | exc c fs h => exact p
  | bad => exact p
theorem Post.bind {r : Res α} {f : α → Heap → Res β} {k : β → Heap → List Addr → Hp → Prop} (p : Post t ρ H (r.bind f) k E) : Post t ρ H r (fun a h1 ρ1 H1 => Post t ρ1 H1 (f a h1) k E) E := by
  cases r with
  | ok a h1 => exact fun ρ2 H2 e2 x => Post.ext e2 p
  | exc c fs h => exact p
  | bad => exact p
theorem Post.ok {a : α} {k : α → Heap → List Addr → Hp → Prop} (x : HR t ρ h H) (p : Post t ρ H (.ok a h) k E) : k a h ρ H := p ρ H (Ext.refl ρ H) x
/-- where nothing is raised -/
def NoX (r : Res α) : Prop := ∀ c fs h, r ≠ .exc c fs h
theorem Post.nox {r : Res α} {k : α → Heap → List Addr → Hp → Prop} {E' : Value → Option Addr → Hp → Prop} (n : NoX r) (p : Post t ρ H r k E) : Post t ρ H r k E' := by
  cases r with
  | ok a h1 => exact p
  | exc c fs h => exact absurd rfl (n c fs h)
  | bad => exact p
end
end Mi


/-! # Mi3: the operators -/
namespace Mi
open PySem PySem.Spec PyProof.Rows L2

section
variable {t : Th} {ρ ρ' : List Addr} {h h' : Heap} {H H' : Hp} {E : Value → Option Addr → Hp → Prop}
abbrev E0' : Value → Option Addr → Hp → Prop := fun _ _ _ => False
theorem Post.new {o : Ob} {a : Addr} {u : HO} {k : Val → Heap → List Addr → Hp → Prop} (x : HR t ρ h H) (p : Post t ρ H (Mi.new o h) k E) (hp : H a = none) (r : OR t (ρ ++ [a]) (upd H a u) a o) :
    k (.ref h.length) (h ++ [o]) (ρ ++ [a]) (upd H a u) := p _ _ (Ext.new x hp) (x.new hp r)
theorem or_lst {a : Addr} {xs : List Val} {ys : List V} (r : VRs t ρ xs ys) : OR t (ρ ++ [a]) (upd H a (.lst ys)) a (.lst xs) := ⟨ys, upd_same, pr_mono (fun _ _ z => z.app) r⟩
theorem or_tup {a : Addr} {xs : List Val} {ys : List V} (r : VRs t ρ xs ys) : OR t (ρ ++ [a]) (upd H a (.tup ys)) a (.tup xs) := ⟨ys, upd_same, pr_mono (fun _ _ z => z.app) r⟩

/-- what is wanted of a value's relatives -/
abbrev KV1 (t : Th) (Q : VK) : Val → Heap → List Addr → Hp → Prop := fun v _ ρ' H' => ∀ z, VR t ρ' v z → Q z H'
def rOp (t : Th) (f : Val → Val → Heap → Res Val) : R2 := fun x y H Q => ∃ ρ h a b, HR t ρ h H ∧ VR t ρ a x ∧ VR t ρ b y ∧ Post t ρ H (f a b h) (KV1 t Q) E0'

/-- the data that a value is, over the abstract heap -/
theorem mapO_cons {α β : Type} {f : α → Option β} {x : α} {xs : List α} {ys : List β} (e : mapO f (x :: xs) = some ys) : ∃ z zs, f x = some z ∧ mapO f xs = some zs ∧ ys = z :: zs := by
  unfold mapO at e
  cases h1 : f x with
  | none => rw [h1] at e; cases e
  | some z =>
    cases h2 : mapO f xs with
    | none => rw [h1, h2] at e; cases e
    | some zs => rw [h1, h2] at e; cases e; exact ⟨z, zs, rfl, rfl, rfl⟩
theorem dp_all {f : Val → Option PyData} : ∀ {xs : List Val} {ys : List V} {ds : List PyData}, (∀ v y d, f v = some d → d.canLay0 = true → VR t ρ v y → Dp t.K H y d) → mapO f xs = some ds → PyData.canLayAll0 ds = true → VRs t ρ xs ys → DpAll t.K H ys ds
  | [], _, _, _, e, _, .nil => by cases e; exact .nil
  | x :: xs, _, _, hf, e, c, .cons r rs => by
    obtain ⟨z, zs, e1, e2, rfl⟩ := mapO_cons e
    have c' : z.canLay0 = true ∧ PyData.canLayAll0 zs = true := by simpa [PyData.canLayAll0] using c
    exact .cons (hf _ _ _ e1 c'.1 r) (dp_all hf e2 c'.2 rs)
theorem rd_dp (x : HR t ρ h H) : ∀ (n : Nat) (v : Val) (y : V) (d : PyData), rd n h v = some d → d.canLay0 = true → VR t ρ v y → Dp t.K H y d
  | n, .non, y, d, e, _, r => by cases n <;> (cases e; cases r; exact .non)
  | n, .bl b, y, d, e, _, r => by cases n <;> (cases e; cases r; exact .bl _)
  | n, .int i, y, d, e, _, r => by cases n <;> (cases e; cases r; exact .int _)
  | n, .str z, y, d, e, _, r => by cases n <;> (cases e; cases r; exact .str _)
  | 0, .ref k, y, d, e, _, r => by cases e
  | n + 1, .ref k, y, d, e, c, r => by
    unfold rd at e
    split at e
    · rename_i xs hk
      obtain ⟨ds, e1, rfl⟩ := Option.map_eq_some_iff.mp e
      obtain ⟨a, rfl, _, ys, hy, rr⟩ := x.ref hk r
      exact .lst (.of hy) (dp_all (fun v y d => rd_dp x n v y d) e1 (by simpa [PyData.canLay0] using c) rr)
    · rename_i xs hk
      obtain ⟨ds, e1, rfl⟩ := Option.map_eq_some_iff.mp e
      obtain ⟨a, rfl, _, ys, hy, rr⟩ := x.ref hk r
      exact .tup (.of hy) (dp_all (fun v y d => rd_dp x n v y d) e1 (by simpa [PyData.canLay0] using c) rr)
    · rename_i xs hk
      obtain ⟨ds, e1, rfl⟩ := Option.map_eq_some_iff.mp e
      simp [PyData.canLay0] at c
    · cases e
  | n, .ty s, y, d, e, _, r => by cases n <;> cases e
  | n, .glo s, y, d, e, _, r => by cases n <;> cases e
  | n, .scr, y, d, e, _, r => by cases n <;> cases e
theorem vr_flat {v : Val} {y : V} (r : VR t ρ v y) (f : flat v = true) : flatV y = true := by
  cases v <;> simp [flat] at f <;> (cases r; rfl)
theorem vr_eqF {v w : Val} {y z : V} (r : VR t ρ v y) (q : VR t ρ w z) (f : flat v = true) (g : flat w = true) : eqV y z = eqF v w := by
  cases v <;> simp [flat] at f <;> cases w <;> simp [flat] at g <;> (cases r; cases q; rfl)
theorem vrs_flat : ∀ {xs : List Val} {ys : List V}, VRs t ρ xs ys → xs.all flat = true → ys.all flatV = true
  | _, _, .nil, _ => rfl
  | _, _, .cons r rs, f => by
    simp only [List.all_cons, Bool.and_eq_true] at f ⊢
    exact ⟨vr_flat r f.1, vrs_flat rs f.2⟩
theorem vrs_in {v : Val} {y : V} (r : VR t ρ v y) (f : flat v = true) : ∀ {xs : List Val} {ys : List V}, VRs t ρ xs ys → xs.all flat = true → inV y ys = xs.any fun z => eqF z v
  | _, _, .nil, _ => rfl
  | _, _, .cons q qs, g => by
    simp only [List.all_cons, Bool.and_eq_true] at g
    have ih := vrs_in r f qs g.2
    unfold inV at ih ⊢
    simp only [List.any_cons]
    rw [ih, vr_eqF q r g.1 f]
theorem kr_get {k : Key} : ∀ {xs : List (Key × Val)} {ys : List (Key × V)}, KRs t ρ xs ys → (∀ v, getK xs k = some v → ∃ y, valV ys k = some y ∧ VR t ρ v y) ∧ (getK xs k = none → valV ys k = none)
  | _, _, .nil => ⟨fun v e => by simp [getK] at e, fun _ => rfl⟩
  | (a, v) :: xs, (b, y) :: ys, .cons ⟨e, r⟩ qs => by
    have e : a = b := e
    subst e
    have r : VR t ρ v y := r
    have ih := kr_get (k := k) qs
    by_cases hk : a = k
    · subst hk
      refine ⟨fun w e => ?_, fun e => ?_⟩
      · simp [getK] at e
        subst e
        exact ⟨y, valV_pos rfl, r⟩
      · simp [getK] at e
    · have e1 : getK ((a, v) :: xs) k = getK xs k := by simp [getK, List.find?_cons, hk]
      have e2 : valV ((a, y) :: ys) k = valV ys k := valV_neg hk
      rw [e1, e2]
      exact ih
theorem key_vr {v : Val} {y : V} {k : Key} (e : keyV v = some k) (r : VR t ρ v y) : y = kV k := by
  cases v <;> simp [keyV] at e <;> (subst e; cases r; rfl)
end

/-! ## one rule an operator -/
section
variable {t : Th} {X : Cx}
theorem op1 (hK : t.K = X.K) : OpR X (binaryOp .Add) (rOp t (bop .add)) := by
  intro pins s σ H x y u v Q I rx ry ⟨ρ, h, a, b, hr, va, vb, p⟩
  unfold bop addV at p
  dsimp only at p
  split at p
  · cases va; cases vb
    exact op_add pins s σ H _ _ u v Q I rx ry ⟨_, _, rfl, rfl, p.ok hr _ rfl⟩
  · split at p
    · cases va; cases vb
      exact op_add_str pins s σ H _ _ u v Q I rx ry ⟨_, _, rfl, rfl, by assumption, p.ok hr _ rfl⟩
    · exact p.elim
  · split at p
    · rename_i m n _ _ xs ys e1 e2
      split at p
      · rename_i hz
        obtain ⟨l, rfl, l1, zs, hl, r1⟩ := hr.ref e1 va
        obtain ⟨k, rfl, k1, ws, hk, r2⟩ := hr.ref e2 vb
        refine op_cat pins s σ H _ _ u v Q I rx ry ⟨l, k, zs, ws, rfl, rfl, hl, hk, by rw [← Paired.length r1, ← Paired.length r2]; exact hz, fun q hq => ?_⟩
        exact Post.new hr p hq (or_lst (pr_append r1 r2)) _ (VR.new hr)
      · exact p.elim
    · rename_i m n _ _ xs ys e1 e2
      split at p
      · rename_i hz
        obtain ⟨l, rfl, l1, zs, hl, r1⟩ := hr.ref e1 va
        obtain ⟨k, rfl, k1, ws, hk, r2⟩ := hr.ref e2 vb
        have n1 := Paired.length r1
        have n2 := Paired.length r2
        refine op_catA pins s σ H _ _ u v Q I rx ry ⟨l, k, zs, ws, rfl, rfl, hK ▸ .of hl, hK ▸ .of hk, by rw [← n1, ← n2]; exact hz, fun z => ?_, fun z z2 => ?_, fun z z2 q hq => ?_⟩
        · have : xs = [] := by subst z; exact List.length_eq_zero_iff.mp n1
          rw [if_pos this] at p
          exact p.ok hr _ vb
        · have h1 : xs ≠ [] := fun w => z (by subst w; exact List.length_eq_zero_iff.mp n1.symm)
          have h2 : ys = [] := by subst z2; exact List.length_eq_zero_iff.mp n2
          rw [if_neg h1, if_pos h2] at p
          exact p.ok hr _ va
        · have h1 : xs ≠ [] := fun w => z (by subst w; exact List.length_eq_zero_iff.mp n1.symm)
          have h2 : ys ≠ [] := fun w => z2 (by subst w; exact List.length_eq_zero_iff.mp n2.symm)
          rw [if_neg h1, if_neg h2] at p
          exact Post.new hr p hq (or_tup (pr_append r1 r2)) _ (VR.new hr)
      · exact p.elim
    · exact p.elim
  · exact p.elim
theorem op2 : OpR X (binaryOp .Sub) (rOp t (bop .sub)) := by
  intro pins s σ H x y u v Q I rx ry ⟨ρ, h, a, b, hr, va, vb, p⟩
  unfold bop subV at p
  dsimp only at p
  split at p
  · cases va; cases vb
    exact op_sub pins s σ H _ _ u v Q I rx ry ⟨_, _, rfl, rfl, p.ok hr _ rfl⟩
  · exact p.elim
theorem rep_flat : ∀ (n : Nat) (a : List Nat) (acc : Array Nat), ((List.replicate n a.toArray).foldl (· ++ ·) acc) = acc ++ (List.replicate n a).flatten.toArray
  | 0, a, acc => by simp
  | n + 1, a, acc => by
    rw [List.replicate_succ, List.foldl_cons, rep_flat n a, List.replicate_succ, List.flatten_cons]
    simp [Array.append_assoc]
theorem repS_made {x : Str} {k : Int} {t' : Tok} {Q : Value → Shared → Prop} {s : Shared} (hl : x.length * k.toNat ≤ SL) (q : ∀ t' tk, Q (.str (repS x k) t') { s with toks := tk }) :
    (if k < 1 then Made.str Str.empty else if (k == 1 || x.length == 0) = true then Made.val (.str x t') else Made.str ⟨(List.replicate k.toNat x.cps).foldl (· ++ ·) #[]⟩).post Q s := by
  by_cases h1 : k < 1
  · rw [if_pos h1]
    have e : repS x k = Str.empty := by
      unfold repS
      rw [show k.toNat = 0 by omega]
      rfl
    refine ⟨by decide, ?_⟩
    have := q s.toks (s.toks + 1)
    rw [e] at this
    exact this
  · rw [if_neg h1]
    by_cases h2 : (k == 1 || x.length == 0) = true
    · rw [if_pos h2]
      have e : repS x k = x := by
        unfold repS
        rw [Bool.or_eq_true] at h2
        rcases h2 with h2 | h2
        · rw [eq_of_beq h2]
          show (⟨(List.replicate 1 x.cps.toList).flatten.toArray⟩ : Str) = x
          simp
        · have h3 : x.cps.toList = [] := by
            have := eq_of_beq h2
            exact List.eq_nil_of_length_eq_zero (by simpa [Str.length] using this)
          rw [h3]
          have : x = ⟨#[]⟩ := by
            cases x with
            | mk c => simp at h3; rw [h3]
          rw [this]
          simp
      have := q t' s.toks
      rw [e] at this
      exact this
    · rw [if_neg h2]
      have e : (List.replicate k.toNat x.cps).foldl (· ++ ·) #[] = (List.replicate k.toNat x.cps.toList).flatten.toArray := by
        have := rep_flat k.toNat x.cps.toList #[]
        simpa using this
      rw [e]
      refine ⟨?_, q _ _⟩
      show (⟨(List.replicate k.toNat x.cps.toList).flatten.toArray⟩ : Str).length ≤ _
      have : (⟨(List.replicate k.toNat x.cps.toList).flatten.toArray⟩ : Str).length = k.toNat * x.length := by
        simp [Str.length]
      rw [this, Nat.mul_comm]
      exact hl
theorem op3s {a : Str} {k : Int} {pins : List (Addr × Obj)} {s : Shared} {σ : L2.St} {H : Hp} {u v : Value} {Q : VK} (I : Inv X pins σ H s) (rx : RelV (.str a) u) (ry : RelV (.int k) v) (h1 : -(2 ^ 63) ≤ k) (h2 : k < 2 ^ 63) (hl : a.length * k.toNat ≤ SL) (q : Q (.str (repS a k)) H) :
    wpAny (model X.prog X.w) X.A (binaryOp .Mult u v) (fun w s' => ∃ y H', Inv X pins σ H' s' ∧ RelV y w ∧ Q y H') X.xe s := by
  obtain ⟨t1, rfl⟩ := rx
  obtain ⟨t2, rfl⟩ := ry
  refine PySem.P.mul_str (by simp; omega) (fun c _ => ?_) (fun _ _ => ?_) (repS_made hl fun t' tk => ⟨V.str (repS a k), H, I.tok _, ⟨_, rfl⟩, q⟩)
  · have c' : 0 < k := by omega
    have : (a.length : Int) * k ≤ 2 ^ 63 - 1 := by
      have e : ((a.length * k.toNat : Nat) : Int) = (a.length : Int) * k := by rw [Int.natCast_mul, Int.toNat_of_nonneg (by omega)]
      rw [← e]
      have : a.length * k.toNat ≤ 16777216 := hl
      omega
    have := (Int.le_ediv_iff_mul_le c').mpr this
    omega
  · unfold PySem.Builtin.Str.tooLong
    exact decide_eq_false (by have : a.length * k.toNat ≤ 16777216 := hl; show ¬ (a.length * k.toNat > 16777216); omega)
theorem op3 : OpR X (binaryOp .Mult) (rOp t (bop .mul)) := by
  intro pins s σ H x y u v Q I rx ry ⟨ρ, h, a, b, hr, va, vb, p⟩
  unfold bop mulV at p
  dsimp only at p
  split at p
  · split at p
    · cases va; cases vb
      exact op_mul pins s σ H _ _ u v Q I rx ry ⟨_, _, rfl, rfl, by assumption, p.ok hr _ rfl⟩
    · exact p.elim
  · split at p
    · rename_i m k _ xs e1
      split at p
      · rename_i hz
        cases vb
        obtain ⟨l, rfl, l1, zs, hl, r1⟩ := hr.ref e1 va
        refine op_rep pins s σ H _ _ u v Q I rx ry ⟨l, k, zs, rfl, rfl, hl, hz.1, hz.2.1, by rw [← Paired.length r1]; exact hz.2.2, fun q hq => ?_⟩
        exact Post.new hr p hq (or_lst (pr_rep r1 _)) _ (VR.new hr)
      · exact p.elim
    · rename_i m k _ xs e1
      split at p
      · rename_i hz
        cases vb
        obtain ⟨l, rfl, l1, zs, hl, r1⟩ := hr.ref e1 va
        refine op_repT pins s σ H _ _ u v Q I rx ry ⟨l, k, zs, rfl, rfl, SqT.of hl, fun z => hz.1 (by rw [z] at r1; cases r1; rfl), hz.2.1, hz.2.2.1, by rw [← Paired.length r1]; exact hz.2.2.2, fun q hq => ?_⟩
        exact Post.new hr p hq (or_tup (pr_rep r1 _)) _ (VR.new hr)
      · exact p.elim
    · exact p.elim
  · split at p
    · rename_i hz
      cases va; cases vb
      exact op3s I rx ry hz.1 hz.2.1 hz.2.2 (p.ok hr _ rfl)
    · exact p.elim
  · exact p.elim
theorem op4 : OpR X (binaryOp .FloorDiv) (rOp t (bop .fdiv)) := by
  intro pins s σ H x y u v Q I rx ry ⟨ρ, h, a, b, hr, va, vb, p⟩
  unfold bop fdivV at p
  dsimp only at p
  split at p
  · split at p
    · cases va; cases vb
      exact op_fdiv pins s σ H _ _ u v Q I rx ry ⟨_, _, rfl, rfl, by assumption, p.ok hr _ rfl⟩
    · exact p.elim
  · exact p.elim
theorem op5 : OpR X (binaryOp .Mod) (rOp t (bop .mod)) := by
  intro pins s σ H x y u v Q I rx ry ⟨ρ, h, a, b, hr, va, vb, p⟩
  unfold bop modV at p
  dsimp only at p
  split at p
  · split at p
    · cases va; cases vb
      exact op_mod pins s σ H _ _ u v Q I rx ry ⟨_, _, rfl, rfl, by assumption, p.ok hr _ rfl⟩
    · exact p.elim
  · exact p.elim
theorem op6 : OpR X (binaryOp .Pow) (rOp t (bop .pow)) := by
  intro pins s σ H x y u v Q I rx ry ⟨ρ, h, a, b, hr, va, vb, p⟩
  unfold bop powV at p
  dsimp only at p
  split at p
  · split at p
    · cases va; cases vb
      exact op_pow pins s σ H _ _ u v Q I rx ry ⟨_, _, rfl, rfl, by assumption, p.ok hr _ rfl⟩
    · exact p.elim
  · exact p.elim
/-- what is wanted of a truth -/
theorem ofB_ok {ρ : List Addr} {h : Heap} {H : Hp} {o : Option Bool} {Q : VK} (hr : HR t ρ h H) (p : Post t ρ H (ofB o h) (KV1 t Q) E0') : ∃ b, o = some b ∧ Q (.bl b) H := by
  cases o with
  | none => exact p.elim
  | some b => exact ⟨b, rfl, Post.ok hr p _ rfl⟩
theorem eq_core {ρ : List Addr} {h : Heap} {H : Hp} {a b : Val} {x y : V} {k : Bool} (hr : HR t ρ h H) (va : VR t ρ a x) (vb : VR t ρ b y) (e : eqO h a b = some k) :
    (scal x y = true ∧ k = decide (x = y)) ∨ ∃ d d', Dp t.K H x d ∧ Dp t.K H y d' ∧ SeqAt.shaped d = true ∧ SeqAt.shaped d' = true ∧ k = PyData.eqv d d' := by
  unfold eqO at e
  split at e
  · cases va; cases vb; cases e
    exact .inl ⟨rfl, by simp⟩
  · cases va; cases vb; cases e
    exact .inl ⟨rfl, by simp⟩
  · cases va; cases vb; cases e
    exact .inl ⟨rfl, by simp⟩
  · split at e
    · rename_i d d' e1 e2
      split at e
      · rename_i hs
        cases e
        exact .inr ⟨d, d', rd_dp hr _ _ _ _ e1 (SeqAt.canLay_of_shaped hs.1) va, rd_dp hr _ _ _ _ e2 (SeqAt.canLay_of_shaped hs.2) vb, hs.1, hs.2, rfl⟩
      · cases e
    · cases e
theorem op7 (hK : t.K = X.K) (hu : X.A.units + 100 < cLine) : OpR X (compareOp .Eq) (rOp t (bop .eq)) := by
  intro pins s σ H x y u v Q I rx ry ⟨ρ, h, a, b, hr, va, vb, p⟩
  obtain ⟨k, e, q⟩ := ofB_ok hr (show Post t ρ H (ofB (eqO h a b) h) (KV1 t Q) E0' from p)
  rcases eq_core hr va vb e with ⟨hs, rfl⟩ | ⟨d, d', h1, h2, h3, h4, rfl⟩
  · exact op_eq pins s σ H _ _ u v Q I rx ry ⟨hs, q⟩
  · exact op_eqD (by omega) pins s σ H _ _ u v Q I rx ry ⟨d, d', hK ▸ h1, hK ▸ h2, h3, h4, q⟩
theorem op8 (hK : t.K = X.K) (hu : X.A.units + 100 < cLine) : OpR X (compareOp .NotEq) (rOp t (bop .ne)) := by
  intro pins s σ H x y u v Q I rx ry ⟨ρ, h, a, b, hr, va, vb, p⟩
  obtain ⟨k, e, q⟩ := ofB_ok hr (show Post t ρ H (ofB ((eqO h a b).map (!·)) h) (KV1 t Q) E0' from p)
  obtain ⟨k', e', rfl⟩ := Option.map_eq_some_iff.mp e
  rcases eq_core hr va vb e' with ⟨hs, rfl⟩ | ⟨d, d', h1, h2, h3, h4, rfl⟩
  · exact op_ne pins s σ H _ _ u v Q I rx ry ⟨hs, q⟩
  · exact op_neD (by omega) pins s σ H _ _ u v Q I rx ry ⟨d, d', hK ▸ h1, hK ▸ h2, h3, h4, q⟩
theorem op_ltD (hu : X.A.units + 60 < cLine) : OpR X (compareOp .Lt) (fun x y H Q => ∃ d e, Dp X.K H x d ∧ Dp X.K H y e ∧ PySem.W.alike d e = true ∧ d ≠ .none ∧ d.depth ≤ 60 ∧ Q (.bl (PySem.W.dataLt d e)) H) := by
  intro pins s σ H x y v u Q I rx ry h
  obtain ⟨d, e, hd, he, ha, hn, hdp, q⟩ := h
  obtain ⟨as, r1⟩ := Dp.reads I d x v hd rx
  obtain ⟨bs, r2⟩ := Dp.reads I e y u he ry
  exact PySem.W.lt_data r1 r2 ha hn (by omega) ⟨.bl _, H, I, rfl, q⟩
theorem lt_core {a b : Val} {k : Bool} (e : ltA a b = some k) : (∃ i j, a = .int i ∧ b = .int j ∧ k = decide (i < j)) ∨ ∃ i j, a = .str i ∧ b = .str j ∧ k = decide (i.cps.toList < j.cps.toList) := by
  unfold ltA at e
  split at e
  · cases e; exact .inl ⟨_, _, rfl, rfl, rfl⟩
  · cases e; exact .inr ⟨_, _, rfl, rfl, rfl⟩
  · cases e
theorem le_core {a b : Val} {k : Bool} (e : leO a b = some k) : (∃ i j, a = .int i ∧ b = .int j ∧ k = decide (i ≤ j)) ∨ ∃ i j, a = .str i ∧ b = .str j ∧ k = !decide (j.cps.toList < i.cps.toList) := by
  unfold leO at e
  split at e
  · cases e; exact .inl ⟨_, _, rfl, rfl, rfl⟩
  · cases e; exact .inr ⟨_, _, rfl, rfl, rfl⟩
  · cases e
theorem op9 (hK : t.K = X.K) (hu : X.A.units + 100 < cLine) : OpR X (compareOp .Lt) (rOp t (bop .lt)) := by
  intro pins s σ H x y u v Q I rx ry ⟨ρ, h, a, b, hr, va, vb, p⟩
  obtain ⟨k, e, q⟩ := ofB_ok hr (show Post t ρ H (ofB (ltO h a b) h) (KV1 t Q) E0' from p)
  unfold ltO at e
  split at e
  · split at e
    · rename_i m n d d' e1 e2
      split at e
      · rename_i hs
        obtain ⟨h1, h2, h3, h4, h5⟩ := hs
        cases e
        exact op_ltD (by omega) pins s σ H _ _ u v Q I rx ry ⟨d, d', hK ▸ rd_dp hr _ _ _ _ e1 (SeqAt.canLay_of_shaped h1) va, hK ▸ rd_dp hr _ _ _ _ e2 (SeqAt.canLay_of_shaped h2) vb, h3, fun z => (by rw [z] at h4; cases h4), h5, q⟩
      · cases e
    · cases e
  · rcases lt_core e with ⟨i, j, rfl, rfl, rfl⟩ | ⟨i, j, rfl, rfl, rfl⟩ <;> cases va <;> cases vb
    · exact op_lt pins s σ H _ _ u v Q I rx ry ⟨_, _, rfl, rfl, q⟩
    · exact op_lt_str pins s σ H _ _ u v Q I rx ry ⟨_, _, rfl, rfl, q⟩
theorem op10 : OpR X (compareOp .LtE) (rOp t (bop .le)) := by
  intro pins s σ H x y u v Q I rx ry ⟨ρ, h, a, b, hr, va, vb, p⟩
  obtain ⟨k, e, q⟩ := ofB_ok hr (show Post t ρ H (ofB (leO a b) h) (KV1 t Q) E0' from p)
  rcases le_core e with ⟨i, j, rfl, rfl, rfl⟩ | ⟨i, j, rfl, rfl, rfl⟩ <;> cases va <;> cases vb
  · exact op_le pins s σ H _ _ u v Q I rx ry ⟨_, _, rfl, rfl, q⟩
  · exact op_le_str pins s σ H _ _ u v Q I rx ry ⟨_, _, rfl, rfl, q⟩
theorem op11 : OpR X (compareOp .Gt) (rOp t (bop .gt)) := by
  intro pins s σ H x y u v Q I rx ry ⟨ρ, h, a, b, hr, va, vb, p⟩
  obtain ⟨k, e, q⟩ := ofB_ok hr (show Post t ρ H (ofB (ltA b a) h) (KV1 t Q) E0' from p)
  rcases lt_core e with ⟨i, j, rfl, rfl, rfl⟩ | ⟨i, j, rfl, rfl, rfl⟩ <;> cases va <;> cases vb
  · exact op_gt pins s σ H _ _ u v Q I rx ry ⟨_, _, rfl, rfl, q⟩
  · exact op_gt_str pins s σ H _ _ u v Q I rx ry ⟨_, _, rfl, rfl, q⟩
theorem op12 : OpR X (compareOp .GtE) (rOp t (bop .ge)) := by
  intro pins s σ H x y u v Q I rx ry ⟨ρ, h, a, b, hr, va, vb, p⟩
  obtain ⟨k, e, q⟩ := ofB_ok hr (show Post t ρ H (ofB (leO b a) h) (KV1 t Q) E0' from p)
  rcases le_core e with ⟨i, j, rfl, rfl, rfl⟩ | ⟨i, j, rfl, rfl, rfl⟩ <;> cases va <;> cases vb
  · exact op_ge pins s σ H _ _ u v Q I rx ry ⟨_, _, rfl, rfl, q⟩
  · exact op_ge_str pins s σ H _ _ u v Q I rx ry ⟨_, _, rfl, rfl, q⟩
theorem vr_non {ρ : List Addr} {v : Val} {y : V} (r : VR t ρ v y) : decide (y = .non) = decide (v = .non) := by
  cases v with
  | ref n => obtain ⟨_, _, rfl⟩ := r; rfl
  | glo n => obtain ⟨_, _, rfl⟩ := r; rfl
  | _ => cases r; simp
theorem is_other {ρ : List Addr} {a : Val} {c k : Bool} {x : V} {u : Value} (va : VR t ρ a x) (rx : RelV x u) (e : isO a (.bl c) = some k) : PySem.plainIs u (.bool c) = true ∧ (k = (u == .bool c)) := by
  unfold isO at e
  cases a with
  | bl b => cases va; cases rx; cases e; exact ⟨rfl, by rw [Bool.eq_iff_iff]; simp⟩
  | non => cases va; cases rx; cases e; exact ⟨rfl, rfl⟩
  | int i => cases va; obtain ⟨tk, rfl⟩ := rx; cases e; exact ⟨rfl, rfl⟩
  | str i => cases va; obtain ⟨tk, rfl⟩ := rx; cases e; exact ⟨rfl, rfl⟩
  | ref i => obtain ⟨_, _, rfl⟩ := va; cases rx; cases e; exact ⟨rfl, rfl⟩
  | ty s => cases e
  | glo s => cases e
  | scr => cases e
theorem op13 : OpR X (compareOp .Is) (rOp t (bop .is)) := by
  intro pins s σ H x y u v Q I rx ry ⟨ρ, h, a, b, hr, va, vb, p⟩
  obtain ⟨k, e, q⟩ := ofB_ok hr (show Post t ρ H (ofB (isO a b) h) (KV1 t Q) E0' from p)
  cases b with
  | non =>
    cases vb; cases e
    exact op_isN pins s σ H _ _ u v Q I rx ry ⟨rfl, by rw [vr_non va]; exact q⟩
  | bl c =>
    cases vb; cases ry
    obtain ⟨h1, rfl⟩ := is_other va rx e
    exact PySem.wpAny_is_plain h1 ⟨.bl _, H, I, rfl, q⟩
  | int _ => cases e
  | str _ => cases e
  | ref _ => cases e
  | ty _ => cases e
  | glo _ => cases e
  | scr => cases e
theorem op14 : OpR X (compareOp .IsNot) (rOp t (bop .isnot)) := by
  intro pins s σ H x y u v Q I rx ry ⟨ρ, h, a, b, hr, va, vb, p⟩
  obtain ⟨k, e, q⟩ := ofB_ok hr (show Post t ρ H (ofB ((isO a b).map (!·)) h) (KV1 t Q) E0' from p)
  obtain ⟨k', e', rfl⟩ := Option.map_eq_some_iff.mp e
  cases b with
  | non =>
    cases vb; cases e'
    exact op_notN pins s σ H _ _ u v Q I rx ry ⟨rfl, by rw [vr_non va]; exact q⟩
  | bl c =>
    cases vb; cases ry
    obtain ⟨h1, rfl⟩ := is_other va rx e'
    exact PySem.wpAny_isNot_plain h1 ⟨.bl _, H, I, rfl, q⟩
  | int _ => cases e'
  | str _ => cases e'
  | ref _ => cases e'
  | ty _ => cases e'
  | glo _ => cases e'
  | scr => cases e'
theorem in_core {ρ : List Addr} {h : Heap} {H : Hp} {a b : Val} {x y : V} {k : Bool} (hr : HR t ρ h H) (va : VR t ρ a x) (vb : VR t ρ b y) (e : inO h a b = some k) :
    (∃ (c : Nat) (z : Str), x = .str ⟨#[c]⟩ ∧ y = .str z ∧ k = decide (c ∈ z.cps.toList)) ∨ (∃ p xs, y = .ref p ∧ (SqL t.K H p xs ∨ SqT t.K H p xs) ∧ flatV x = true ∧ xs.all flatV = true ∧ k = inV x xs) ∨
      ∃ p o, y = .ref p ∧ DGet H p x o ∧ k = o.isSome := by
  unfold inO at e
  split at e
  · split at e
    · rename_i z _ w
      split at e
      · rename_i c hc
        cases va; cases vb; cases e
        refine .inl ⟨c, z, ?_, rfl, rfl⟩
        obtain ⟨⟨l⟩⟩ := w
        have hc' : l = [c] := hc
        subst hc'; rfl
      · cases e
    · cases e
  · split at e
    · rename_i xs hk
      obtain ⟨l, rfl, l1, zs, hl, r1⟩ := hr.ref hk vb
      split at e
      · rename_i hf
        cases e
        exact .inr (.inl ⟨l, zs, rfl, .inl (.of hl), vr_flat va hf.1, vrs_flat r1 hf.2, (vrs_in va hf.1 r1 hf.2).symm⟩)
      · cases e
    · rename_i xs hk
      obtain ⟨l, rfl, l1, zs, hl, r1⟩ := hr.ref hk vb
      split at e
      · rename_i hf
        cases e
        exact .inr (.inl ⟨l, zs, rfl, .inr (.of hl), vr_flat va hf.1, vrs_flat r1 hf.2, (vrs_in va hf.1 r1 hf.2).symm⟩)
      · cases e
    · rename_i xs hk
      obtain ⟨l, rfl, l1, zs, hl, r1⟩ := hr.ref hk vb
      split at e
      · rename_i kk hkk
        cases e
        have := key_vr hkk va
        subst this
        refine .inr (.inr ⟨l, valV zs kk, rfl, DGet.k hl, ?_⟩)
        have g := kr_get (k := kk) r1
        cases q : getK xs kk with
        | none => rw [g.2 q]; rfl
        | some w => obtain ⟨z, e, _⟩ := g.1 w q; rw [e]; rfl
      · cases e
    · cases e
  · cases e
theorem inD_core {ρ : List Addr} {h : Heap} {H : Hp} {a b : Val} {x y : V} {k : Bool} (hr : HR t ρ h H) (va : VR t ρ a x) (vb : VR t ρ b y) (e : inD h a b = some k) :
    ∃ d ds, Dp t.K H x d ∧ Dp t.K H y (.list ds) ∧ SeqAt.shaped d = true ∧ SeqAt.shaped (.list ds) = true ∧ k = ds.any fun z => PyData.eqv z d := by
  unfold inD at e
  split at e
  · rename_i d ds e1 e2
    split at e
    · rename_i hs
      cases e
      exact ⟨d, ds, rd_dp hr _ _ _ _ e1 (SeqAt.canLay_of_shaped hs.1) va, rd_dp hr _ _ _ _ e2 (SeqAt.canLay_of_shaped hs.2) vb, hs.1, hs.2, rfl⟩
    · cases e
  · cases e
theorem op15 (hK : t.K = X.K) (hu : X.A.units + 100 < cLine) : OpR X (compareOp .In) (rOp t (bop .in_)) := by
  intro pins s σ H x y u v Q I rx ry ⟨ρ, h, a, b, hr, va, vb, p⟩
  obtain ⟨k, e, q⟩ := ofB_ok hr (show Post t ρ H (ofB (inX h a b) h) (KV1 t Q) E0' from p)
  unfold inX at e
  split at e
  · rename_i e0
    cases e
    rcases in_core hr va vb e0 with ⟨c, z, rfl, rfl, rfl⟩ | ⟨l, zs, rfl, h1, h2, h3, rfl⟩ | ⟨l, o, rfl, g, rfl⟩
    · exact op_in_sign pins s σ H _ _ u v Q I rx ry ⟨c, z, rfl, rfl, q⟩
    · exact op_in_seq pins s σ H _ _ u v Q I rx ry ⟨l, zs, rfl, hK ▸ h1, h2, h3, q⟩
    · obtain rfl : v = Value.ref l := ry
      exact d_in (by omega) I g rx fun s3 I3 => ⟨.bl o.isSome, H, I3, rfl, q⟩
  · obtain ⟨d, ds, h1, h2, h3, h4, rfl⟩ := inD_core hr va vb e
    exact op_inD (by omega) pins s σ H _ _ u v Q I rx ry ⟨d, ds, hK ▸ h1, hK ▸ h2, h3, h4, q⟩
theorem op16 (hK : t.K = X.K) (hu : X.A.units + 100 < cLine) : OpR X (compareOp .NotIn) (rOp t (bop .notin)) := by
  intro pins s σ H x y u v Q I rx ry ⟨ρ, h, a, b, hr, va, vb, p⟩
  obtain ⟨k, e, q⟩ := ofB_ok hr (show Post t ρ H (ofB ((inX h a b).map (!·)) h) (KV1 t Q) E0' from p)
  obtain ⟨k', e', rfl⟩ := Option.map_eq_some_iff.mp e
  unfold inX at e'
  split at e'
  · rename_i e0
    cases e'
    rcases in_core hr va vb e0 with ⟨c, z, rfl, rfl, rfl⟩ | ⟨l, zs, rfl, h1, h2, h3, rfl⟩ | ⟨l, o, rfl, g, rfl⟩
    · exact op_notIn_sign pins s σ H _ _ u v Q I rx ry ⟨c, z, rfl, rfl, q⟩
    · exact op_notIn_seq pins s σ H _ _ u v Q I rx ry ⟨l, zs, rfl, hK ▸ h1, h2, h3, q⟩
    · obtain rfl : v = Value.ref l := ry
      exact d_notIn (by omega) I g rx fun s3 I3 => ⟨.bl (!o.isSome), H, I3, rfl, q⟩
  · obtain ⟨d, ds, h1, h2, h3, h4, rfl⟩ := inD_core hr va vb e'
    exact op_notInD (by omega) pins s σ H _ _ u v Q I rx ry ⟨d, ds, hK ▸ h1, hK ▸ h2, h3, h4, q⟩
end
end Mi


/-! # Mi4: expressions -/
namespace Mi
open PySem PySem.Spec PyProof.Rows L2

/-- the surroundings of a piece of code -/
structure Ok (X : Cx) (t : Th) (W : L2.WX) : Prop where
  hK : t.K = X.K
  nd : X.N.Nodup
  hu : X.A.units + 150 < cLine
  hg : X.A.guards = some []
  sm : ∃ mm, X.base.Ns sysModules mm
  own : PassesOwn (model X.prog X.w) X.A X.env X.xe
  tk : Takes X W
/-- .. where nothing is handled -/
structure OkC (X : Cx) (t : Th) (W : L2.WX) : Prop extends Ok X t W where
  calm : X.calm = true
  px : t.ex = none
theorem Ok.ok {X : Cx} {t : Th} {W : L2.WX} (O : Ok X t W) : Ok X t W := O
theorem OkC.ok {X : Cx} {t : Th} {W : L2.WX} (O : OkC X t W) : Ok X t W := O.toOk
instance {X : Cx} {t : Th} {W : L2.WX} : Coe (OkC X t W) (Ok X t W) := ⟨OkC.toOk⟩

section
variable (t : Th) (W : L2.WX)
abbrev EW (σ : L2.St) : Value → Option Addr → Hp → Prop := fun c d H' => W c d σ H'
def tE (f : Sl → Heap → Res Val) : TE := fun σ H Q => ∃ ρ h s, HR t ρ h H ∧ SR t ρ s σ ∧ Post t ρ H (f s h) (KV1 t Q) (EW W σ)
def tT (f : Sl → Heap → Res Bool) : TT := fun σ H Q => ∃ ρ h s, HR t ρ h H ∧ SR t ρ s σ ∧ Post t ρ H (f s h) (fun b _ _ H' => Q b H') (EW W σ)
abbrev KVs (Q : List V → Hp → Prop) : List Val → Heap → List Addr → Hp → Prop := fun v _ ρ' H' => ∀ z, VRs t ρ' v z → Q z H'
def tA (f : Sl → Heap → Res (List Val)) : TA := fun σ H Q => ∃ ρ h s, HR t ρ h H ∧ SR t ρ s σ ∧ Post t ρ H (f s h) (KVs t Q) (EW W σ)
def tO (f : Sl → Heap → Res (Option Int)) : TO := fun σ H Q => ∃ ρ h s, HR t ρ h H ∧ SR t ρ s σ ∧ Post t ρ H (f s h) (fun b _ _ H' => Q b H') (EW W σ)
end
theorem PEi {X : Cx} {e : Expr} {t t' : TE} (p : PE X e t) (h : ∀ σ H Q, t' σ H Q → t σ H Q) : PE X e t' := ⟨fun pins s σ H Q I q => p.run pins s σ H Q I (h σ H Q q)⟩
theorem PTi {X : Cx} {e : Expr} {t t' : TT} (p : PT X e t) (h : ∀ σ H Q, t' σ H Q → t σ H Q) : PT X e t' := ⟨fun pins s σ H Q I q => p.run pins s σ H Q I (h σ H Q q)⟩
theorem PWi {X : Cx} {e : Expr} {t t' : TT} (p : PW X e t) (h : ∀ σ H Q, t' σ H Q → t σ H Q) : PW X e t' := ⟨fun wh pins s σ H Q I q => p.run wh pins s σ H Q I (h σ H Q q)⟩
theorem PAi {X : Cx} {e : List Expr} {t t' : TA} (p : PA X e t) (h : ∀ σ H Q, t' σ H Q → t σ H Q) : PA X e t' := ⟨fun pos pins s σ H Q I q => p.run pos pins s σ H Q I (h σ H Q q)⟩
theorem POi {X : Cx} {e : Option Expr} {t t' : TO} (p : PO X e t) (h : ∀ σ H Q, t' σ H Q → t σ H Q) : PO X e t' := ⟨fun pins s σ H Q I q => p.run pins s σ H Q I (h σ H Q q)⟩

theorem nox_ok {α : Type} {a : α} {h : Heap} : NoX (Res.ok a h) := fun _ _ _ => nofun
theorem nox_bad {α : Type} : NoX (Res.bad : Res α) := fun _ _ _ => nofun
theorem nox_new {o : Ob} {h : Heap} : NoX (new o h) := fun _ _ _ => nofun
theorem nox_ofB {o : Option Bool} {h : Heap} : NoX (ofB o h) := by
  cases o <;> exact fun _ _ _ => nofun
theorem nox_bop (o : Op) (x y : Val) (h : Heap) : NoX (bop o x y h) := by
  unfold bop addV subV mulV fdivV modV powV
  repeat' split
  all_goals first | exact nox_ofB | exact nox_new | exact nox_ok | exact nox_bad
theorem nox_idx (g : G) (x y : Val) (h : Heap) : NoX (idxV g x y h) := by
  unfold idxV
  repeat' split
  all_goals first | exact nox_new | exact nox_ok | exact nox_bad
theorem nox_slc (x : Val) (l u : Option Int) (h : Heap) : NoX (slcV x l u h) := by
  unfold slcV
  repeat' split
  all_goals first | exact nox_new | exact nox_ok | exact nox_bad
theorem nox_pri (g : G) (p : Pr) (vs : List Val) (h : Heap) : NoX (pri g p vs h) := by
  unfold pri maxV
  repeat' split
  all_goals first | exact nox_new | exact nox_ok | exact nox_bad
theorem nox_met (m : Me) (x : Val) (vs : List Val) (h : Heap) : NoX (met m x vs h) := by
  unfold met
  repeat' split
  all_goals first | exact nox_new | exact nox_ok | exact nox_bad

section
variable {t : Th} {ρ : List Addr} {h : Heap} {H : Hp}
theorem tru_V {v : Val} {y : V} {b : Bool} (x : HR t ρ h H) (r : VR t ρ v y) (e : tru h v = some b) : TruV t.K y H b := by
  unfold tru at e
  split at e
  · cases r; cases e; rfl
  · cases r; cases e; rfl
  · cases r; cases e; rfl
  · split at e
    · cases r; cases e; exact ⟨by assumption, rfl⟩
    · cases e
  · split at e
    · rename_i xs hk
      obtain ⟨l, rfl, l1, zs, hl, r1⟩ := x.ref hk r
      cases e
      refine .inl ⟨zs, .of hl, ?_⟩
      cases r1 <;> rfl
    · rename_i xs hk
      obtain ⟨l, rfl, l1, zs, hl, r1⟩ := x.ref hk r
      cases e
      refine .inr (.inl ⟨zs, .of hl, ?_⟩)
      cases r1 <;> rfl
    · rename_i xs hk
      obtain ⟨l, rfl, l1, zs, hl, r1⟩ := x.ref hk r
      cases e
      refine .inr (.inr ⟨zs, hl, ?_⟩)
      cases r1 <;> rfl
    · cases e
  · cases e
/-- a truth asked -/
theorem post_tru {v : Val} {y : V} {E : Value → Option Addr → Hp → Prop} {k : Bool → Heap → List Addr → Hp → Prop} (x : HR t ρ h H) (r : VR t ρ v y) (p : Post t ρ H (truB v h) k E) : ∃ b, tru h v = some b ∧ TruV t.K y H b ∧ k b h ρ H := by
  unfold truB at p
  split at p
  · rename_i b e
    exact ⟨b, e, tru_V x r e, p.ok x⟩
  · exact p.elim
end

section
variable {X : Cx} {t : Th} {W : L2.WX} {g : G} {a b c e : Expr} {es : List Expr} {ma mb mc m : Ex} {ms : Exs} {pos : Pos}
variable (O : Ok X t W)
include O

theorem e_var {i : Nat} {x : Str} {p : Pos} (hN : X.N[i]? = some x := by rfl) (hv : Vis X.env.scope x := by first | exact Or.inl rfl | exact Or.inr (Or.inl rfl) | exact Or.inr (Or.inr rfl)) (hd : (x == ("__debug__" : Str)) = false := by decide)
    (hcd : (x == ("__classdict__" : Str)) = false := by decide) : PE X (.Name x p) (tE t W (den g (.var i))) := by
  refine PEi (pe_var hN hv hd hcd) fun σ H Q ⟨ρ, h, s, hr, sr, p⟩ => ?_
  unfold den at p
  split at p
  · rename_i v e
    obtain ⟨o, e1, r⟩ := pr_get sr.pr e
    cases o with
    | none => exact r.elim
    | some y => exact ⟨y, e1, p.ok hr y r⟩
  · exact p.elim
theorem e_int {i : Int} {j : Nat} : PE X (.Constant (.int i) j pos) (tE t W (den g (.cst (.int i)))) :=
  PEi pe_int fun σ H Q ⟨ρ, h, s, hr, sr, p⟩ => Post.ok hr p _ rfl
theorem e_bl {i : Bool} {j : Nat} : PE X (.Constant (.bool i) j pos) (tE t W (den g (.cst (.bl i)))) :=
  PEi pe_bl fun σ H Q ⟨ρ, h, s, hr, sr, p⟩ => Post.ok hr p _ rfl
theorem e_str {i : Str} {j : Nat} : PE X (.Constant (.str i) j pos) (tE t W (den g (.cst (.str i)))) :=
  PEi pe_str fun σ H Q ⟨ρ, h, s, hr, sr, p⟩ => Post.ok hr p _ rfl
theorem e_non {j : Nat} : PE X (.Constant .none j pos) (tE t W (den g (.cst .non))) :=
  PEi pe_non fun σ H Q ⟨ρ, h, s, hr, sr, p⟩ => Post.ok hr p _ rfl
/-- a built-in type by its name -/
theorem e_ty {x : Str} {s : String} {p : Pos} (hg : Gl X x) (hm : X.mg x = none) (hv : bootBuiltins x = some (.type s)) (hn : x ≠ "__name__" := by decide) (hd : (x == ("__debug__" : Str)) = false := by decide) :
    PE X (.Name x p) (tE t W (den g (.cst (.ty s)))) :=
  PEi (pe_bltn (v := .ty s) hg hm hv rfl hn hd) fun σ H Q ⟨ρ, h, s, hr, sr, p⟩ => Post.ok hr p _ rfl
/-- a constant of the module: an int, a text -/
theorem e_glbI {x : Str} {j : Nat} {i : Int} {p : Pos} (hg : Gl X x) (hm : ∃ u, X.mg x = some (.int i u)) (he : g.glob j = some (.int i)) (hd : (x == ("__debug__" : Str)) = false := by decide) : PE X (.Name x p) (tE t W (den g (.glb j))) := by
  obtain ⟨u, hm⟩ := hm
  refine PEi (pe_glob (v := .int i) hg hm ⟨u, rfl⟩ hd) fun σ H Q ⟨ρ, h, s, hr, sr, p⟩ => ?_
  unfold den at p
  rw [he] at p
  exact Post.ok hr p _ rfl
theorem e_glbS {x i : Str} {j : Nat} {p : Pos} (hg : Gl X x) (hm : ∃ u, X.mg x = some (.str i u)) (he : g.glob j = some (.str i)) (hd : (x == ("__debug__" : Str)) = false := by decide) : PE X (.Name x p) (tE t W (den g (.glb j))) := by
  obtain ⟨u, hm⟩ := hm
  refine PEi (pe_glob (v := .str i) hg hm ⟨u, rfl⟩ hd) fun σ H Q ⟨ρ, h, s, hr, sr, p⟩ => ?_
  unfold den at p
  rw [he] at p
  exact Post.ok hr p _ rfl

/-- two values, one after the other -/
theorem two {f : Val → Val → Heap → Res Val} {σ : L2.St} {H : Hp} {Q : VK} {r : V → V → Hp → Prop}
    (q : tE t W (fun s h => (den g ma s h).bind fun x h => (den g mb s h).bind fun y h => f x y h) σ H Q)
    (k : ∀ ρ h H x y u v, HR t ρ h H → VR t ρ x u → VR t ρ y v → Post t ρ H (f x y h) (KV1 t Q) (EW W σ) → r u v H) :
    tE t W (den g ma) σ H fun u H1 => tE t W (den g mb) σ H1 fun v H2 => r u v H2 := by
  obtain ⟨ρ, h, s, hr, sr, p⟩ := q
  exact ⟨ρ, h, s, hr, sr, (Post.bind p).imp fun x h1 ρ1 H1 e1 x1 p1 u ru => ⟨ρ1, h1, s, x1, SR.ext e1 sr, (Post.bind p1).imp fun y h2 ρ2 H2 e2 x2 p2 v rv => k ρ2 h2 H2 x y u v x2 (ru.ext e2) rv p2⟩⟩
theorem e_bin {op : Operator} {o : Op} (ho : OpR X (binaryOp op) (rOp t (bop o))) (ha : PE X a (tE t W (den g ma))) (hb : PE X b (tE t W (den g mb))) : PE X (.BinOp a op b pos) (tE t W (den g (.bin o ma mb))) :=
  PEi (pe_op ho ha hb) fun σ H Q q => two O (f := bop o) (by unfold tE den at q; exact q) fun ρ h H x y u v hr ru rv p => ⟨ρ, h, x, y, hr, ru, rv, p.nox (nox_bop _ _ _ _)⟩
theorem e_cmp {op : CmpOp} {o : Op} (ho : OpR X (compareOp op) (rOp t (bop o))) (ha : PE X a (tE t W (den g ma))) (hb : PE X b (tE t W (den g mb))) (hm : behindInMarks op b = false) : PE X (.Compare a [op] [b] pos) (tE t W (den g (.bin o ma mb))) :=
  PEi (pe_cmpR ho ha hb hm) fun σ H Q q => two O (f := bop o) (by unfold tE den at q; exact q) fun ρ h H x y u v hr ru rv p => ⟨ρ, h, x, y, hr, ru, rv, p.nox (nox_bop _ _ _ _)⟩
theorem truB_ofB {z : Val} {h : Heap} (hz : ∃ k, z = .bl k) : ∃ k, z = .bl k ∧ truB z h = .ok k h := by
  obtain ⟨k, rfl⟩ := hz
  exact ⟨k, rfl, rfl⟩
/-- what a comparison gives is a truth -/
def isB (r : Res Val) : Prop := ∀ v h, r = .ok v h → ∃ k, v = .bl k
omit O in
theorem isB_ofB {o : Option Bool} {h : Heap} : isB (ofB o h) := by
  cases o with
  | none => exact fun _ _ => nofun
  | some b => exact fun v h' e => ⟨b, by injection e with e1 _; exact e1.symm⟩
theorem t_cmp {op : CmpOp} {o : Op} (ho : OpR X (compareOp op) (rOp t (bop o))) (hB : ∀ x y h, isB (bop o x y h)) (ha : PE X a (tE t W (den g ma))) (hb : PE X b (tE t W (den g mb))) (hm : behindInMarks op b = false) : PT X (.Compare a [op] [b] pos) (tT t W (denT g (.bin o ma mb))) := by
  refine PTi (pt_cmpR ho ha hb hm) fun σ H Q ⟨ρ, h, s, hr, sr, p⟩ => ?_
  refine two O (f := bop o) (ma := ma) (mb := mb) (Q := fun v H' => ∃ k, v = .bl k ∧ Q k H') ?_ fun ρ h H x y u v hr ru rv p => ⟨ρ, h, x, y, hr, ru, rv, p.nox (nox_bop _ _ _ _)⟩
  refine ⟨ρ, h, s, hr, sr, ?_⟩
  unfold denT at p
  refine Post.imp (k := fun v h' ρ' H' => (∃ k, v = .bl k) ∧ Post t ρ' H' (truB v h') (fun b _ _ H' => Q b H') (EW W σ)) ?_ fun v h' ρ' H' e x q z rz => ?_
  · have p1 := Post.bind p
    show Post t ρ H ((den g ma s h).bind fun x h => (den g mb s h).bind fun y h => bop o x y h) _ _
    unfold den at p1
    generalize he : ((den g ma s h).bind fun x h => (den g mb s h).bind fun y h => bop o x y h) = r at p1 ⊢
    cases r with
    | ok v h1 =>
      refine fun ρ2 H2 e2 x2 => ⟨?_, p1 ρ2 H2 e2 x2⟩
      cases hx : den g ma s h with
      | ok x1 h1' =>
        rw [hx] at he
        cases hy : den g mb s h1' with
        | ok y1 h2' => simp only [Res.bind_ok, hy] at he; exact hB _ _ _ _ _ he
        | exc _ _ _ => simp only [Res.bind_ok, hy] at he; cases he
        | bad => simp only [Res.bind_ok, hy] at he; cases he
      | exc _ _ _ => rw [hx] at he; cases he
      | bad => rw [hx] at he; cases he
    | exc _ _ _ => exact p1
    | bad => exact p1
  · obtain ⟨⟨k, rfl⟩, q⟩ := q
    cases rz
    exact ⟨k, rfl, q.ok x⟩
theorem e_neg (ha : PE X a (tE t W (den g ma))) : PE X (.UnaryOp .USub a pos) (tE t W (den g (.neg ma))) := by
  refine PEi (pe_un un_neg ha) fun σ H Q ⟨ρ, h, s, hr, sr, p⟩ => ?_
  unfold den at p
  refine ⟨ρ, h, s, hr, sr, (Post.bind p).imp fun x h1 ρ1 H1 e1 x1 p1 u ru => ?_⟩
  split at p1
  · cases ru
    exact ⟨_, rfl, p1.ok x1 _ rfl⟩
  · exact p1.elim
theorem e_not (ha : PE X a (tE t W (den g ma))) : PE X (.UnaryOp .Not a pos) (tE t W (den g (.not ma))) := by
  refine PEi (pe_notT ha) fun σ H Q ⟨ρ, h, s, hr, sr, p⟩ => ?_
  unfold den at p
  refine ⟨ρ, h, s, hr, sr, (Post.bind p).imp fun x h1 ρ1 H1 e1 x1 p1 u ru => ?_⟩
  obtain ⟨b, _, tv, q⟩ := post_tru x1 ru (Post.bind p1)
  exact ⟨b, O.hK ▸ tv, q.ok x1 _ rfl⟩
theorem e_one {op : PySem.BoolOp} (ha : PE X a (tE t W (den g ma))) : PE X (.BoolOp op [a] pos) (tE t W (den g ma)) := pe_one ha
theorem e_and (ha : PE X a (tE t W (den g ma))) (hb : PE X (.BoolOp .And (b :: es) pos) (tE t W (den g mb))) : PE X (.BoolOp .And (a :: b :: es) pos) (tE t W (den g (.and ma mb))) := by
  refine PEi (pe_andT ha hb) fun σ H Q ⟨ρ, h, s, hr, sr, p⟩ => ?_
  unfold den at p
  refine ⟨ρ, h, s, hr, sr, (Post.bind p).imp fun x h1 ρ1 H1 e1 x1 p1 u ru => ?_⟩
  obtain ⟨k, _, tv, q⟩ := post_tru x1 ru (Post.bind p1)
  refine ⟨k, O.hK ▸ tv, ?_⟩
  cases k with
  | true => rw [if_pos rfl] at q ⊢; exact ⟨ρ1, h1, s, x1, SR.ext e1 sr, q⟩
  | false => rw [if_neg Bool.false_ne_true] at q ⊢; exact q.ok x1 _ ru
theorem e_or (ha : PE X a (tE t W (den g ma))) (hb : PE X (.BoolOp .Or (b :: es) pos) (tE t W (den g mb))) : PE X (.BoolOp .Or (a :: b :: es) pos) (tE t W (den g (.or ma mb))) := by
  refine PEi (pe_orT ha hb) fun σ H Q ⟨ρ, h, s, hr, sr, p⟩ => ?_
  unfold den at p
  refine ⟨ρ, h, s, hr, sr, (Post.bind p).imp fun x h1 ρ1 H1 e1 x1 p1 u ru => ?_⟩
  obtain ⟨k, _, tv, q⟩ := post_tru x1 ru (Post.bind p1)
  refine ⟨k, O.hK ▸ tv, ?_⟩
  cases k with
  | true => rw [if_pos rfl] at q ⊢; exact q.ok x1 _ ru
  | false => rw [if_neg Bool.false_ne_true] at q ⊢; exact ⟨ρ1, h1, s, x1, SR.ext e1 sr, q⟩
/-- tests -/
theorem t_plain (ha : PE X a (tE t W (den g ma))) (he : ∀ whole, isTrue a X.env whole = (do let v ← whole; standAt a.pos; holding [v] (truthy v)) := by intro _; rfl) : PT X a (tT t W (denT g ma)) := by
  refine PTi (pt_truth ha he) fun σ H Q ⟨ρ, h, s, hr, sr, p⟩ => ?_
  unfold denT at p
  refine ⟨ρ, h, s, hr, sr, (Post.bind p).imp fun x h1 ρ1 H1 e1 x1 p1 u ru => ?_⟩
  obtain ⟨k, _, tv, q⟩ := post_tru x1 ru p1
  exact ⟨k, O.hK ▸ tv, q⟩
omit O in
theorem denT_not (s : Sl) (h : Heap) : denT g (.not ma) s h = (denT g ma s h).bind fun b h => .ok (!b) h := by
  unfold denT
  conv => lhs; unfold den
  cases den g ma s h with
  | ok v h1 =>
    simp only [Res.bind_ok]
    cases q : truB v h1 <;> rfl
  | exc _ _ _ => rfl
  | bad => rfl
omit O in
theorem truB_heap {v : Val} {h h' : Heap} {b : Bool} (e : truB v h = .ok b h') : h' = h ∧ tru h v = some b := by
  unfold truB at e
  split at e
  · injection e with e1 e2; subst e1; exact ⟨e2.symm, by assumption⟩
  · cases e
omit O in
theorem denT_and (s : Sl) (h : Heap) : denT g (.and ma mb) s h = (denT g ma s h).bind fun b h => if b then denT g mb s h else .ok false h := by
  unfold denT
  conv => lhs; unfold den
  cases den g ma s h with
  | ok v h1 =>
    simp only [Res.bind_ok]
    cases q : truB v h1 with
    | ok b h2 =>
      obtain ⟨rfl, e⟩ := truB_heap q
      cases b with
      | true => rfl
      | false => simp only [Res.bind_ok]; exact q
    | exc _ _ _ => rfl
    | bad => rfl
  | exc _ _ _ => rfl
  | bad => rfl
omit O in
theorem denT_or (s : Sl) (h : Heap) : denT g (.or ma mb) s h = (denT g ma s h).bind fun b h => if b then .ok true h else denT g mb s h := by
  unfold denT
  conv => lhs; unfold den
  cases den g ma s h with
  | ok v h1 =>
    simp only [Res.bind_ok]
    cases q : truB v h1 with
    | ok b h2 =>
      obtain ⟨rfl, e⟩ := truB_heap q
      cases b with
      | false => rfl
      | true => simp only [Res.bind_ok]; exact q
    | exc _ _ _ => rfl
    | bad => rfl
  | exc _ _ _ => rfl
  | bad => rfl
theorem t_not (ha : PT X a (tT t W (denT g ma))) : PT X (.UnaryOp .Not a pos) (tT t W (denT g (.not ma))) := by
  refine PTi (pt_not ha) fun σ H Q ⟨ρ, h, s, hr, sr, p⟩ => ?_
  rw [denT_not] at p
  exact ⟨ρ, h, s, hr, sr, (Post.bind p).imp fun x h1 ρ1 H1 e1 x1 p1 => p1.ok x1⟩
theorem w_and1 (ha : PT X a (tT t W (denT g ma))) : PW X (.BoolOp .And [a] pos) (tT t W (denT g ma)) := pw_and1 ha
theorem w_or1 (ha : PT X a (tT t W (denT g ma))) : PW X (.BoolOp .Or [a] pos) (tT t W (denT g ma)) := pw_or1 ha
theorem w_and (ha : PT X a (tT t W (denT g ma))) (hb : PW X (.BoolOp .And (b :: es) pos) (tT t W (denT g mb))) : PW X (.BoolOp .And (a :: b :: es) pos) (tT t W (denT g (.and ma mb))) := by
  refine PWi (pw_and ha hb) fun σ H Q ⟨ρ, h, s, hr, sr, p⟩ => ?_
  rw [denT_and] at p
  refine ⟨ρ, h, s, hr, sr, (Post.bind p).imp fun k h1 ρ1 H1 e1 x1 q => ?_⟩
  cases k with
  | true => exact ⟨ρ1, h1, s, x1, SR.ext e1 sr, q⟩
  | false => exact q.ok x1
theorem w_or (ha : PT X a (tT t W (denT g ma))) (hb : PW X (.BoolOp .Or (b :: es) pos) (tT t W (denT g mb))) : PW X (.BoolOp .Or (a :: b :: es) pos) (tT t W (denT g (.or ma mb))) := by
  refine PWi (pw_or ha hb) fun σ H Q ⟨ρ, h, s, hr, sr, p⟩ => ?_
  rw [denT_or] at p
  refine ⟨ρ, h, s, hr, sr, (Post.bind p).imp fun k h1 ρ1 H1 e1 x1 q => ?_⟩
  cases k with
  | false => exact ⟨ρ1, h1, s, x1, SR.ext e1 sr, q⟩
  | true => exact q.ok x1
theorem e_ite (hc : PT X c (tT t W (denT g mc))) (ha : PE X a (tE t W (den g ma))) (hb : PE X b (tE t W (den g mb))) : PE X (.IfExp c a b pos) (tE t W (den g (.ite mc ma mb))) := by
  refine PEi (pe_ifExp hc ha hb) fun σ H Q ⟨ρ, h, s, hr, sr, p⟩ => ?_
  have e : den g (.ite mc ma mb) s h = (denT g mc s h).bind fun k h => if k then den g ma s h else den g mb s h := by
    conv => lhs; unfold den
    unfold denT
    cases den g mc s h <;> rfl
  rw [e] at p
  refine ⟨ρ, h, s, hr, sr, (Post.bind p).imp fun k h1 ρ1 H1 e1 x1 q => ?_⟩
  cases k with
  | true => exact ⟨ρ1, h1, s, x1, SR.ext e1 sr, q⟩
  | false => exact ⟨ρ1, h1, s, x1, SR.ext e1 sr, q⟩
/-- a op b op c -/
theorem e_chn {op op' : CmpOp} {o o' : Op} (ho : OpR X (compareOp op) (rOp t (bop o))) (ho' : OpR X (compareOp op') (rOp t (bop o'))) (hB : ∀ x y h, isB (bop o x y h)) (ha : PE X a (tE t W (den g ma))) (hb : PE X b (tE t W (den g mb))) (hc : PE X c (tE t W (den g mc)))
    (hm : lastMarks [op, op'] [b, c] = false := by with_unfolding_all rfl) : PE X (.Compare a [op, op'] [b, c] pos) (tE t W (den g (.chn o o' ma mb mc))) := by
  refine PEi (pe_chain ho ho' ha hb hc hm) fun σ H Q ⟨ρ, h, s, hr, sr, p⟩ => ?_
  unfold den at p
  refine ⟨ρ, h, s, hr, sr, (Post.bind p).imp fun x h1 ρ1 H1 e1 x1 p1 u ru => ⟨ρ1, h1, s, x1, SR.ext e1 sr, (Post.bind p1).imp fun y h2 ρ2 H2 e2 x2 p2 v rv => ⟨ρ2, h2, x, y, x2, ru.ext e2, rv, ?_⟩⟩⟩
  have p3 := Post.bind p2
  generalize hz : bop o x y h2 = r at p3 ⊢
  cases r with
  | bad => exact p3
  | exc c fs h' => exact absurd hz (nox_bop o x y h2 c fs h')
  | ok z h3 =>
    obtain ⟨k, rfl⟩ := hB x y h2 z h3 hz
    refine fun ρ3 H3 e3 x3 w rw => ?_
    cases rw
    refine ⟨k, rfl, ?_⟩
    have q := p3 ρ3 H3 e3 x3
    cases k with
    | true =>
      rw [if_pos rfl]
      exact ⟨ρ3, h3, s, x3, SR.ext (e1.trans (e2.trans e3)) sr, (Post.bind q).imp fun z' h4 ρ4 H4 e4 x4 p4 w' rw' => ⟨ρ4, h4, y, z', x4, (rv.ext e3).ext e4, rw', p4.nox (nox_bop _ _ _ _)⟩⟩
    | false =>
      rw [if_neg Bool.false_ne_true]
      exact q.ok x3 _ rfl
theorem t_chn {op op' : CmpOp} {o o' : Op} (ho : OpR X (compareOp op) (rOp t (bop o))) (ho' : OpR X (compareOp op') (rOp t (bop o'))) (hB : ∀ x y h, isB (bop o x y h)) (hB' : ∀ x y h, isB (bop o' x y h)) (ha : PE X a (tE t W (den g ma))) (hb : PE X b (tE t W (den g mb))) (hc : PE X c (tE t W (den g mc)))
    (hm : lastMarks [op, op'] [b, c] = false := by with_unfolding_all rfl) : PT X (.Compare a [op, op'] [b, c] pos) (tT t W (denT g (.chn o o' ma mb mc))) := by
  refine PTi (pt_chain ho ho' ha hb hc hm) fun σ H Q ⟨ρ, h, s, hr, sr, p⟩ => ?_
  have e : denT g (.chn o o' ma mb mc) s h = (den g ma s h).bind fun x h => (den g mb s h).bind fun y h => (bop o x y h).bind fun k h => (match k with
      | .bl true => (den g mc s h).bind fun z h => bop o' y z h
      | .bl false => .ok (.bl false) h
      | _ => .bad : Res Val).bind truB := by
    unfold denT
    conv => lhs; unfold den
    cases den g ma s h with
    | ok x h1 =>
      simp only [Res.bind_ok]
      cases den g mb s h1 with
      | ok y h2 =>
        simp only [Res.bind_ok]
        cases bop o x y h2 <;> rfl
      | exc _ _ _ => rfl
      | bad => rfl
    | exc _ _ _ => rfl
    | bad => rfl
  rw [e] at p
  refine ⟨ρ, h, s, hr, sr, (Post.bind p).imp fun x h1 ρ1 H1 e1 x1 p1 u ru => ⟨ρ1, h1, s, x1, SR.ext e1 sr, (Post.bind p1).imp fun y h2 ρ2 H2 e2 x2 p2 v rv => ⟨ρ2, h2, x, y, x2, ru.ext e2, rv, ?_⟩⟩⟩
  have p3 := Post.bind p2
  generalize hz : bop o x y h2 = r at p3 ⊢
  cases r with
  | bad => exact p3
  | exc c fs h' => exact absurd hz (nox_bop o x y h2 c fs h')
  | ok z h3 =>
    obtain ⟨k, rfl⟩ := hB x y h2 z h3 hz
    refine fun ρ3 H3 e3 x3 w rw => ?_
    cases rw
    refine ⟨k, rfl, ?_⟩
    have q := p3 ρ3 H3 e3 x3
    cases k with
    | true =>
      rw [if_pos rfl]
      refine ⟨ρ3, h3, s, x3, SR.ext (e1.trans (e2.trans e3)) sr, ?_⟩
      have q : Post t ρ3 H3 (((den g mc s h3).bind fun z h => bop o' y z h).bind truB) (fun b _ _ H' => Q b H') (EW W σ) := q
      have e' : ((den g mc s h3).bind fun z h => bop o' y z h).bind truB = (den g mc s h3).bind fun z h => (bop o' y z h).bind truB := by
        cases den g mc s h3 <;> rfl
      rw [e'] at q
      refine (Post.bind q).imp fun z' h4 ρ4 H4 e4 x4 p4 w' rw' => ⟨ρ4, h4, y, z', x4, (rv.ext e3).ext e4, rw', ?_⟩
      have p5 := Post.bind p4
      generalize hz' : bop o' y z' h4 = r' at p5 ⊢
      cases r' with
      | bad => exact p5
      | exc c fs h' => exact absurd hz' (nox_bop o' y z' h4 c fs h')
      | ok z2 h5 =>
        obtain ⟨k2, rfl⟩ := hB' y z' h4 z2 h5 hz'
        refine fun ρ5 H5 e5 x5 w2 rw2 => ?_
        cases rw2
        exact ⟨k2, rfl, (p5 ρ5 H5 e5 x5).ok x5⟩
    | false =>
      rw [if_neg Bool.false_ne_true]
      exact ⟨false, rfl, Post.ok x3 q⟩
/-- argument lists -/
theorem a_nil : PA X [] (tA t W (dens g .nil)) := PAi pa_nil fun σ H Q ⟨ρ, h, s, hr, sr, p⟩ => Post.ok hr p _ .nil
theorem a_cons (ha : PE X a (tE t W (den g ma))) (hb : PA X es (tA t W (dens g ms))) (hs : starEach (a :: es) X.env = (false, eval a X.env) :: starEach es X.env := by rfl) : PA X (a :: es) (tA t W (dens g (.cons ma ms))) := by
  refine PAi (pa_cons ha hb hs) fun σ H Q ⟨ρ, h, s, hr, sr, p⟩ => ?_
  unfold dens at p
  exact ⟨ρ, h, s, hr, sr, (Post.bind p).imp fun x h1 ρ1 H1 e1 x1 p1 u ru => ⟨ρ1, h1, s, x1, SR.ext e1 sr, (Post.bind p1).imp fun y h2 ρ2 H2 e2 x2 p2 v rv => p2.ok x2 _ (.cons (ru.ext e2) rv)⟩⟩
theorem e_lst (ha : PA X es (tA t W (dens g ms))) : PE X (.List es pos) (tE t W (den g (.lst ms))) := by
  refine PEi (pe_lst ha) fun σ H Q ⟨ρ, h, s, hr, sr, p⟩ => ?_
  unfold den at p
  refine ⟨ρ, h, s, hr, sr, (Post.bind p).imp fun x h1 ρ1 H1 e1 x1 p1 u ru => ?_⟩
  split at p1
  · exact ⟨by rw [← Paired.length ru]; assumption, fun q hq => Post.new x1 p1 hq (or_lst ru) _ (VR.new x1)⟩
  · exact p1.elim
theorem e_tup {k : Nat} (ha : PA X es (tA t W (dens g ms))) : PE X (.Tuple es k pos) (tE t W (den g (.tup ms))) := by
  refine PEi (pe_tup ha) fun σ H Q ⟨ρ, h, s, hr, sr, p⟩ => ?_
  unfold den at p
  refine ⟨ρ, h, s, hr, sr, (Post.bind p).imp fun x h1 ρ1 H1 e1 x1 p1 u ru => ?_⟩
  split at p1
  · exact ⟨by rw [← Paired.length ru]; assumption, fun q hq => Post.new x1 p1 hq (or_tup ru) _ (VR.new x1)⟩
  · exact p1.elim
theorem e_dnew : PE X (.Dict [] [] pos) (tE t W (den g .dnew)) := by
  refine PEi pe_dnewK fun σ H Q ⟨ρ, h, s, hr, sr, p⟩ => ?_
  unfold den at p
  exact fun q hq => Post.new hr p hq ⟨[], upd_same, .nil⟩ _ (VR.new hr)
end
end Mi


/-! # Mi5: items, slices, built-in functions and methods -/
namespace Mi
open PySem PySem.Spec PyProof.Rows L2

section
variable {t : Th} {ρ : List Addr} {h : Heap} {H : Hp} {g : G}
theorem atI_pr {α β : Type} {F : α → β → Prop} {xs : List α} {ys : List β} {i : Int} {v : α} (r : Paired F xs ys) (e : atI xs i = some v) : ∃ y, atI ys i = some y ∧ F v y := by
  unfold atI at e ⊢
  rw [← r.length]
  cases q : ixN xs.length i with
  | none => rw [q] at e; cases e
  | some j =>
    rw [q] at e
    obtain ⟨y, e1, r1⟩ := pr_get r e
    exact ⟨y, e1, r1⟩
theorem atI_map {α β : Type} {f : α → β} {xs : List α} {i : Int} {v : α} (e : atI xs i = some v) : atI (xs.map f) i = some (f v) := by
  unfold atI at e ⊢
  rw [List.length_map]
  cases q : ixN xs.length i with
  | none => rw [q] at e; cases e
  | some j =>
    rw [q] at e
    have e : xs[j]? = some v := e
    show (xs.map f)[j]? = some (f v)
    rw [List.getElem?_map, e]; rfl
theorem ints_vr : ∀ {xs : List Val} {ys : List V} {ns : List Int}, VRs t ρ xs ys → intsO xs = some ns → ys = ns.map V.int
  | _, _, _, .nil, e => by cases e; rfl
  | x :: xs, y :: ys, ns, .cons r rs, e => by
    cases x <;> simp [intsO] at e
    obtain ⟨ms, e1, rfl⟩ := e
    cases r
    rw [ints_vr rs e1]; rfl
theorem bls_vr : ∀ {xs : List Val} {ys : List V} {ns : List Bool}, VRs t ρ xs ys → blsO xs = some ns → ys = ns.map V.bl
  | _, _, _, .nil, e => by cases e; rfl
  | x :: xs, y :: ys, ns, .cons r rs, e => by
    cases x <;> simp [blsO] at e
    obtain ⟨ms, e1, rfl⟩ := e
    cases r
    rw [bls_vr rs e1]; rfl
theorem strs_vr : ∀ {xs : List Val} {ys : List V} {ns : List Str}, VRs t ρ xs ys → strsO xs = some ns → ys = ns.map V.str
  | _, _, _, .nil, e => by cases e; rfl
  | x :: xs, y :: ys, ns, .cons r rs, e => by
    cases x <;> simp [strsO] at e
    obtain ⟨ms, e1, rfl⟩ := e
    cases r
    rw [strs_vr rs e1]; rfl
theorem lst_of {v : Val} {y : V} {xs : List Val} (x : HR t ρ h H) (r : VR t ρ v y) (e : lstO h v = some xs) : ∃ a ys, y = .ref a ∧ H a = some (.lst ys) ∧ VRs t ρ xs ys := by
  unfold lstO at e
  split at e
  · split at e
    · rename_i zs hk
      cases e
      obtain ⟨l, rfl, l1, ys, hl, r1⟩ := x.ref hk r
      exact ⟨l, ys, rfl, hl, r1⟩
    · cases e
  · cases e
theorem seq_of {v : Val} {y : V} {xs : List Val} (x : HR t ρ h H) (r : VR t ρ v y) (e : seqO h v = some xs) : ∃ a ys, y = .ref a ∧ (H a = some (.lst ys) ∨ H a = some (.tup ys)) ∧ VRs t ρ xs ys := by
  unfold seqO at e
  split at e
  · split at e
    · rename_i zs hk
      cases e
      obtain ⟨l, rfl, l1, ys, hl, r1⟩ := x.ref hk r
      exact ⟨l, ys, rfl, .inl hl, r1⟩
    · rename_i zs hk
      cases e
      obtain ⟨l, rfl, l1, ys, hl, r1⟩ := x.ref hk r
      exact ⟨l, ys, rfl, .inr hl, r1⟩
    · cases e
  · cases e
theorem foldl_max (ns : List Int) : ∀ a : Int, (∀ y ∈ ns, y ≤ ns.foldl max a) ∧ a ≤ ns.foldl max a ∧ (ns.foldl max a = a ∨ ns.foldl max a ∈ ns) := by
  induction ns with
  | nil => intro a; simp
  | cons n ns ih =>
    intro a
    obtain ⟨h1, h2, h3⟩ := ih (max a n)
    simp only [List.foldl_cons, List.mem_cons]
    refine ⟨fun y hy => ?_, by omega, ?_⟩
    · rcases hy with rfl | hy
      · omega
      · exact h1 y hy
    · rcases h3 with h3 | h3
      · rcases Int.le_total a n with q | q
        · right; left; rw [h3]; omega
        · left; rw [h3]; omega
      · right; right; exact h3
theorem foldl_min (ns : List Int) : ∀ a : Int, (∀ y ∈ ns, ns.foldl min a ≤ y) ∧ ns.foldl min a ≤ a ∧ (ns.foldl min a = a ∨ ns.foldl min a ∈ ns) := by
  induction ns with
  | nil => intro a; simp
  | cons n ns ih =>
    intro a
    obtain ⟨h1, h2, h3⟩ := ih (min a n)
    simp only [List.foldl_cons, List.mem_cons]
    refine ⟨fun y hy => ?_, by omega, ?_⟩
    · rcases hy with rfl | hy
      · omega
      · exact h1 y hy
    · rcases h3 with h3 | h3
      · rcases Int.le_total a n with q | q
        · left; rw [h3]; omega
        · right; left; rw [h3]; omega
      · right; right; exact h3
theorem maxL_ge {ns : List Int} {y : Int} (hy : y ∈ ns) : y ≤ maxL ns := (foldl_max ns _).1 y hy
theorem maxL_mem {ns : List Int} (h : 0 < ns.length) : maxL ns ∈ ns := by
  cases ns with
  | nil => simp at h
  | cons n ns =>
    rcases (foldl_max (n :: ns) n).2.2 with q | q
    · show List.foldl max n (n :: ns) ∈ n :: ns
      rw [q]; simp
    · exact q
theorem minL_le {ns : List Int} {y : Int} (hy : y ∈ ns) : minL ns ≤ y := (foldl_min ns _).1 y hy
theorem minL_mem {ns : List Int} (h : 0 < ns.length) : minL ns ∈ ns := by
  cases ns with
  | nil => simp at h
  | cons n ns =>
    rcases (foldl_min (n :: ns) n).2.2 with q | q
    · show List.foldl min n (n :: ns) ∈ n :: ns
      rw [q]; simp
    · exact q
theorem max_is {ns : List Int} {m : Int} (h1 : m ∈ ns) (h2 : ∀ y, y ∈ ns → y ≤ m) : m = maxL ns := by
  have := maxL_ge h1
  have := h2 _ (maxL_mem (List.length_pos_of_mem h1))
  omega
theorem min_is {ns : List Int} {m : Int} (h1 : m ∈ ns) (h2 : ∀ y, y ∈ ns → m ≤ y) : m = minL ns := by
  have := minL_le h1
  have := h2 _ (minL_mem (List.length_pos_of_mem h1))
  omega
end

/-! ## items -/
section
variable {X : Cx} {t : Th} {W : L2.WX} {g : G} {a b c e : Expr} {es : List Expr} {ma mb mc m : Ex} {ms : Exs} {pos : Pos}
theorem ix_V (hK : t.K = X.K) (hS : g.scr = t.S) (hu : X.A.units + 150 < cLine) : IxR X (rOp t (idxV g)) := by
  intro value slice pins s σ H x y v u Q I rx ry ⟨ρ, h, a, b, hr, va, vb, p⟩ hs
  unfold idxV at p
  split at p
  · split at p
    · rename_i n e
      cases va; cases vb
      rw [hS] at e
      exact ix_list value slice pins s σ H _ _ v u Q I rx ry ⟨_, _, _, _, rfl, rfl, hK ▸ hr.sc.sq, atI_map e, p.ok hr _ rfl⟩ hs
    · exact p.elim
  · split at p
    · split at p
      · rename_i hz _ n e
        cases va; cases vb
        exact ix_str value slice pins s σ H _ _ v u Q I rx ry ⟨_, _, _, rfl, rfl, hz, e, p.ok hr _ rfl⟩ hs
      · exact p.elim
    · exact p.elim
  · split at p
    · rename_i xs hk
      obtain ⟨l, rfl, l1, ys, hl, r1⟩ := hr.ref hk va
      split at p
      · split at p
        · rename_i w e
          cases vb
          obtain ⟨z, e1, r2⟩ := atI_pr r1 e
          exact ix_list value slice pins s σ H _ _ v u Q I rx ry ⟨_, _, _, _, rfl, rfl, SqL.of hl, e1, p.ok hr _ r2⟩ hs
        · exact p.elim
      · exact p.elim
    · rename_i xs hk
      obtain ⟨l, rfl, l1, ys, hl, r1⟩ := hr.ref hk va
      split at p
      · split at p
        · rename_i w e
          cases vb
          obtain ⟨z, e1, r2⟩ := atI_pr r1 e
          exact ix_tup value slice pins s σ H _ _ v u Q I rx ry ⟨_, _, _, _, rfl, rfl, SqT.of hl, e1, p.ok hr _ r2⟩ hs
        · exact p.elim
      · exact p.elim
    · rename_i xs hk
      obtain ⟨l, rfl, l1, ys, hl, r1⟩ := hr.ref hk va
      split at p
      · rename_i kk hkk
        split at p
        · rename_i w e
          have := key_vr hkk vb
          subst this
          obtain ⟨z, e1, r2⟩ := (kr_get (k := kk) r1).1 w e
          obtain rfl : v = Value.ref l := rx
          have gd : DGet H l (kV kk) (some z) := by rw [← e1]; exact DGet.k hl
          exact tail_any (dict_typeIs I gd) PySem.F.slot_dict_getitem.lookup (d_getItem (by omega) I gd ry fun w' s3 I3 rw' => ⟨z, H, I3, rw', p.ok hr _ r2⟩) hs
        · exact p.elim
      · exact p.elim
    · exact p.elim
  · exact p.elim
variable (O : Ok X t W)
include O
theorem e_idx (hS : g.scr = t.S) (ha : PE X a (tE t W (den g ma))) (hb : PE X b (tE t W (den g mb))) (hs : PlainIx b := by exact fun _ _ => rfl) : PE X (.Subscript a b pos) (tE t W (den g (.idx ma mb))) :=
  PEi (pe_ix (ix_V O.hK hS O.hu) ha hb hs) fun σ H Q q => two O (f := idxV g) (by unfold tE den at q; exact q) fun ρ h H x y u v hr ru rv p => ⟨ρ, h, x, y, hr, ru, rv, p.nox (nox_idx _ _ _ _)⟩
omit O in
theorem sl_V (hK : t.K = X.K) : SlR X (fun x l u H Q => ∃ ρ h a, HR t ρ h H ∧ VR t ρ a x ∧ Post t ρ H (slcV a l u h) (KV1 t Q) E0') := by
  intro pins s σ H x v vl vu lo hi sl Q I rx hs pl pu ⟨ρ, h, a, hr, va, p⟩
  unfold slcV at p
  split at p
  · split at p
    · cases va
      exact sl_str pins s σ H _ v vl vu lo hi sl Q I rx hs pl pu ⟨_, rfl, by assumption, p.ok hr _ rfl⟩
    · exact p.elim
  · split at p
    · rename_i xs hk
      obtain ⟨l, rfl, l1, ys, hl, r1⟩ := hr.ref hk va
      refine sl_list pins s σ H _ v vl vu lo hi sl Q I rx hs pl pu ⟨_, _, rfl, SqL.of hl, fun q hq => ?_⟩
      have rr := pr_take (HT.sIx xs.length xs.length hi - HT.sIx xs.length 0 lo) (pr_drop (HT.sIx xs.length 0 lo) r1)
      have := Post.new hr p hq (or_lst rr) _ (VR.new hr)
      unfold cutV
      rw [← r1.length]
      exact this
    · rename_i xs hk
      obtain ⟨l, rfl, l1, ys, hl, r1⟩ := hr.ref hk va
      refine sl_tupA pins s σ H _ v vl vu lo hi sl Q I rx hs pl pu ⟨_, _, rfl, SqT.of hl, fun hw => ?_, fun hw q hq => ?_⟩
      · rw [← r1.length] at hw
        rw [if_pos hw] at p
        exact p.ok hr _ va
      · rw [← r1.length] at hw
        rw [if_neg hw] at p
        have rr := pr_take (HT.sIx xs.length xs.length hi - HT.sIx xs.length 0 lo) (pr_drop (HT.sIx xs.length 0 lo) r1)
        have := Post.new hr p hq (or_tup rr) _ (VR.new hr)
        unfold cutV
        rw [← r1.length]
        exact this
    · exact p.elim
  · exact p.elim
theorem o_none : PO X none (tO t W (deno g .none)) := POi po_none fun σ H Q ⟨ρ, h, s, hr, sr, p⟩ => Post.ok hr p
theorem o_some (ha : PE X a (tE t W (den g ma))) : PO X (some a) (tO t W (deno g (.some ma))) := by
  refine POi (po_some ha) fun σ H Q ⟨ρ, h, s, hr, sr, p⟩ => ?_
  unfold deno at p
  refine ⟨ρ, h, s, hr, sr, (Post.bind p).imp fun x h1 ρ1 H1 e1 x1 p1 u ru => ?_⟩
  unfold intO at p1
  split at p1
  · cases ru
    exact ⟨_, rfl, p1.ok x1⟩
  · exact p1.elim
theorem e_slc {l u : Option Expr} {ml mu : Exo} {p2 : Pos} (ha : PE X a (tE t W (den g ma))) (hl : PO X l (tO t W (deno g ml))) (hu : PO X u (tO t W (deno g mu))) : PE X (.Subscript a (.Slice l u none p2) pos) (tE t W (den g (.slc ma ml mu))) := by
  refine PEi (pe_slice (sl_V O.hK) ha hl hu) fun σ H Q ⟨ρ, h, s, hr, sr, p⟩ => ?_
  unfold den at p
  exact ⟨ρ, h, s, hr, sr, (Post.bind p).imp fun x h1 ρ1 H1 e1 x1 p1 y ry => ⟨ρ1, h1, s, x1, SR.ext e1 sr, (Post.bind p1).imp fun i h2 ρ2 H2 e2 x2 p2 => ⟨ρ2, h2, s, x2, SR.ext (e1.trans e2) sr, (Post.bind p2).imp fun j h3 ρ3 H3 e3 x3 p3 =>
    ⟨ρ3, h3, x, x3, (ry.ext e2).ext e3, p3.nox (nox_slc _ _ _ _)⟩⟩⟩⟩

omit O in
theorem pr_rev {α β : Type} {F : α → β → Prop} : ∀ {xs : List α} {ys : List β}, Paired F xs ys → Paired F xs.reverse ys.reverse
  | _, _, .nil => .nil
  | _, _, .cons r t => by
    rw [List.reverse_cons, List.reverse_cons]
    exact pr_append (pr_rev t) (.cons r .nil)
theorem e_rev {k : Nat} {p1 p2 p3 : Pos} (ha : PE X a (tE t W (den g ma))) : PE X (.Subscript a (.Slice none none (some (.UnaryOp .USub (.Constant (.int 1) k p1) p2)) p3) pos) (tE t W (den g (.rev ma))) := by
  refine PEi (pe_revL ha) fun σ H Q ⟨ρ, h, s, hr, sr, p⟩ => ?_
  unfold den at p
  refine ⟨ρ, h, s, hr, sr, (Post.bind p).imp fun x h1 ρ1 H1 e1 x1 p1 y ry => ?_⟩
  unfold revV at p1
  split at p1
  · rename_i xs e
    obtain ⟨l, ys, rfl, hl, rr⟩ := lst_of x1 ry e
    exact ⟨l, ys, rfl, .of hl, fun q hq => p1 _ _ (Ext.new x1 hq) (x1.new hq (or_lst (pr_rev rr))) _ (VR.new x1)⟩
  · exact p1.elim

/-! ## built-in functions -/
omit O
def rCl (t : Th) (f : List Val → Heap → Res Val) : List V → Hp → VK → Prop := fun xs H Q => ∃ ρ h vs, HR t ρ h H ∧ VRs t ρ vs xs ∧ Post t ρ H (f vs h) (KV1 t Q) E0'
theorem vrs1 {ρ : List Addr} {v : Val} {ys : List V} (r : VRs t ρ [v] ys) : ∃ y, ys = [y] ∧ VR t ρ v y := by
  cases r with
  | cons r rs => cases rs; exact ⟨_, rfl, r⟩
theorem vrs2 {ρ : List Addr} {v w : Val} {ys : List V} (r : VRs t ρ [v, w] ys) : ∃ y z, ys = [y, z] ∧ VR t ρ v y ∧ VR t ρ w z := by
  cases r with
  | cons r rs =>
    obtain ⟨z, rfl, r2⟩ := vrs1 rs
    exact ⟨_, z, rfl, r, r2⟩
theorem cl_len (hK : t.K = X.K) (hS : g.scr = t.S) : CallR X (.builtin "len") (rCl t (pri g .len)) := by
  intro pins s σ H xs us Q I r ⟨ρ, h, vs, hr, rv, p⟩
  unfold pri at p
  dsimp only at p
  split at p
  · rename_i x
    obtain ⟨y, rfl, ry⟩ := vrs1 rv
    split at p
    · rename_i n e
      unfold lenV at e
      split at e
      · cases e; cases ry
        exact call_len_seq pins s σ H _ us Q I r ⟨_, _, rfl, .inl (hK ▸ hr.sc.sq), by rw [List.length_map, ← hS]; exact p.ok hr _ rfl⟩
      · split at e
        · cases e; cases ry
          exact call_len_str pins s σ H _ us Q I r ⟨_, rfl, by assumption, p.ok hr _ rfl⟩
        · cases e
      · split at e
        · rename_i zs hk
          cases e
          obtain ⟨l, rfl, l1, ys, hl, r1⟩ := hr.ref hk ry
          exact call_len_seq pins s σ H _ us Q I r ⟨_, _, rfl, .inl (SqL.of hl), by rw [← r1.length]; exact p.ok hr _ rfl⟩
        · rename_i zs hk
          cases e
          obtain ⟨l, rfl, l1, ys, hl, r1⟩ := hr.ref hk ry
          exact call_len_seq pins s σ H _ us Q I r ⟨_, _, rfl, .inr (SqT.of hl), by rw [← r1.length]; exact p.ok hr _ rfl⟩
        · rename_i zs hk
          cases e
          obtain ⟨l, rfl, l1, ys, hl, r1⟩ := hr.ref hk ry
          exact call_lenD pins s σ H _ us Q I r ⟨_, _, rfl, hl, by rw [← Paired.length r1]; exact p.ok hr _ rfl⟩
        · cases e
      · cases e
    · exact p.elim
  · exact p.elim
theorem reads_ints {h : PySem.Heap} : ∀ {ns : List Int} {vs : List Value}, Vals (ns.map V.int) vs → ReadsAll h vs (ns.map PyData.int) []
  | [], _, .nil => .nil
  | n :: ns, _, .cons ⟨k, e⟩ r => by subst e; exact .cons (.int n k) (reads_ints r)
theorem alike_ints (ns : List Int) : PySem.W.AlikeAll (ns.map PyData.int) := by
  refine ⟨fun x hx y hy => ?_, fun x hx => ?_⟩
  · obtain ⟨i, _, rfl⟩ := List.mem_map.mp hx
    obtain ⟨j, _, rfl⟩ := List.mem_map.mp hy
    rfl
  · obtain ⟨i, _, rfl⟩ := List.mem_map.mp hx
    exact nofun
theorem depth_ints : ∀ ns : List Int, PyData.depthAll (ns.map PyData.int) ≤ 1
  | [] => Nat.zero_le _
  | n :: ns => Nat.max_le.mpr ⟨by show (0:Nat) ≤ 1; decide, depth_ints ns⟩
theorem min_tup {pins : List (Addr × PySem.Obj)} {s : Shared} {σ : L2.St} {H : Hp} {a : Addr} {ns : List Int} {Q : VK} (hu : X.A.units + 150 < cLine) (hc : X.calm = true) (I : Inv X pins σ H s) (hs : SqT X.K H a (ns.map V.int)) (h0 : 0 < ns.length) (q : Q (.int (minL ns)) H) :
    wpAny (model X.prog X.w) X.A (PySem.call (.builtin "min") [.ref a]) (fun w s' => ∃ y H', Inv X pins σ H' s' ∧ RelV y w ∧ Q y H') X.xe s := by
  obtain ⟨its, rv, hl, _⟩ := I.tuple hs
  match ns, h0 with
  | n :: ns, _ =>
    have hd := depth_ints (n :: ns)
    refine PySem.W.min_tuple_data (I.ok.hd hc) hl (reads_ints (ns := n :: ns) (by simpa using rv)) (alike_ints (n :: ns)) (by show X.A.units + 1 + PyData.depthAll (List.map PyData.int (n :: ns)) < cLine; omega) fun i v h' tk bs _ r hk => ?_
    rw [PySem.W.minD_ints] at r
    cases r with
    | int _ k => exact ⟨.int _, H, I.kept hk, ⟨_, rfl⟩, by rw [show ns.foldl min n = minL (n :: ns) from by simp [minL]]; exact q⟩
theorem max_tup {pins : List (Addr × PySem.Obj)} {s : Shared} {σ : L2.St} {H : Hp} {a : Addr} {ns : List Int} {Q : VK} (hu : X.A.units + 150 < cLine) (hc : X.calm = true) (I : Inv X pins σ H s) (hs : SqT X.K H a (ns.map V.int)) (h0 : 0 < ns.length) (q : Q (.int (maxL ns)) H) :
    wpAny (model X.prog X.w) X.A (PySem.call (.builtin "max") [.ref a]) (fun w s' => ∃ y H', Inv X pins σ H' s' ∧ RelV y w ∧ Q y H') X.xe s := by
  obtain ⟨its, rv, hl, _⟩ := I.tuple hs
  match ns, h0 with
  | n :: ns, _ =>
    have hd := depth_ints (n :: ns)
    refine PySem.W.max_tuple_data (I.ok.hd hc) hl (reads_ints (ns := n :: ns) (by simpa using rv)) (alike_ints (n :: ns)) (by show X.A.units + 1 + PyData.depthAll (List.map PyData.int (n :: ns)) < cLine; omega) fun i v h' tk bs _ r hk => ?_
    rw [PySem.W.maxD_ints] at r
    cases r with
    | int _ k => exact ⟨.int _, H, I.kept hk, ⟨_, rfl⟩, by rw [show ns.foldl max n = maxL (n :: ns) from by simp [maxL]]; exact q⟩
theorem cl_max (hK : t.K = X.K) (hc : X.calm = true) (hu : X.A.units + 150 < cLine) : CallR X (.builtin "max") (rCl t (pri g .max)) := by
  intro pins s σ H xs us Q I r ⟨ρ, h, vs, hr, rv, p⟩
  unfold pri maxV at p
  dsimp only at p
  split at p
  · obtain ⟨y, z, rfl, ry, rz⟩ := vrs2 rv
    cases ry; cases rz
    exact call_max2 hc pins s σ H _ us Q I r ⟨_, _, rfl, p.ok hr _ rfl⟩
  · rename_i x
    obtain ⟨y, rfl, ry⟩ := vrs1 rv
    split at p
    · rename_i ns e
      obtain ⟨ws, e1, e2⟩ := Option.bind_eq_some_iff.mp e
      obtain ⟨l, ys, rfl, hl, r1⟩ := seq_of hr ry e1
      have := ints_vr r1 e2
      subst this
      split at p
      · rcases hl with hl | hl
        · exact cr_max hc pins s σ H _ us Q I r ⟨_, ns, rfl, SqL.of hl, by assumption, fun m h1 h2 => by rw [max_is h1 h2]; exact p.ok hr _ rfl⟩
        · rw [Vals.ref1 r]
          exact max_tup hu hc I (SqT.of hl) (by assumption) (p.ok hr _ rfl)
      · exact p.elim
    · exact p.elim
  · exact p.elim
theorem cl_min (hK : t.K = X.K) (hc : X.calm = true) (hu : X.A.units + 150 < cLine) : CallR X (.builtin "min") (rCl t (pri g .min)) := by
  intro pins s σ H xs us Q I r ⟨ρ, h, vs, hr, rv, p⟩
  unfold pri maxV at p
  dsimp only at p
  split at p
  · obtain ⟨y, z, rfl, ry, rz⟩ := vrs2 rv
    cases ry; cases rz
    exact call_min2 hc pins s σ H _ us Q I r ⟨_, _, rfl, p.ok hr _ rfl⟩
  · rename_i x
    obtain ⟨y, rfl, ry⟩ := vrs1 rv
    split at p
    · rename_i ns e
      obtain ⟨ws, e1, e2⟩ := Option.bind_eq_some_iff.mp e
      obtain ⟨l, ys, rfl, hl, r1⟩ := seq_of hr ry e1
      have := ints_vr r1 e2
      subst this
      split at p
      · rcases hl with hl | hl
        · exact cr_min hc pins s σ H _ us Q I r ⟨_, ns, rfl, SqL.of hl, by assumption, fun m h1 h2 => by rw [min_is h1 h2]; exact p.ok hr _ rfl⟩
        · rw [Vals.ref1 r]
          exact min_tup hu hc I (SqT.of hl) (by assumption) (p.ok hr _ rfl)
      · exact p.elim
    · exact p.elim
  · exact p.elim
theorem sum_tup {pins : List (Addr × Obj)} {s : Shared} {σ : L2.St} {H : Hp} {a : Addr} {ns : List Int} {Q : VK} (hc : X.calm = true) (I : Inv X pins σ H s) (hs : SqT X.K H a (ns.map V.int)) (q : Q (.int ns.sum) H) :
    wpAny (model X.prog X.w) X.A (PySem.call (.builtin "sum") [.ref a]) (fun w s' => ∃ y H', Inv X pins σ H' s' ∧ RelV y w ∧ Q y H') X.xe s := by
  obtain ⟨its, rv, hl, _⟩ := I.tuple hs
  have hi := rv.ints
  obtain ⟨xs, e⟩ := hi.allInts.items
  have hn : numsOf (PySem.intItems xs).toList = ns := by rw [← e]; exact hi.numsOf
  rw [nums_intItems] at hn
  rw [e] at hl
  have hh := I.ok.hd hc
  refine PySem.call_sum_walkG (PySem.W.iter_tupleW (A := X.A.in1) hh (show s.heap.IsTuple a (PySem.intItems xs) from hl) fun s₂ es W st hfp hnew hold => ?_)
  have hlt : a < s.heap.objs.size := by obtain ⟨_, e, _⟩ := hl; exact Heap.lt_size e
  subst es
  refine ⟨_, _, _, _, _, _, numAt xs, rfl, Walks.tuple (A := X.A.in1) hh _ a (Nat.ne_of_lt hlt) (PySem.intItems xs), st, hfp, (fun _ _ => intItems_at), fun h' tk t' hk => ?_⟩
  refine ⟨.int ns.sum, H, I.kept (t' := tk) fun b o eb => hk b o (hnew b o eb) (hold b o eb), ⟨t', ?_⟩, q⟩
  rw [preSum_eq, List.take_of_length_le (by simp [PySem.intItems]), hn]
theorem cl_sum (hK : t.K = X.K) (hc : X.calm = true) : CallR X (.builtin "sum") (rCl t (pri g .sum)) := by
  intro pins s σ H xs us Q I r ⟨ρ, h, vs, hr, rv, p⟩
  unfold pri at p
  dsimp only at p
  split at p
  · rename_i x
    obtain ⟨y, rfl, ry⟩ := vrs1 rv
    split at p
    · rename_i ns e
      obtain ⟨ws, e1, e2⟩ := Option.bind_eq_some_iff.mp e
      obtain ⟨l, ys, rfl, hl, r1⟩ := seq_of hr ry e1
      have := ints_vr r1 e2
      subst this
      rcases hl with hl | hl
      · exact cr_sum hc pins s σ H _ us Q I r ⟨_, ns, rfl, SqL.of hl, p.ok hr _ rfl⟩
      · rw [Vals.ref1 r]
        exact sum_tup hc I (SqT.of hl) (p.ok hr _ rfl)
    · exact p.elim
  · exact p.elim
theorem cl_all (hK : t.K = X.K) (hc : X.calm = true) : CallR X (.builtin "all") (rCl t (pri g .all)) := by
  intro pins s σ H xs us Q I r ⟨ρ, h, vs, hr, rv, p⟩
  unfold pri at p
  dsimp only at p
  split at p
  · rename_i x
    obtain ⟨y, rfl, ry⟩ := vrs1 rv
    split at p
    · rename_i ns e
      obtain ⟨ws, e1, e2⟩ := Option.bind_eq_some_iff.mp e
      obtain ⟨l, ys, rfl, hl, r1⟩ := lst_of hr ry e1
      have := bls_vr r1 e2
      subst this
      exact cr_all hc pins s σ H _ us Q I r ⟨_, ns, rfl, SqL.of hl, p.ok hr _ rfl⟩
    · exact p.elim
  · exact p.elim
theorem cl_any (hK : t.K = X.K) (hc : X.calm = true) : CallR X (.builtin "any") (rCl t (pri g .any)) := by
  intro pins s σ H xs us Q I r ⟨ρ, h, vs, hr, rv, p⟩
  unfold pri at p
  dsimp only at p
  split at p
  · rename_i x
    obtain ⟨y, rfl, ry⟩ := vrs1 rv
    split at p
    · rename_i ns e
      obtain ⟨ws, e1, e2⟩ := Option.bind_eq_some_iff.mp e
      obtain ⟨l, ys, rfl, hl, r1⟩ := lst_of hr ry e1
      have := bls_vr r1 e2
      subst this
      exact cr_any hc pins s σ H _ us Q I r ⟨_, ns, rfl, SqL.of hl, p.ok hr _ rfl⟩
    · exact p.elim
  · exact p.elim
theorem cl_int : CallR X (.type "int") (rCl t (pri g .int)) := by
  intro pins s σ H xs us Q I r ⟨ρ, h, vs, hr, rv, p⟩
  unfold pri at p
  dsimp only at p
  split at p
  · obtain ⟨y, rfl, ry⟩ := vrs1 rv
    cases ry
    exact call_int1 pins s σ H _ us Q I r (.inl ⟨_, rfl, p.ok hr _ rfl⟩)
  · obtain ⟨y, rfl, ry⟩ := vrs1 rv
    cases ry
    exact call_int1 pins s σ H _ us Q I r (.inr ⟨_, rfl, p.ok hr _ rfl⟩)
  · obtain ⟨y, rfl, ry⟩ := vrs1 rv
    cases ry
    split at p
    · rename_i n e
      split at p
      · exact call_int_str pins s σ H _ us Q I r ⟨_, _, rfl, e, by assumption, p.ok hr _ rfl⟩
      · exact p.elim
    · exact p.elim
  · exact p.elim
theorem call_strS : CallR X (.type "str") (fun xs H Q => ∃ a, xs = [.str a] ∧ Q (.str a) H) := by
  intro pins s σ H xs us Q I r ⟨a, ex, q⟩
  subst ex
  cases r with
  | cons r1 rs =>
    cases rs
    obtain ⟨t, rfl⟩ := r1
    exact PySem.P.str_of_str ⟨.str a, H, I, ⟨t, rfl⟩, q⟩
theorem cl_str : CallR X (.type "str") (rCl t (pri g .str)) := by
  intro pins s σ H xs us Q I r ⟨ρ, h, vs, hr, rv, p⟩
  unfold pri at p
  dsimp only at p
  split at p
  · obtain ⟨y, rfl, ry⟩ := vrs1 rv
    cases ry
    split at p
    · exact call_str_int pins s σ H _ us Q I r ⟨_, rfl, by assumption, p.ok hr _ rfl⟩
    · exact p.elim
  · obtain ⟨y, rfl, ry⟩ := vrs1 rv
    cases ry
    exact call_strS pins s σ H _ us Q I r ⟨_, rfl, p.ok hr _ rfl⟩
  · exact p.elim
theorem cl_bool : CallR X (.type "bool") (rCl t (pri g .bool)) := by
  intro pins s σ H xs us Q I r ⟨ρ, h, vs, hr, rv, p⟩
  unfold pri at p
  dsimp only at p
  split at p
  · obtain ⟨y, rfl, ry⟩ := vrs1 rv
    cases ry
    exact call_bool1 pins s σ H _ us Q I r (.inl ⟨_, rfl, p.ok hr _ rfl⟩)
  · obtain ⟨y, rfl, ry⟩ := vrs1 rv
    cases ry
    exact call_bool1 pins s σ H _ us Q I r (.inr ⟨_, rfl, p.ok hr _ rfl⟩)
  · exact p.elim
theorem cl_list (hK : t.K = X.K) : CallR X (.type "list") (rCl t (pri g .list)) := by
  intro pins s σ H xs us Q I r ⟨ρ, h, vs, hr, rv, p⟩
  unfold pri at p
  dsimp only at p
  split at p
  · rename_i x
    obtain ⟨y, rfl, ry⟩ := vrs1 rv
    split at p
    · rename_i ws e
      obtain ⟨l, ys, rfl, hl, r1⟩ := seq_of hr ry e
      exact call_list_of pins s σ H _ us Q I r ⟨l, ys, rfl, hl.imp SqL.of SqT.of, fun q hq => Post.new hr p hq (or_lst r1) _ (VR.new hr)⟩
    · exact p.elim
  · exact p.elim
theorem cl_tuple (hK : t.K = X.K) : CallR X (.type "tuple") (rCl t (pri g .tuple)) := by
  intro pins s σ H xs us Q I r ⟨ρ, h, vs, hr, rv, p⟩
  unfold pri at p
  dsimp only at p
  split at p
  · rename_i x
    obtain ⟨y, rfl, ry⟩ := vrs1 rv
    split at p
    · split at p
      · rename_i zs hk
        obtain ⟨l, rfl, l1, ys, hl, r1⟩ := hr.ref hk ry
        exact call_tuple_of pins s σ H _ us Q I r ⟨l, ys, rfl, .inl ⟨SqL.of hl, fun q hq => Post.new hr p hq (or_tup r1) _ (VR.new hr)⟩⟩
      · rename_i zs hk
        obtain ⟨l, rfl, l1, ys, hl, r1⟩ := hr.ref hk ry
        exact call_tuple_of pins s σ H _ us Q I r ⟨l, ys, rfl, .inr ⟨SqT.of hl, p.ok hr _ ry⟩⟩
      · exact p.elim
    · exact p.elim
  · exact p.elim
theorem kitB_is {a b : String} (ha : a = "NoneType" ∨ a = "bool" ∨ a = "int" ∨ a = "str" ∨ a = "list" ∨ a = "tuple" ∨ a = "dict") (hb : okTy b = true) : kitB a b = some (isTy a b) := by
  have hb : b = "int" ∨ b = "bool" ∨ b = "str" ∨ b = "list" ∨ b = "tuple" ∨ b = "dict" := by
    unfold okTy at hb
    simpa only [Bool.or_eq_true, beq_iff_eq, or_assoc] using hb
  rcases ha with rfl | rfl | rfl | rfl | rfl | rfl | rfl <;> rcases hb with rfl | rfl | rfl | rfl | rfl | rfl <;> decide +kernel
theorem ty_of {ρ : List Addr} {h : Heap} {H : Hp} {v : Val} {y : V} {s : String} (x : HR t ρ h H) (r : VR t ρ v y) (e : tyO h v = some s) : TyX t.K H y (.type s) ∧ (s = "NoneType" ∨ s = "bool" ∨ s = "int" ∨ s = "str" ∨ s = "list" ∨ s = "tuple" ∨ s = "dict") := by
  unfold tyO at e
  split at e
  · cases e; cases r; exact ⟨.base .non, by simp⟩
  · cases e; cases r; exact ⟨.base (.bl _), by simp⟩
  · cases e; cases r; exact ⟨.base (.int _), by simp⟩
  · cases e; cases r; exact ⟨.base (.str _), by simp⟩
  · split at e
    · rename_i zs hk
      obtain ⟨l, rfl, l1, ys, hl, r1⟩ := x.ref hk r
      cases e; exact ⟨.base (.lst hl), by simp⟩
    · rename_i zs hk
      obtain ⟨l, rfl, l1, ys, hl, r1⟩ := x.ref hk r
      cases e; exact ⟨.base (.tup hl), by simp⟩
    · rename_i zs hk
      obtain ⟨l, rfl, l1, ys, hl, r1⟩ := x.ref hk r
      cases e; exact ⟨.base (.dK hl), by simp⟩
    · cases e
  · cases e
theorem tys_of {K : PySem.W.Frag} {ρ : List Addr} {s : String} (hs : s = "NoneType" ∨ s = "bool" ∨ s = "int" ∨ s = "str" ∨ s = "list" ∨ s = "tuple" ∨ s = "dict") : ∀ {ts : List Val} {ys : List V} {us : List String}, VRs t ρ ts ys → tysO ts = some us →
    Paired ClsV ys (us.map Value.type) ∧ PySem.W.kitAny K (.type s) (us.map Value.type) = some (us.any (isTy s))
  | _, _, _, .nil, e => by cases e; exact ⟨.nil, rfl⟩
  | x :: xs, y :: ys, us, .cons r rs, e => by
    cases x with
    | ty i =>
      unfold tysO at e
      split at e
      · rename_i hi
        obtain ⟨vs, e1, rfl⟩ := Option.map_eq_some_iff.mp e
        obtain ⟨h1, h2⟩ := tys_of (K := K) hs rs e1
        cases r
        refine ⟨.cons (.ty i) h1, ?_⟩
        rw [List.map_cons]
        refine kitAny_cons (kit_ty (kitB_is hs hi)) (fun hb => ?_) fun hb => ?_
        · rw [List.any_cons, hb]; simpa using h2
        · rw [List.any_cons, hb]; rfl
      · cases e
    | _ => simp [tysO] at e
theorem cl_isinst (hK : t.K = X.K) : CallR X (.builtin "isinstance") (rCl t (pri g .isinst)) := by
  intro pins s σ H xs us Q I r ⟨ρ, h, vs, hr, rv, p⟩
  unfold pri at p
  dsimp only at p
  split at p
  · obtain ⟨y, z, rfl, ry, rz⟩ := vrs2 rv
    cases rz
    split at p
    · rename_i ss e
      split at p
      · rename_i ho
        obtain ⟨h1, h2⟩ := ty_of hr ry e
        exact call_isi pins s σ H _ us Q I r ⟨_, _, _, _, _, rfl, .ty _, hK ▸ h1, kit_ty (kitB_is h2 ho), p.ok hr _ rfl⟩
      · exact p.elim
    · exact p.elim
  · obtain ⟨y, z, rfl, ry, rz⟩ := vrs2 rv
    split at p
    · rename_i ss ts e hk
      split at p
      · rename_i ws ew
        obtain ⟨l, rfl, l1, ys, hl, r1⟩ := hr.ref hk rz
        obtain ⟨h1, h2⟩ := ty_of hr ry e
        obtain ⟨h3, h4⟩ := tys_of (K := X.K) h2 r1 ew
        exact call_isiT pins s σ H _ us Q I r ⟨_, _, _, _, _, _, rfl, hl, h3, hK ▸ h1, h4, p.ok hr _ rfl⟩
      · exact p.elim
    · exact p.elim
  · exact p.elim
theorem shown_str {x : Str} : PyData.shown (.str x) = reprText x := by simp [PyData.shown]
theorem key_reads {k : Key} {v : Value} {h : PySem.Heap} (hk : keyIs k v = true) : Reads h v (keyD k) [] := by
  rcases keyIs_shape hk with ⟨i, tk, rfl, rfl⟩ | ⟨x, tk, rfl, rfl⟩
  · exact .int i tk
  · exact .str x tk
/-- the data that a value is, read in the heap; dicts too -/
theorem rd_reads {pins : List (Addr × PySem.Obj)} {σ : L2.St} {H : Hp} {s : Shared} {ρ : List Addr} {h : Heap} (I : Inv X pins σ H s) (hr : HR t ρ h H) (hsm : H sysModules = none) :
    ∀ (n : Nat) (v : Val) (y : V) (d : PyData) (u : Value), rd n h v = some d → VR t ρ v y → RelV y u → ∃ as, Reads s.heap u d as ∧ sysModules ∉ as
  | n, .non, y, d, u, e, r, ru => by cases n <;> (cases e; cases r; cases ru; exact ⟨_, .none, by simp⟩)
  | n, .bl b, y, d, u, e, r, ru => by cases n <;> (cases e; cases r; cases ru; exact ⟨_, .bool _, by simp⟩)
  | n, .int i, y, d, u, e, r, ru => by cases n <;> (cases e; cases r; obtain ⟨tk, rfl⟩ := ru; exact ⟨_, .int _ _, by simp⟩)
  | n, .str z, y, d, u, e, r, ru => by cases n <;> (cases e; cases r; obtain ⟨tk, rfl⟩ := ru; exact ⟨_, .str _ _, by simp⟩)
  | 0, .ref k, y, d, u, e, _, _ => by cases e
  | n + 1, .ref k, y, d, u, e, r, ru => by
    have all : ∀ {xs : List Val} {ys : List V} {us : List Value} {ds : List PyData}, mapO (rd n h) xs = some ds → VRs t ρ xs ys → Vals ys us → ∃ as, ReadsAll s.heap us ds as ∧ sysModules ∉ as := by
      intro xs
      induction xs with
      | nil =>
        intro ys us ds e r ru
        cases e; cases r; cases ru
        exact ⟨_, .nil, by simp⟩
      | cons x xs ih =>
        intro ys us ds e r ru
        obtain ⟨z, zs, e1, e2, rfl⟩ := mapO_cons e
        cases r with
        | cons r rs =>
          cases ru with
          | cons q qs =>
            obtain ⟨as, h1, h2⟩ := rd_reads I hr hsm n _ _ _ _ e1 r q
            obtain ⟨bs, h3, h4⟩ := ih e2 rs qs
            exact ⟨_, .cons h1 h3, by simp [h2, h4]⟩
    have kvs : ∀ {xs : List (Key × Val)} {ys : List (Key × V)} {vs : List (Key × Value)} {es : List DictEntry} {ds : List (PyData × PyData)}, mapO (fun p : Key × Val => (rd n h p.2).map fun d => (keyD p.1, d)) xs = some ds → KRs t ρ xs ys → KV ys vs → Pairs (mixKind X.prog X.w) es vs →
        (∃ as, ReadsAll s.heap (es.map (·.key)) (ds.map (·.1)) as ∧ sysModules ∉ as) ∧ ∃ as, ReadsAll s.heap (es.map (·.val)) (ds.map (·.2)) as ∧ sysModules ∉ as := by
      intro xs
      induction xs with
      | nil =>
        intro ys vs es ds e r q ps
        cases e; cases r; cases q; cases ps
        exact ⟨⟨_, .nil, by simp⟩, _, .nil, by simp⟩
      | cons x xs ih =>
        intro ys vs es ds e r q ps
        obtain ⟨z, zs, e1, e2, rfl⟩ := mapO_cons e
        obtain ⟨d1, e3, rfl⟩ := Option.map_eq_some_iff.mp e1
        cases r with
        | cons r rs =>
          cases q with
          | cons q qs =>
            cases ps with
            | cons p1 p2 ps =>
              obtain ⟨⟨as, h1, h2⟩, bs, h3, h4⟩ := ih e2 rs qs ps
              obtain ⟨cs, h5, h6⟩ := rd_reads I hr hsm n _ _ _ _ e3 r.2 q.2
              have kk := key_reads (h := s.heap) (show keyIs _ _ = true from p1)
              rw [← q.1, ← r.1] at kk
              rw [← p2] at h5
              exact ⟨⟨_, .cons kk h1, by simpa using h2⟩, _, .cons h5 h3, by simp [h6, h4]⟩
    have ne : ∀ {a : Addr} {o : HO}, H a = some o → sysModules ≠ a := fun {a o} z q => by
      rw [← q, hsm] at z
      cases z
    unfold rd at e
    split at e
    · rename_i xs hk
      obtain ⟨ds, e1, rfl⟩ := Option.map_eq_some_iff.mp e
      obtain ⟨a, rfl, _, ys, hy, rr⟩ := hr.ref hk r
      cases ru
      obtain ⟨its, rv, ⟨o, m, ho, hc, _, hd⟩, _⟩ := I.list (.of hy)
      obtain ⟨as, h1, h2⟩ := all e1 rr rv
      exact ⟨_, .list ho hc hd h1, by simp [h2, ne hy]⟩
    · rename_i xs hk
      obtain ⟨ds, e1, rfl⟩ := Option.map_eq_some_iff.mp e
      obtain ⟨a, rfl, _, ys, hy, rr⟩ := hr.ref hk r
      cases ru
      obtain ⟨its, rv, ⟨o, ho, hc, m, hd⟩, _⟩ := I.tuple (.of hy)
      obtain ⟨as, h1, h2⟩ := all e1 rr rv
      exact ⟨_, .tuple ho hc hd h1, h2⟩
    · rename_i xs hk
      obtain ⟨ds, e1, rfl⟩ := Option.map_eq_some_iff.mp e
      obtain ⟨a, rfl, _, ys, hy, rr⟩ := hr.ref hk r
      cases ru
      obtain ⟨_, _, vs, kv, o, es, ep, ho, hx, hd, _, ps, _⟩ := dk_of I.hok hy
      obtain ⟨⟨as, h1, h2⟩, bs, h3, h4⟩ := kvs e1 rr kv ps
      exact ⟨_, .dict ho hx.1 hd h1 h3, by simp [h2, h4, ne hy]⟩
    · cases e
  | n, .ty s, y, d, _, e, r, _ => by cases n <;> cases e
  | n, .glo s, y, d, _, e, r, _ => by cases n <;> cases e
  | n, .scr, y, d, _, e, r, _ => by cases n <;> cases e
/-- repr of data -/
theorem cl_repr (hK : t.K = X.K) (hu : X.A.units + 150 < cLine) (hg : X.A.guards = some []) (sm : ∃ mm, X.base.Ns sysModules mm) : CallR X (.builtin "repr") (rCl t (pri g .repr)) := by
  intro pins s σ H xs us Q I r ⟨ρ, h, vs, hr, rv, p⟩
  obtain ⟨mm, om, _, _, hom, _⟩ := sm
  have hsm := (I.bs _ _ hom).2
  unfold pri at p
  dsimp only at p
  split at p
  · rename_i x
    obtain ⟨y, rfl, ry⟩ := vrs1 rv
    split at p
    · rename_i d e
      split at p
      · rename_i hc
        obtain ⟨h2, h3, h4⟩ := hc
        have q := p.ok hr _ (show VR t ρ (.str d.shown) (.str d.shown) from rfl)
        cases r with
        | @cons _ u0 _ _ r1 rs =>
          cases rs
          obtain ⟨as, rr, hno⟩ := rd_reads I hr hsm _ _ _ _ _ e ry r1
          cases x with
          | non =>
            cases e; cases ry; cases r1
            simp only [PyData.shown] at q
            exact PySem.P.repr_of_none ⟨.str _, H, I.tok _, ⟨_, rfl⟩, q⟩
          | bl b =>
            cases e; cases ry; cases r1
            simp only [PyData.shown] at q
            exact PySem.P.repr_of_bool ⟨.str _, H, I.tok _, ⟨_, rfl⟩, q⟩
          | int i =>
            cases e; cases ry
            obtain ⟨tk, rfl⟩ := r1
            simp only [PyData.shown] at q
            exact PySem.P.repr_of_int (by simpa [PyData.showable] using h2) ⟨.str _, H, I.tok _, ⟨_, rfl⟩, q⟩
          | str z =>
            cases e; cases ry
            obtain ⟨tk, rfl⟩ := r1
            simp only [PyData.shown] at q h4
            exact PySem.P.repr_of_str ⟨.str _, H, I.tok _, ⟨_, rfl⟩, q⟩ h4
          | ref k =>
            obtain ⟨a, _, rfl⟩ := ry
            cases r1
            exact PySem.repr_of_reads' rr h2 (fun _ => hno) hg (by omega) (fun _ _ z => z) (fun h' u tk hk => ⟨.str _, H, I.kept hk, ⟨_, rfl⟩, q⟩) h4
          | ty _ => cases e
          | glo _ => cases e
          | scr => cases e
      · exact p.elim
    · exact p.elim
  · exact p.elim
theorem e_pri {p : Pr} {x : Str} {id : String} {q : Pos} (O : Ok X t W) (hc : CallR X (.builtin id) (rCl t (pri g p))) (hv : bootBuiltins x = some (.builtin id)) (hm : X.mg x = none) (ha : PA X (e :: es) (tA t W (dens g ms))) (hg : Gl X x := by rfl)
    (hn : x ≠ "__name__" := by decide) (hdb : (x == ("__debug__" : Str)) = false := by decide) (he : starEach (e :: es) X.env = (false, eval e X.env) :: starEach es X.env := by rfl) (hpl : (backTo pos (starEach es X.env)).any (·.1) = false := by rfl) :
    PE X (.Call (.Name x q) (e :: es) [] pos) (tE t W (den g (.pri p ms))) := by
  refine PEi (pe_callB hc hg hm hv ha hn hdb he hpl) fun σ H Q ⟨ρ, h, s, hr, sr, p⟩ => ?_
  unfold den at p
  exact ⟨ρ, h, s, hr, sr, (Post.bind p).imp fun x h1 ρ1 H1 e1 x1 p1 u ru => ⟨ρ1, h1, x, x1, ru, p1.nox (nox_pri _ _ _ _)⟩⟩
theorem e_prt {p : Pr} {x : Str} {id : String} {q : Pos} (O : Ok X t W) (hc : CallR X (.type id) (rCl t (pri g p))) (hv : bootBuiltins x = some (.type id)) (hm : X.mg x = none) (ha : PA X (e :: es) (tA t W (dens g ms))) (hg : Gl X x := by rfl)
    (hn : x ≠ "__name__" := by decide) (hdb : (x == ("__debug__" : Str)) = false := by decide) (he : starEach (e :: es) X.env = (false, eval e X.env) :: starEach es X.env := by rfl) (hpl : (backTo pos (starEach es X.env)).any (·.1) = false := by rfl) :
    PE X (.Call (.Name x q) (e :: es) [] pos) (tE t W (den g (.pri p ms))) := by
  refine PEi (pe_callTy hc hg hm hv ha hn hdb he hpl) fun σ H Q ⟨ρ, h, s, hr, sr, p⟩ => ?_
  unfold den at p
  exact ⟨ρ, h, s, hr, sr, (Post.bind p).imp fun x h1 ρ1 H1 e1 x1 p1 u ru => ⟨ρ1, h1, x, x1, ru, p1.nox (nox_pri _ _ _ _)⟩⟩
end
end Mi


/-! # Mi5Z: zip of two things of any kind, at the library's level -/
namespace Mi
open PySem PySem.Spec PyProof.Rows L2
/-- a list's or a tuple's walker; the thing itself -/
def AIt (t : Bool) (h : PySem.Heap) (i l : Addr) (k : Nat) : Prop := if t then h.IsTupleIter i l k else h.IsListIter i l k
def ASq (t : Bool) (h : PySem.Heap) (l : Addr) (xs : Array Value) : Prop := if t then h.IsTuple l xs else h.IsList l xs
section
variable {t : Bool} {h h' : PySem.Heap} {i l : Addr} {k : Nat} {xs : Array Value}
theorem AIt.ext {c : Addr} (x : AIt t h i l k) (s : PySem.Heap.ExtBut c h h') (n : i ≠ c) : AIt t h' i l k := by
  cases t
  · exact PySem.Heap.IsListIter.extBut x s n
  · exact PySem.Heap.IsTupleIter.extBut x s n
theorem ASq.ext {c : Addr} (x : ASq t h l xs) (s : PySem.Heap.ExtBut c h h') (n : l ≠ c) : ASq t h' l xs := by
  cases t
  · exact PySem.Heap.IsList.extBut x s n
  · exact PySem.Heap.IsTuple.extBut x s n
theorem AIt.obj (x : AIt t h i l k) : ∃ o, h.get? i = some o := by
  cases t
  · obtain ⟨o, e, _⟩ := x; exact ⟨o, e⟩
  · obtain ⟨o, e, _⟩ := x; exact ⟨o, e⟩
theorem AIt.to (x : AIt t h i l k) (f : ∀ o, h.get? i = some o → h'.get? i = some o) : AIt t h' i l k := by
  cases t
  · exact PySem.Heap.IsListIter.at x f
  · exact PySem.Heap.IsTupleIter.at x f
end
section
variable {prog : Program} {w : World} {A : Around} {E : Value → Shared → Prop} {s : Shared}
theorem next_any {t : Bool} {it l : Addr} {i : Nat} {items : Array Value} {x : Value} {Q : Value → Shared → Prop} (hit : AIt t s.heap it l i) (hl : ASq t s.heap l items) (hx : items[i]? = some x)
    (hQ : ∀ h', AIt t h' it l (i + 1) → PySem.Heap.SameBut it s.heap h' → Q x { s with heap := h' }) : wpAny (model prog w) A (Builtin.SmallTypes.nextOf (.ref it)) Q E s := by
  cases t
  · exact wpAny_nextOf_list_item hit hl hx hQ
  · exact RZ.nextOf_tuple_item hit hl hx hQ
theorem next_none {t : Bool} {it l : Addr} {i : Nat} {items : Array Value} {Q : Value → Shared → Prop} (hh : A.handled = none) (hit : AIt t s.heap it l i) (hl : ASq t s.heap l items) (hx : items[i]? = none)
    (hE : ∀ h' e, PySem.Heap.ExtBut it s.heap h' → (∃ o, h'.get? e = some o ∧ o.cls = .type "StopIteration") → E (.ref e) { s with heap := h' }) : wpAny (model prog w) A (Builtin.SmallTypes.nextOf (.ref it)) Q E s := by
  cases t
  · exact wpAny_nextOf_list_end hh hit hl hx hE
  · exact RZ.nextOf_tuple_end hh hit hl hx hE
theorem zipA_item {t u : Bool} {z TI TO i1 i2 l1 l2 : Addr} {k1 k2 : Nat} {xs ys : Array Value} {x y a b : Value} {Q : Value → Shared → Prop} (D : ZipApart z TI TO i1 i2 l1 l2) (hz : IsZip s.heap z TI TO .none) (hTI : IsPair s.heap TI (.ref i1) (.ref i2)) (hTO : IsPair s.heap TO a b)
    (h1 : AIt t s.heap i1 l1 k1) (h2 : AIt u s.heap i2 l2 k2) (q1 : ASq t s.heap l1 xs) (q2 : ASq u s.heap l2 ys) (hx : xs[k1]? = some x) (hy : ys[k2]? = some y)
    (hQ : ∀ h', IsZip h' z TI TO (rawInt s.heap.objs.size) → IsPair h' TO x y → AIt t h' i1 l1 (k1 + 1) → AIt u h' i2 l2 (k2 + 1) → IsPair h' s.heap.objs.size x y → h'.objs.size = s.heap.objs.size + 1 →
      (∀ c o, c ≠ z → c ≠ TO → c ≠ i1 → c ≠ i2 → s.heap.get? c = some o → h'.get? c = some o) → Q (.ref s.heap.objs.size) { s with heap := h' }) :
    wpAny (model prog w) A (Builtin.«zip.__next__» ⟨[.ref z], []⟩) (fun fin s' => ∃ v, fin = .done (.ret v) ∧ Q v s') E s := by
  show wpAny (model prog w) A (field (.ref z) 2 >>= _) _ E s
  refine wpAny_bind (wpAny_field hz rfl (x := .bool false) rfl ?_)
  show wpAny (model prog w) A (field (.ref z) 3 >>= _) _ E s
  refine wpAny_bind (wpAny_field hz rfl (x := .ref TI) rfl (wpAny_bind (wpAny_seqItems hTI rfl ?_)))
  show wpAny (model prog w) A (Builtin.SmallTypes.ownedTupleIsFree (.ref z) >>= _) _ E s
  (refine wpAny_bind ?_; unfold Builtin.SmallTypes.ownedTupleIsFree; refine wpAny_bind (wpAny_field hz rfl (x := .none) rfl (wpAny_pure ?_)))
  simp only [if_true]
  refine wpAny_bind (wpAny_rule (wpAny_bind (wpAny_field hz rfl (x := .ref TO) rfl (wpAny_bind (wpAny_setField_rec hz (by simp) fun g1 hz1 s1 => ?_)))))
  have hz1 : IsZip g1 z TI TO .ellipsis := hz1
  have r1 := s1.extBut
  refine wpAny_bind ?_
  simp only [List.zipIdx_cons, List.zipIdx_nil, List.forIn_cons, List.forIn_nil]
  refine wpAny_bind (wpAny_bind (wpAny_onRaise ?_))
  show wpAny (model prog w) _ (Builtin.SmallTypes.nextOf (.ref i1) >>= _) _ _ _
  refine wpAny_bind (next_any (h1.ext r1 D.i1z) (q1.ext r1 D.l1z) hx fun g2 w2 s2 => wpAny_pure ?_)
  have r2 := s2.extBut
  have p2 : IsPair g2 TO a b := r2 _ _ D.TOi1 (r1 _ _ D.TOz hTO)
  refine wpAny_bind (wpAny_seqItems p2 rfl (wpAny_bind (wpAny_updateSeq_pair p2 fun g3 p3 s3 => ?_)))
  have p3 : IsPair g3 TO x b := p3
  have r3 := s3.extBut
  refine wpAny_bind (wpAny_letGo (wpAny_pure (wpAny_bind (wpAny_bind (wpAny_onRaise ?_)))))
  show wpAny (model prog w) _ (Builtin.SmallTypes.nextOf (.ref i2) >>= _) _ _ _
  refine wpAny_bind (next_any (((h2.ext r1 D.i2z).ext r2 D.i12.symm).ext r3 D.TOi2.symm) (((q2.ext r1 D.l2z).ext r2 D.l2i1).ext r3 D.l2TO) hy fun g4 w4 s4 => wpAny_pure ?_)
  have r4 := s4.extBut
  have p4 : IsPair g4 TO x b := r4 _ _ D.TOi2 p3
  refine wpAny_bind (wpAny_seqItems p4 rfl (wpAny_bind (wpAny_updateSeq_pair p4 fun g5 p5 s5 => ?_)))
  have p5 : IsPair g5 TO x y := p5
  have r5 := s5.extBut
  refine wpAny_bind (wpAny_letGo (wpAny_pure (wpAny_pure (wpAny_bind (wpAny_seqItems p5 rfl (wpAny_bind (wpAny_newTuple ?_)))))))
  have e5 : g5.objs.size = s.heap.objs.size := by rw [s5.1, s4.1, s3.1, s2.1, s1.1]
  have hz5 : IsZip g5 z TI TO .ellipsis := r5 _ _ D.TOz.symm (r4 _ _ D.i2z.symm (r3 _ _ D.TOz.symm (r2 _ _ D.i1z.symm hz1)))
  have k5 : ∀ c o, c ≠ z → c ≠ TO → c ≠ i1 → c ≠ i2 → s.heap.get? c = some o → g5.get? c = some o := fun c o c1 c2 c3 c4 e => r5 _ _ c2 (r4 _ _ c4 (r3 _ _ c2 (r2 _ _ c3 (r1 _ _ c1 e))))
  have v1 : AIt t g5 i1 l1 (k1 + 1) := ((w2.ext r3 D.TOi1.symm).ext r4 D.i12).ext r5 D.TOi1.symm
  have v2 : AIt u g5 i2 l2 (k2 + 1) := w4.ext r5 D.TOi2.symm
  have zlt : z < g5.objs.size := PySem.Heap.lt_size hz5
  show wpAny (model prog w) _ (Builtin.SmallTypes.ownedTupleHandOut (.ref z) (.ref g5.objs.size) >>= _) _ _ _
  (refine wpAny_bind ?_; unfold Builtin.SmallTypes.ownedTupleHandOut)
  have hz6 : IsZip (g5.push { cls := .type "tuple", data := .seq #[x, y] }) z TI TO .ellipsis := PySem.Heap.get?_push_of_some _ hz5
  refine wpAny_bind (wpAny_setField_rec hz6 (by simp) fun g7 hz7 s7 => ?_)
  have hz7 : IsZip g7 z TI TO (rawInt g5.objs.size) := hz7
  refine wpAny_setField_rec hz7 (by simp) fun g8 hz8 s8 => ?_
  have hz8 : IsZip g8 z TI TO (rawInt g5.objs.size) := hz8
  have up : ∀ c o, c ≠ z → g5.get? c = some o → g8.get? c = some o := fun c o c1 e => s8.extBut _ _ c1 (s7.extBut _ _ c1 (PySem.Heap.get?_push_of_some _ e))
  have nz : g5.objs.size ≠ z := Nat.ne_of_gt zlt
  have pT : IsPair g8 g5.objs.size x y := s8.extBut _ _ nz (s7.extBut _ _ nz (PySem.Heap.get?_push_size _ rfl))
  have e8 : g8.objs.size = g5.objs.size + 1 := by rw [s8.1, s7.1, PySem.Heap.size_push]
  rw [e5] at hz8 pT e8
  refine wpAny_pure ⟨_, rfl, ?_⟩
  show Q (.ref g5.objs.size) _
  rw [e5]
  exact hQ g8 hz8 (up _ _ D.TOz p5) (v1.to fun o e => up _ o D.i1z e) (v2.to fun o e => up _ o D.i2z e) pT e8 fun c o c1 c2 c3 c4 e => up c o c1 (k5 c o c1 c2 c3 c4 e)
theorem zipA_end {t u : Bool} {z TI TO i1 i2 l1 l2 : Addr} {k1 k2 : Nat} {xs ys : Array Value} {a b : Value} {Q : Fin → Shared → Prop} (hh : A.handled = none) (D : ZipApart z TI TO i1 i2 l1 l2) (hz : IsZip s.heap z TI TO .none) (hTI : IsPair s.heap TI (.ref i1) (.ref i2)) (hTO : IsPair s.heap TO a b)
    (h1 : AIt t s.heap i1 l1 k1) (h2 : AIt u s.heap i2 l2 k2) (q1 : ASq t s.heap l1 xs) (q2 : ASq u s.heap l2 ys) (hend : xs[k1]? = none ∨ ys[k2]? = none)
    (hE : ∀ h' e, (∀ c o, c ≠ z → c ≠ TO → c ≠ i1 → c ≠ i2 → s.heap.get? c = some o → h'.get? c = some o) → (∃ o, h'.get? e = some o ∧ o.cls = .type "StopIteration") → E (.ref e) { s with heap := h' }) :
    wpAny (model prog w) A (Builtin.«zip.__next__» ⟨[.ref z], []⟩) Q E s := by
  show wpAny (model prog w) A (field (.ref z) 2 >>= _) _ E s
  refine wpAny_bind (wpAny_field hz rfl (x := .bool false) rfl ?_)
  show wpAny (model prog w) A (field (.ref z) 3 >>= _) _ E s
  refine wpAny_bind (wpAny_field hz rfl (x := .ref TI) rfl (wpAny_bind (wpAny_seqItems hTI rfl ?_)))
  show wpAny (model prog w) A (Builtin.SmallTypes.ownedTupleIsFree (.ref z) >>= _) _ E s
  (refine wpAny_bind ?_; unfold Builtin.SmallTypes.ownedTupleIsFree; refine wpAny_bind (wpAny_field hz rfl (x := .none) rfl (wpAny_pure ?_)))
  simp only [if_true]
  refine wpAny_bind (wpAny_rule (wpAny_bind (wpAny_field hz rfl (x := .ref TO) rfl (wpAny_bind (wpAny_setField_rec hz (by simp) fun g1 hz1 s1 => ?_)))))
  have hz1 : IsZip g1 z TI TO .ellipsis := hz1
  have r1 := s1.extBut
  refine wpAny_bind ?_
  simp only [List.zipIdx_cons, List.zipIdx_nil, List.forIn_cons, List.forIn_nil]
  refine wpAny_bind (wpAny_bind (wpAny_onRaise ?_))
  show wpAny (model prog w) _ (Builtin.SmallTypes.nextOf (.ref i1) >>= _) _ _ _
  have stop : ∀ (g : PySem.Heap) (e : Addr), IsZip g z TI TO .ellipsis → (∃ o, g.get? e = some o ∧ o.cls = .type "StopIteration") → e ≠ z := fun g e m ⟨o, he, hc⟩ y => by
    subst y
    rw [show g.get? e = some _ from m] at he
    cases he
    simp at hc
  cases hx : xs[k1]? with
  | none =>
    refine wpAny_bind (next_none hh (h1.ext r1 D.i1z) (q1.ext r1 D.l1z) hx fun g2 e r2 he => ?_)
    have hz2 : IsZip g2 z TI TO .ellipsis := r2 _ _ D.i1z.symm hz1
    have ne := stop _ _ hz2 he
    obtain ⟨oe, f1, f2⟩ := he
    exact wpAny_setField_rec hz2 (by simp) fun g3 _ s3 => hE g3 e (fun c o c1 _ c3 _ y => s3.extBut _ _ c1 (r2 _ _ c3 (r1 _ _ c1 y))) ⟨oe, s3.extBut _ _ ne f1, f2⟩
  | some x =>
    have hy : ys[k2]? = none := hend.resolve_left (by rw [hx]; exact fun z => by cases z)
    refine wpAny_bind (next_any (h1.ext r1 D.i1z) (q1.ext r1 D.l1z) hx fun g2 w2 s2 => wpAny_pure ?_)
    have r2 := s2.extBut
    have p2 : IsPair g2 TO a b := r2 _ _ D.TOi1 (r1 _ _ D.TOz hTO)
    refine wpAny_bind (wpAny_seqItems p2 rfl (wpAny_bind (wpAny_updateSeq_pair p2 fun g3 p3 s3 => ?_)))
    have r3 := s3.extBut
    refine wpAny_bind (wpAny_letGo (wpAny_pure (wpAny_bind (wpAny_bind (wpAny_onRaise ?_)))))
    show wpAny (model prog w) _ (Builtin.SmallTypes.nextOf (.ref i2) >>= _) _ _ _
    refine wpAny_bind (next_none hh (((h2.ext r1 D.i2z).ext r2 D.i12.symm).ext r3 D.TOi2.symm) (((q2.ext r1 D.l2z).ext r2 D.l2i1).ext r3 D.l2TO) hy fun g4 e r4 he => ?_)
    have hz4 : IsZip g4 z TI TO .ellipsis := r4 _ _ D.i2z.symm (r3 _ _ D.TOz.symm (r2 _ _ D.i1z.symm hz1))
    have ne := stop _ _ hz4 he
    obtain ⟨oe, f1, f2⟩ := he
    exact wpAny_setField_rec hz4 (by simp) fun g5 _ s5 => hE g5 e (fun c o c1 c2 c3 c4 y => s5.extBut _ _ c1 (r4 _ _ c4 (r3 _ _ c2 (r2 _ _ c3 (r1 _ _ c1 y))))) ⟨oe, s5.extBut _ _ ne f1, f2⟩
theorem pyNext_zipA {t u : Bool} {z TI TO i1 i2 l1 l2 : Addr} {k1 k2 : Nat} {xs ys : Array Value} {x y a b : Value} {Q : Option Value → Shared → Prop} (D : ZipApart z TI TO i1 i2 l1 l2) (hz : IsZip s.heap z TI TO .none) (hTI : IsPair s.heap TI (.ref i1) (.ref i2)) (hTO : IsPair s.heap TO a b)
    (h1 : AIt t s.heap i1 l1 k1) (h2 : AIt u s.heap i2 l2 k2) (q1 : ASq t s.heap l1 xs) (q2 : ASq u s.heap l2 ys) (hx : xs[k1]? = some x) (hy : ys[k2]? = some y)
    (hQ : ∀ h', IsZip h' z TI TO (rawInt s.heap.objs.size) → IsPair h' TO x y → AIt t h' i1 l1 (k1 + 1) → AIt u h' i2 l2 (k2 + 1) → IsPair h' s.heap.objs.size x y → h'.objs.size = s.heap.objs.size + 1 →
      (∀ c o, c ≠ z → c ≠ TO → c ≠ i1 → c ≠ i2 → s.heap.get? c = some o → h'.get? c = some o) → Q (some (.ref s.heap.objs.size)) { s with heap := h' }) : wpAny (model prog w) A (pyNext (.ref z)) Q E s := by
  have hT : s.TypeIs (.ref z) "zip" := ⟨_, hz, rfl⟩
  unfold pyNext
  refine wpAny_bind (wpAny_attempt (wpAny_callSpecial?_slot (name := Str.ofString "__next__") hT F.slot_zip_next (wpAny_call_entry F.slot_zip_next hT F.entry_zip_next ?_ (F.args_zip_next_1 _))))
  exact zipA_item D hz hTI hTO h1 h2 q1 q2 hx hy fun h' a1 a2 a3 a4 a5 a6 a7 => wpAny_pure (hQ h' a1 a2 a3 a4 a5 a6 a7)
theorem pyNext_zipA_end {t u : Bool} {z TI TO i1 i2 l1 l2 : Addr} {k1 k2 : Nat} {xs ys : Array Value} {a b : Value} {Q : Option Value → Shared → Prop} (hh : A.handled = none) (D : ZipApart z TI TO i1 i2 l1 l2) (hz : IsZip s.heap z TI TO .none) (hTI : IsPair s.heap TI (.ref i1) (.ref i2)) (hTO : IsPair s.heap TO a b)
    (h1 : AIt t s.heap i1 l1 k1) (h2 : AIt u s.heap i2 l2 k2) (q1 : ASq t s.heap l1 xs) (q2 : ASq u s.heap l2 ys) (hend : xs[k1]? = none ∨ ys[k2]? = none)
    (hQ : ∀ h', (∀ c o, c ≠ z → c ≠ TO → c ≠ i1 → c ≠ i2 → s.heap.get? c = some o → h'.get? c = some o) → Q none { s with heap := h' }) : wpAny (model prog w) A (pyNext (.ref z)) Q E s := by
  have hT : s.TypeIs (.ref z) "zip" := ⟨_, hz, rfl⟩
  unfold pyNext
  refine wpAny_bind (wpAny_attempt (wpAny_callSpecial?_slot (name := Str.ofString "__next__") hT F.slot_zip_next (wpAny_call_entry F.slot_zip_next hT F.entry_zip_next ?_ (F.args_zip_next_1 _))))
  refine zipA_end hh D hz hTI hTO h1 h2 q1 q2 hend fun h' e hk he => ?_
  obtain ⟨o, ho, hc⟩ := he
  exact wpAny_bind (wpAny_isInstance (T := "StopIteration") (b := true) ⟨o, ho, hc⟩ isSubtype_stop (wpAny_pure (hQ _ hk)))
end
def itN (t : Bool) : String := if t then "tuple_iterator" else "list_iterator"
abbrev zA1 (t : Bool) (h : PySem.Heap) (l1 : Addr) : PySem.Heap := h.push { cls := .type (itN t), data := .fields #[.ref l1, .int 0 0] }
abbrev zA2 (t u : Bool) (h : PySem.Heap) (l1 l2 : Addr) : PySem.Heap := (zA1 t h l1).push { cls := .type (itN u), data := .fields #[.ref l2, .int 0 0] }
abbrev zA3 (t u : Bool) (h : PySem.Heap) (l1 l2 : Addr) : PySem.Heap := (zA2 t u h l1 l2).push { cls := .type "tuple", data := .seq #[.ref h.objs.size, .ref (zA1 t h l1).objs.size] }
abbrev zA4 (t u : Bool) (h : PySem.Heap) (l1 l2 : Addr) : PySem.Heap := (zA3 t u h l1 l2).push { cls := .type "tuple", data := .seq #[.none, .none] }
abbrev zA5 (t u : Bool) (h : PySem.Heap) (l1 l2 : Addr) : PySem.Heap := (zA4 t u h l1 l2).push { cls := .type "zip", data := .fields #[.none, .bool false, .bool false, .ref (zA2 t u h l1 l2).objs.size, .ref (zA3 t u h l1 l2).objs.size] }
theorem meets_tl (l1 l2 : Addr) (xs ys : Array Value) :
    Meets (Builtin.«zip.__new__» ⟨[.type "zip", .ref l1, .ref l2], []⟩) (fun _ R s => s.heap.IsTuple l1 xs ∧ s.heap.IsList l2 ys ∧ R (.ok (.ret (.ref (zA4 true false s.heap l1 l2).objs.size))) { s with heap := zA5 true false s.heap l1 l2 }) :=
  .of_wp fun prog w A R s h => by
    obtain ⟨hp, g, d, tk, os⟩ := s; obtain ⟨hl1, hl2, h⟩ := h
    have hsub := PySem.sub_zip
    have hL1 : PySem.Heap.IsTuple (Shared.heap ⟨hp, g, d, tk, os⟩) l1 xs := hl1
    have hL2 : PySem.Heap.IsList (Shared.heap ⟨hp.push { cls := .type "tuple_iterator", data := .fields #[.ref l1, .int 0 0] }, g, d, tk, os⟩) l2 ys := PySem.Heap.IsList.push hl2 _
    wp_walk using wpAny_pyIter_tuple hL1, wpAny_pyIter_list hL2
    exact ⟨_, rfl, h⟩
theorem meets_lt (l1 l2 : Addr) (xs ys : Array Value) :
    Meets (Builtin.«zip.__new__» ⟨[.type "zip", .ref l1, .ref l2], []⟩) (fun _ R s => s.heap.IsList l1 xs ∧ s.heap.IsTuple l2 ys ∧ R (.ok (.ret (.ref (zA4 false true s.heap l1 l2).objs.size))) { s with heap := zA5 false true s.heap l1 l2 }) :=
  .of_wp fun prog w A R s h => by
    obtain ⟨hp, g, d, tk, os⟩ := s; obtain ⟨hl1, hl2, h⟩ := h
    have hsub := PySem.sub_zip
    have hL1 : PySem.Heap.IsList (Shared.heap ⟨hp, g, d, tk, os⟩) l1 xs := hl1
    have hL2 : PySem.Heap.IsTuple (Shared.heap ⟨hp.push { cls := .type "list_iterator", data := .fields #[.ref l1, .int 0 0] }, g, d, tk, os⟩) l2 ys := PySem.Heap.IsTuple.push hl2 _
    wp_walk using wpAny_pyIter_list hL1, wpAny_pyIter_tuple hL2
    exact ⟨_, rfl, h⟩
section
variable {prog : Program} {w : World} {A : Around} {E : Value → Shared → Prop} {s : Shared}
/-- what stands when a zip is made -/
theorem zA_stands {t u : Bool} {h : PySem.Heap} {l1 l2 : Addr} {Q : Value → Shared → Prop} (hq : ∀ h', IsZip h' (h.objs.size + 4) (h.objs.size + 2) (h.objs.size + 3) .none → IsPair h' (h.objs.size + 2) (.ref h.objs.size) (.ref (h.objs.size + 1)) →
      IsPair h' (h.objs.size + 3) .none .none → AIt t h' h.objs.size l1 0 → AIt u h' (h.objs.size + 1) l2 0 → h'.objs.size = h.objs.size + 5 → (∀ c o, h.get? c = some o → h'.get? c = some o) → Q (.ref (h.objs.size + 4)) { s with heap := h' }) :
    Q (.ref (zA4 t u h l1 l2).objs.size) { s with heap := zA5 t u h l1 l2 } := by
  have z1 : (zA1 t h l1).objs.size = h.objs.size + 1 := PySem.Heap.size_push ..
  have z2 : (zA2 t u h l1 l2).objs.size = h.objs.size + 2 := by rw [PySem.Heap.size_push, z1]
  have z3 : (zA3 t u h l1 l2).objs.size = h.objs.size + 3 := by rw [PySem.Heap.size_push, z2]
  have z4 : (zA4 t u h l1 l2).objs.size = h.objs.size + 4 := by rw [PySem.Heap.size_push, z3]
  have z5 : (zA5 t u h l1 l2).objs.size = h.objs.size + 5 := by rw [PySem.Heap.size_push, z4]
  have up : ∀ {g : PySem.Heap} {c : Addr} {o p : Obj}, g.get? c = some o → (g.push p).get? c = some o := fun e => PySem.Heap.get?_push_of_some _ e
  have g5 : (zA5 t u h l1 l2).get? (zA4 t u h l1 l2).objs.size = some _ := PySem.Heap.get?_push_size _ rfl
  have g4 : (zA5 t u h l1 l2).get? (zA3 t u h l1 l2).objs.size = some _ := up (PySem.Heap.get?_push_size _ rfl)
  have g3 : (zA5 t u h l1 l2).get? (zA2 t u h l1 l2).objs.size = some _ := up (up (PySem.Heap.get?_push_size _ rfl))
  have g2 : (zA5 t u h l1 l2).get? (zA1 t h l1).objs.size = some _ := up (up (up (PySem.Heap.get?_push_size _ rfl)))
  have g1 : (zA5 t u h l1 l2).get? h.objs.size = some _ := up (up (up (up (PySem.Heap.get?_push_size _ rfl))))
  rw [z2, z3, z4] at g5
  rw [z1, z2] at g3
  rw [z3] at g4
  rw [z1] at g2
  rw [z4]
  refine hq _ g5 g3 g4 ?_ ?_ z5 fun c o x => up (up (up (up (up x))))
  · cases t
    · exact ⟨_, g1, rfl, rfl⟩
    · exact ⟨_, g1, rfl, rfl⟩
  · cases u
    · exact ⟨_, g2, rfl, rfl⟩
    · exact ⟨_, g2, rfl, rfl⟩
theorem call_tl {l1 l2 : Addr} {xs ys : Array Value} {Q : Value → Shared → Prop} (hl1 : s.heap.IsTuple l1 xs) (hl2 : s.heap.IsList l2 ys)
    (hq : ∀ h', IsZip h' (s.heap.objs.size + 4) (s.heap.objs.size + 2) (s.heap.objs.size + 3) .none → IsPair h' (s.heap.objs.size + 2) (.ref s.heap.objs.size) (.ref (s.heap.objs.size + 1)) →
      IsPair h' (s.heap.objs.size + 3) .none .none → AIt true h' s.heap.objs.size l1 0 → AIt false h' (s.heap.objs.size + 1) l2 0 → h'.objs.size = s.heap.objs.size + 5 → (∀ c o, s.heap.get? c = some o → h'.get? c = some o) → Q (.ref (s.heap.objs.size + 4)) { s with heap := h' }) :
    wpAny (model prog w) A (PySem.call (.type "zip") [.ref l1, .ref l2]) Q E s := by
  refine callType_new F.called_zip (by decide) (F.typeCall_zip_2 _ _) (F.newCall_zip_2 _ _) (fun obj => F.args_object_init_3 obj _ _) F.entry_zip_new (meets_tl l1 l2 xs ys) ⟨hl1, hl2, ?_⟩
  exact ⟨⟨_, PySem.Heap.get?_push_size _ rfl, rfl⟩, zA_stands hq⟩
theorem call_lt {l1 l2 : Addr} {xs ys : Array Value} {Q : Value → Shared → Prop} (hl1 : s.heap.IsList l1 xs) (hl2 : s.heap.IsTuple l2 ys)
    (hq : ∀ h', IsZip h' (s.heap.objs.size + 4) (s.heap.objs.size + 2) (s.heap.objs.size + 3) .none → IsPair h' (s.heap.objs.size + 2) (.ref s.heap.objs.size) (.ref (s.heap.objs.size + 1)) →
      IsPair h' (s.heap.objs.size + 3) .none .none → AIt false h' s.heap.objs.size l1 0 → AIt true h' (s.heap.objs.size + 1) l2 0 → h'.objs.size = s.heap.objs.size + 5 → (∀ c o, s.heap.get? c = some o → h'.get? c = some o) → Q (.ref (s.heap.objs.size + 4)) { s with heap := h' }) :
    wpAny (model prog w) A (PySem.call (.type "zip") [.ref l1, .ref l2]) Q E s := by
  refine callType_new F.called_zip (by decide) (F.typeCall_zip_2 _ _) (F.newCall_zip_2 _ _) (fun obj => F.args_object_init_3 obj _ _) F.entry_zip_new (meets_lt l1 l2 xs ys) ⟨hl1, hl2, ?_⟩
  exact ⟨⟨_, PySem.Heap.get?_push_size _ rfl, rfl⟩, zA_stands hq⟩
end
/-! ## the turn -/
def SqA (t : Bool) (K : PySem.W.Frag) (H : Hp) (a : Addr) (xs : List V) : Prop := if t then SqT K H a xs else SqL K H a xs
def ItzA (t u : Bool) (K : PySem.W.Frag) (a b : Addr) : L2.It :=
  ⟨fun i H => ∃ (xs ys : List V) (x y : V), SqA t K H a xs ∧ SqA u K H b ys ∧ xs[i]? = some x ∧ ys[i]? = some y,
    fun i H v H' => ∃ T x y, v = .ref T ∧ H T = none ∧ H' = upd H T (.tup [x, y]) ∧ (∀ xs, SqA t K H a xs → xs[i]? = some x) ∧ ∀ ys, SqA u K H b ys → ys[i]? = some y,
    fun i H => ∃ xs ys : List V, SqA t K H a xs ∧ SqA u K H b ys ∧ (xs.length ≤ i ∨ ys.length ≤ i)⟩
theorem sqA_at {X : Cx} {pins : List (Addr × Obj)} {σ : L2.St} {H : Hp} {s : Shared} {t : Bool} {a : Addr} {xs : List V} (I : Inv X pins σ H s) (q : SqA t X.K H a xs) : ∃ its : List Value, Vals xs its ∧ ASq t s.heap a its.toArray := by
  cases t
  · obtain ⟨its, rv, p, _⟩ := I.list q
    exact ⟨its, rv, p.isList⟩
  · obtain ⟨its, rv, p, _⟩ := I.tuple q
    exact ⟨its, rv, p⟩
theorem sqA_inj {X : Cx} {pins : List (Addr × Obj)} {σ : L2.St} {H : Hp} {s : Shared} {t : Bool} {a : Addr} {xs ys : List V} (I : Inv X pins σ H s) (q : SqA t X.K H a xs) (q' : SqA t X.K H a ys) : xs = ys := by
  cases t
  · exact I.list_inj q q'
  · exact I.tuple_inj q q'
theorem turn_zipA {t u : Bool} {P : Program} {w : World} {K : PySem.W.Frag} {elts : List Expr} {kk : Nat} {tpos : Pos} {a b z TI TO i1 i2 : Addr} (D : ZipApart z TI TO i1 i2 a b) :
    Turn P w K (.Tuple elts kk tpos) (ItzA t u K a b) [z, TI, TO, i1, i2] z (fun i h => IsZip h z TI TO .none ∧ IsPair h TI (.ref i1) (.ref i2) ∧ (∃ x y, IsPair h TO x y) ∧ AIt t h i1 a i ∧ AIt u h i2 b i) where
  mem := by simp
  obj := fun i h ⟨hz, hTI, ⟨x, y, hTO⟩, h1, h2⟩ c hc => by
    have e' : c = z ∨ c = TI ∨ c = TO ∨ c = i1 ∨ c = i2 := by simpa using hc
    rcases e' with rfl | rfl | rfl | rfl | rfl
    · exact ⟨_, hz, fun v q => nomatch q⟩
    · exact ⟨_, hTI, fun v q => nomatch q⟩
    · exact ⟨_, hTO, fun v q => nomatch q⟩
    · cases t
      · obtain ⟨o1, e1, _, d1⟩ := h1; exact ⟨o1, e1, fun v q => by rw [d1] at q; cases q⟩
      · obtain ⟨o1, e1, _, d1⟩ := h1; exact ⟨o1, e1, fun v q => by rw [d1] at q; cases q⟩
    · cases u
      · obtain ⟨o1, e1, _, d1⟩ := h2; exact ⟨o1, e1, fun v q => by rw [d1] at q; cases q⟩
      · obtain ⟨o1, e1, _, d1⟩ := h2; exact ⟨o1, e1, fun v q => by rw [d1] at q; cases q⟩
  keep := fun i h h' ⟨hz, hTI, ⟨x, y, hTO⟩, h1, h2⟩ k => ⟨k z (by simp) _ hz, k TI (by simp) _ hTI, ⟨x, y, k TO (by simp) _ hTO⟩, h1.to fun o q => k i1 (by simp) o q, h2.to fun o q => k i2 (by simp) o q⟩
  item := by
    intro X hP hw hK hc i pins s σ H E I hf st hg
    subst hP; subst hw; subst hK
    obtain ⟨hz, hTI, ⟨x0, y0, hTO⟩, h1, h2⟩ := st
    obtain ⟨xs, ys, x, y, hqx, hqy, hx, hy⟩ := hg
    obtain ⟨its, rv, p⟩ := sqA_at I hqx
    obtain ⟨its2, rv2, p2⟩ := sqA_at I hqy
    obtain ⟨b1, hb1, rb1⟩ := rv.get hx
    obtain ⟨b2, hb2, rb2⟩ := rv2.get hy
    have hzl : z < s.heap.objs.size := PySem.Heap.lt_size hz
    refine pyNext_zipA D hz hTI hTO h1 h2 p p2 (x := b1) (y := b2) (by simpa using hb1) (by simpa using hb2) fun h' z' TO' h1' h2' hT hsz hk => ?_
    refine ⟨_, rfl, wpAny_letOwnedTupleGo_zip (s := { s with heap := h' }) z' fun h'' z'' sb => ?_⟩
    have hT2 : h''.get? s.heap.objs.size = some { cls := .type "tuple", data := .seq #[b1, b2] } := (sb.2 _ (Nat.ne_of_gt hzl)).trans hT
    have new : ObjOk X.prog X.w (upd H s.heap.objs.size (.tup [x, y])) h'' s.heap.objs.size (.tup [x, y]) := ⟨by show 2 ≤ sizeLine; decide, [b1, b2], .cons rb1 (.cons rb2 .nil), ⟨_, hT2, rfl, _, rfl⟩⟩
    have kk2 : ∀ c o, c ∉ [z, TI, TO, i1, i2] → s.heap.get? c = some o → h''.get? c = some o := fun c o hb q => by
      simp only [List.mem_cons, List.not_mem_nil, or_false, not_or] at hb
      exact (sb.2 c hb.1).trans (hk c o hb.1 hb.2.2.1 hb.2.2.2.1 hb.2.2.2.2 q)
    have I1 : Inv X pins σ (upd H s.heap.objs.size (.tup [x, y])) { s with heap := h'' } := I.turnedNew (t' := s.toks) (ch := [z, TI, TO, i1, i2]) kk2 hf (Nat.le_refl _) new
    refine ⟨.ref s.heap.objs.size, _, I1, rfl, ⟨_, x, y, rfl, I.hok.fresh (Nat.le_refl _), rfl, fun l hl => by rw [sqA_inj I hl hqx]; exact hx, fun l hl => by rw [sqA_inj I hl hqy]; exact hy⟩, ⟨z'', ?_, ⟨b1, b2, ?_⟩, ?_, ?_⟩, fun c hcm => ?_⟩
    · exact (sb.2 _ D.TIz).trans (hk _ _ D.TIz D.TITO D.TIi1 D.TIi2 hTI)
    · exact (sb.2 _ D.TOz).trans TO'
    · exact h1'.to fun o q => (sb.2 _ D.i1z).trans q
    · exact h2'.to fun o q => (sb.2 _ D.i2z).trans q
    · have hlt : c < s.heap.objs.size := by
        obtain ⟨o1, e1⟩ := h1.obj
        obtain ⟨o2, e2⟩ := h2.obj
        have e' : c = z ∨ c = TI ∨ c = TO ∨ c = i1 ∨ c = i2 := by simpa using hcm
        rcases e' with q | q | q | q | q
        · rw [q]; exact hzl
        · rw [q]; exact PySem.Heap.lt_size hTI
        · rw [q]; exact PySem.Heap.lt_size hTO
        · rw [q]; exact PySem.Heap.lt_size e1
        · rw [q]; exact PySem.Heap.lt_size e2
      rw [upd_ne (Nat.ne_of_lt hlt)]
      exact (hf c hcm).1
  done := by
    intro X hP hw hK hc i pins s σ H E I hf st hg
    subst hP; subst hw; subst hK
    obtain ⟨hz, hTI, ⟨x0, y0, hTO⟩, h1, h2⟩ := st
    obtain ⟨xs, ys, hqx, hqy, hend⟩ := hg
    obtain ⟨its, rv, p⟩ := sqA_at I hqx
    obtain ⟨its2, rv2, p2⟩ := sqA_at I hqy
    have g1 := rv.length
    have g2 := rv2.length
    have he : its.toArray[i]? = none ∨ its2.toArray[i]? = none := by
      rcases hend with q | q
      · left; simp; omega
      · right; simp; omega
    refine pyNext_zipA_end (I.ok.hd hc) D hz hTI hTO h1 h2 p p2 he fun h' hk => ⟨rfl, I.turnedL (t' := s.toks) (ch := [z, TI, TO, i1, i2]) (fun c o hb q => ?_) hf⟩
    simp only [List.mem_cons, List.not_mem_nil, or_false, not_or] at hb
    exact hk c o hb.1 hb.2.2.1 hb.2.2.2.1 hb.2.2.2.2 q
  self := fun A i s Q E st h => wpAny_pyIter_zip st.1 h
/-! ## the rule -/
def iZipAny (K : PySem.W.Frag) (ta : TA) : TI := fun σ H R => ta σ H fun vs H1 => ∃ t u a b xs ys, vs = [.ref a, .ref b] ∧ SqA t K H1 a xs ∧ SqA u K H1 b ys ∧ R (ItzA t u K a b) H1
theorem pi_zipAny {X : Cx} {e e2 : Expr} {ta : TA} {p pos tpos : Pos} {elts : List Expr} {kk : Nat} (hg : Gl X "zip") (hm : X.mg "zip" = none) (ha : PA X [e, e2] ta)
    (hs : starEach [e, e2] X.env = (false, eval e X.env) :: starEach [e2] X.env := by rfl) (hpl : (backTo pos (starEach [e2] X.env)).any (·.1) = false := by rfl) :
    PI X (.Tuple elts kk tpos) (.Call (.Name "zip" p) [e, e2] [] pos) (iZipAny X.K ta) := by
  refine ⟨fun pins s σ H R I h => ?_⟩
  refine Call_ (ld_blt I hg hm PyProof.Rows.boot_zip (PyProof.Rows.callWith_type1 (thn (ha.run pos pins s σ H _ I h) fun us s1 ⟨vs, H1, I1, r1, q1⟩ => ?_) hs hpl))
  obtain ⟨t, u, a, b, xs, ys, ex, hqx, hqy, q⟩ := q1
  subst ex
  obtain ⟨u1, u2, rfl, r, r'⟩ : ∃ u1 u2, us = [u1, u2] ∧ RelV (.ref a) u1 ∧ RelV (.ref b) u2 := by
    cases r1 with
    | cons r rr =>
      cases rr with
      | cons r' rr =>
        cases rr
        exact ⟨_, _, rfl, r, r'⟩
  cases r
  cases r'
  have fresh5 : ∀ c, c ∈ [s1.heap.objs.size + 4, s1.heap.objs.size + 2, s1.heap.objs.size + 3, s1.heap.objs.size, s1.heap.objs.size + 1] → FpOk X pins H1 c := fun c hcm => by
    have hle : s1.heap.objs.size ≤ c := by
      simp only [List.mem_cons, List.not_mem_nil, or_false] at hcm
      rcases hcm with z | z | z | z | z <;> rw [z] <;> first | exact Nat.le_refl _ | exact Nat.le_add_right _ _
    exact I1.fpOk hle (I1.hok.fresh hle)
  have fin : ∀ {l1 l2 : Nat} (h' : PySem.Heap), (a < s1.heap.objs.size) → (b < s1.heap.objs.size) → IsZip h' (s1.heap.objs.size + 4) (s1.heap.objs.size + 2) (s1.heap.objs.size + 3) .none → IsPair h' (s1.heap.objs.size + 2) (.ref s1.heap.objs.size) (.ref (s1.heap.objs.size + 1)) →
      IsPair h' (s1.heap.objs.size + 3) .none .none → AIt t h' s1.heap.objs.size a 0 → AIt u h' (s1.heap.objs.size + 1) b 0 → (∀ c o, s1.heap.get? c = some o → h'.get? c = some o) → PIE X pins σ (.Tuple elts kk tpos) R (.ref (s1.heap.objs.size + 4)) { s1 with heap := h' } := fun h' la lb hz hTI hTO h1 h2 hk =>
    ⟨s1.heap.objs.size + 4, [s1.heap.objs.size + 4, s1.heap.objs.size + 2, s1.heap.objs.size + 3, s1.heap.objs.size, s1.heap.objs.size + 1], _, _, H1, rfl, I1.kept (t' := s1.toks) hk, turn_zipA (PySem.W.ktu_apart s1.heap.objs.size a b la lb), ⟨hz, hTI, ⟨_, _, hTO⟩, h1, h2⟩, fresh5, q⟩
  cases t
  · obtain ⟨its, rv, p1, _⟩ := I1.list (show SqL X.K H1 a xs from hqx)
    cases u
    · obtain ⟨its2, rv2, p2, _⟩ := I1.list (show SqL X.K H1 b ys from hqy)
      exact call_zip_2 p1.isList p2.isList fun h' hz hTI hTO h1 h2 hsz hk => wpAny_pyIter_zip hz (fin (l1 := 0) (l2 := 0) h' p1.lt p2.lt hz hTI hTO h1 h2 hk)
    · obtain ⟨its2, rv2, p2, _⟩ := I1.tuple (show SqT X.K H1 b ys from hqy)
      obtain ⟨o2, ho2, _⟩ := id p2
      exact call_lt p1.isList (show s1.heap.IsTuple b its2.toArray from p2) fun h' hz hTI hTO h1 h2 hsz hk => wpAny_pyIter_zip hz (fin (l1 := 0) (l2 := 0) h' p1.lt (PySem.Heap.lt_size ho2) hz hTI hTO h1 h2 hk)
  · obtain ⟨its, rv, p1, _⟩ := I1.tuple (show SqT X.K H1 a xs from hqx)
    obtain ⟨o1, ho1, _⟩ := id p1
    cases u
    · obtain ⟨its2, rv2, p2, _⟩ := I1.list (show SqL X.K H1 b ys from hqy)
      exact call_tl (show s1.heap.IsTuple a its.toArray from p1) p2.isList fun h' hz hTI hTO h1 h2 hsz hk => wpAny_pyIter_zip hz (fin (l1 := 0) (l2 := 0) h' (PySem.Heap.lt_size ho1) p2.lt hz hTI hTO h1 h2 hk)
    · obtain ⟨its2, rv2, p2, _⟩ := I1.tuple (show SqT X.K H1 b ys from hqy)
      obtain ⟨o2, ho2, _⟩ := id p2
      exact RZ.call_zipT (show s1.heap.IsTuple a its.toArray from p1) (show s1.heap.IsTuple b its2.toArray from p2) fun h' hz hTI hTO h1 h2 hsz hk => wpAny_pyIter_zip hz (fin (l1 := 0) (l2 := 0) h' (PySem.Heap.lt_size ho1) (PySem.Heap.lt_size ho2) hz hTI hTO h1 h2 hk)
end Mi


/-! # Mi6: methods, calls of own defs, what a loop walks, comprehensions -/
namespace Mi
open PySem PySem.Spec PyProof.Rows L2

section
variable {X : Cx} {t : Th} {W : L2.WX} {g : G} {a b c e : Expr} {es : List Expr} {ma mb mc m : Ex} {ms : Exs} {pos : Pos}
/-- a method by values -/
def rMt (t : Th) (f : Val → List Val → Heap → Res Val) : V → List V → Hp → VK → Prop := fun x xs H Q => ∃ ρ h a vs, HR t ρ h H ∧ VR t ρ a x ∧ VRs t ρ vs xs ∧ Post t ρ H (f a vs h) (KV1 t Q) E0'
/-- which type a method is of -/
def mTy : Me → String
  | .append => "list" | .join => "str" | .split => "str" | .insert => "list" | .pop => "list" | .clear => "list" | .extend => "list" | .sindex => "str"
theorem post_set {ρ : List Addr} {h : Heap} {H : Hp} {n : Nat} {o : Ob} {l : Addr} {u : HO} {v : Val} {Q : VK} {z : V} {E : Value → Option Addr → Hp → Prop} (hr : HR t ρ h H) (e : ρ[n]? = some l) (r : OR t ρ (upd H l u) l o) (rv : VR t ρ v z)
    (p : Post t ρ H (.ok v (h.set n o)) (KV1 t Q) E) : Q z (upd H l u) := p ρ _ (Ext.write e) (hr.write e r) z rv
theorem or_l {ρ : List Addr} {H : Hp} {l : Addr} {xs : List Val} {ys : List V} (r : VRs t ρ xs ys) : OR t ρ (upd H l (.lst ys)) l (.lst xs) := ⟨ys, upd_same, r⟩
theorem mt_append' : MtR X "list.append" (rMt t (met .append)) := by
  intro pins s σ H x xs v us Q I rx rs ⟨ρ, h, a, vs, hr, va, vv, p⟩
  unfold met at p
  dsimp only at p
  split at p
  · rename_i n y
    obtain ⟨y', rfl, ry⟩ := vrs1 vv
    split at p
    · rename_i zs hk
      obtain ⟨l, rfl, l1, ys, hl, r1⟩ := hr.ref hk va
      split at p
      · exact mt_append pins s σ H _ _ v us Q I rx rs ⟨l, ys, y', rfl, rfl, hl, by rw [← r1.length]; assumption, post_set (v := .non) (z := .non) hr l1 (or_l (r1.snoc ry)) rfl p⟩
      · exact p.elim
    · exact p.elim
  · exact p.elim
theorem mt_insert' : MtR X "list.insert" (rMt t (met .insert)) := by
  intro pins s σ H x xs v us Q I rx rs ⟨ρ, h, a, vs, hr, va, vv, p⟩
  unfold met at p
  dsimp only at p
  split at p
  · rename_i n i y
    obtain ⟨i', y', rfl, ri, ry⟩ := vrs2 vv
    cases ri
    split at p
    · rename_i zs hk
      obtain ⟨l, rfl, l1, ys, hl, r1⟩ := hr.ref hk va
      split at p
      · rename_i hz
        exact mt_insert pins s σ H _ _ v us Q I rx rs ⟨l, ys, i, y', rfl, rfl, hl, by rw [← r1.length]; exact hz.1, hz.2.1, hz.2.2,
          post_set (v := .non) (z := .non) hr l1 (or_l (pr_append (pr_append (pr_take _ r1) (.cons ry .nil)) (pr_drop _ r1))) rfl p⟩
      · exact p.elim
    · exact p.elim
  · exact p.elim
theorem mt_pop' : MtR X "list.pop" (rMt t (met .pop)) := by
  intro pins s σ H x xs v us Q I rx rs ⟨ρ, h, a, vs, hr, va, vv, p⟩
  unfold met at p
  dsimp only at p
  split at p
  · cases vv
    split at p
    · rename_i zs hk
      obtain ⟨l, rfl, l1, ys, hl, r1⟩ := hr.ref hk va
      split at p
      · rename_i y e
        obtain ⟨z, e1, rz⟩ := pr_get r1 e
        exact mt_pop pins s σ H _ _ v us Q I rx rs ⟨l, ys, z, rfl, rfl, hl, by rw [← r1.length]; exact e1, post_set hr l1 (or_l (pr_dropLast r1)) rz p⟩
      · exact p.elim
    · exact p.elim
  · rename_i n i
    obtain ⟨i', rfl, ri⟩ := vrs1 vv
    cases ri
    split at p
    · rename_i zs hk
      obtain ⟨l, rfl, l1, ys, hl, r1⟩ := hr.ref hk va
      split at p
      · rename_i k hkk
        split at p
        · rename_i y e
          obtain ⟨z, e1, rz⟩ := pr_get r1 e
          obtain ⟨i1, i2, i3, i4⟩ := ixN_seq hkk
          have := (Inv.lst I hl)
          obtain ⟨its, nn, rr, ho, hz⟩ := this
          have hs : sizeLine = 16777216 := sizeLine_eq
          have hlen := r1.length
          have hlen2 := rr.length
          rw [hlen] at i1 i3 i4
          exact mt_popAt pins s σ H _ _ v us Q I rx rs ⟨l, ys, i, k, z, rfl, rfl, hl, by omega, by omega, i1, e1, post_set hr l1 (or_l (pr_erase _ r1)) rz p⟩
        · exact p.elim
      · exact p.elim
    · exact p.elim
  · exact p.elim
theorem mt_clear' : MtR X "list.clear" (rMt t (met .clear)) := by
  intro pins s σ H x xs v us Q I rx rs ⟨ρ, h, a, vs, hr, va, vv, p⟩
  unfold met at p
  dsimp only at p
  split at p
  · cases vv
    split at p
    · rename_i zs hk
      obtain ⟨l, rfl, l1, ys, hl, r1⟩ := hr.ref hk va
      exact mt_clear pins s σ H _ _ v us Q I rx rs ⟨l, ys, rfl, rfl, hl, post_set (v := .non) (z := .non) hr l1 (or_l .nil) rfl p⟩
    · exact p.elim
  · exact p.elim
theorem mt_extend' : MtR X "list.extend" (rMt t (met .extend)) := by
  intro pins s σ H x xs v us Q I rx rs ⟨ρ, h, a, vs, hr, va, vv, p⟩
  unfold met at p
  dsimp only at p
  split at p
  · rename_i n m'
    obtain ⟨y', rfl, ry⟩ := vrs1 vv
    split at p
    · rename_i zs ws hk hk2
      obtain ⟨l, rfl, l1, ys, hl, r1⟩ := hr.ref hk va
      obtain ⟨l', rfl, l2, ys', hl', r2⟩ := hr.ref hk2 ry
      split at p
      · rename_i hz
        exact mt_extend pins s σ H _ _ v us Q I rx rs ⟨l, l', ys, ys', rfl, rfl, hl, hl', by rw [← r1.length, ← r2.length]; exact hz, post_set (v := .non) (z := .non) hr l1 (or_l (pr_append r1 r2)) rfl p⟩
      · exact p.elim
    · exact p.elim
  · exact p.elim
theorem mt_join' (hK : t.K = X.K) : MtR X "str.join" (rMt t (met .join)) := by
  intro pins s σ H x xs v us Q I rx rs ⟨ρ, h, a, vs, hr, va, vv, p⟩
  unfold met at p
  dsimp only at p
  split at p
  · rename_i z y
    obtain ⟨y', rfl, ry⟩ := vrs1 vv
    cases va
    split at p
    · rename_i ns e
      obtain ⟨ws, e1, e2⟩ := Option.bind_eq_some_iff.mp e
      obtain ⟨l, ys, rfl, hl, r1⟩ := seq_of hr ry e1
      have := strs_vr r1 e2
      subst this
      split at p
      · rename_i hz
        exact L2.mt_join pins s σ H _ _ v us Q I rx rs ⟨_, l, ns, rfl, rfl, hl.imp SqL.of SqT.of, hz, p.ok hr _ rfl⟩
      · exact p.elim
    · exact p.elim
  · exact p.elim
theorem strs_vrs {ρ : List Addr} : ∀ (xs : List Str), VRs t ρ (xs.map .str) (xs.map V.str)
  | [] => .nil
  | x :: xs => .cons rfl (strs_vrs xs)
theorem mt_split' : MtR X "str.split" (rMt t (met .split)) := by
  intro pins s σ H x xs v us Q I rx rs ⟨ρ, h, a, vs, hr, va, vv, p⟩
  unfold met at p
  dsimp only at p
  split at p
  · rename_i z y
    obtain ⟨y', rfl, ry⟩ := vrs1 vv
    cases va; cases ry
    split at p
    · rename_i hz
      exact L2.mt_split pins s σ H _ _ v us Q I rx rs ⟨_, _, rfl, rfl, hz.1, hz.2, fun q hq => Post.new hr p hq (or_lst (strs_vrs _)) _ (VR.new hr)⟩
    · exact p.elim
  · exact p.elim
theorem mt_sindex' : MtR X "str.index" (rMt t (met .sindex)) := by
  intro pins s σ H x xs v us Q I rx rs ⟨ρ, h, a, vs, hr, va, vv, p⟩
  unfold met at p
  dsimp only at p
  split at p
  · rename_i z y
    obtain ⟨y', rfl, ry⟩ := vrs1 vv
    cases va; cases ry
    split at p
    · rename_i i rest e
      have q := p.ok hr _ rfl
      obtain ⟨tk, rfl⟩ := rx
      cases rs with
      | cons q1 rs =>
        cases rs
        obtain ⟨tk2, rfl⟩ := q1
        exact PySem.SC.index e ⟨.int (i : Nat), H, I.tok _, ⟨_, rfl⟩, q⟩
    · exact p.elim
  · exact p.elim
/-- what a receiver must be -/
theorem ty_lst {ρ : List Addr} {h : Heap} {H : Hp} {v : Val} {y : V} (hr : HR t ρ h H) (e : (lstO h v).isSome = true) (r : VR t ρ v y) : tyV X.K "list" y H := by
  obtain ⟨xs, e⟩ := Option.isSome_iff_exists.mp e
  obtain ⟨l, ys, rfl, hl, r1⟩ := lst_of hr r e
  exact .inl ⟨rfl, ys, .of hl⟩
theorem ty_met {ρ : List Addr} {h : Heap} {H : Hp} {mm : Me} {v : Val} {y : V} (hr : HR t ρ h H) (r : VR t ρ v y) (e : rcv mm v h = true) : tyV X.K (mTy mm) y H := by
  cases mm
  all_goals first
    | exact ty_lst hr e r
    | (unfold rcv at e
       dsimp only at e
       split at e
       · cases r; rfl
       · cases e)
end

section
variable {X : Cx} {t : Th} {W : L2.WX} {g : G} {a b c e o : Expr} {es : List Expr} {ma mb mc m mo : Ex} {ms : Exs} {pos : Pos}
variable (O : Ok X t W)
include O
theorem e_met {mm : Me} {id : String} {name : Str} {apos cpos : Pos} (pa : PlainAttrs (mTy mm)) (slot : Slot (mTy mm) name id) (hty : typeOf (.builtin id) = pure (.type "method_descriptor")) (hm : MtR X id (rMt t (met mm)))
    (ho : PE X o (tE t W (den g mo))) (ha : PA X (a :: es) (tA t W (dens g ms)))
    (hbase : attributeBase o name X.env (eval o X.env) = eval o X.env := by rfl)
    (hfew : ((backTo cpos (starEach (a :: es) X.env)).all (fun x => !x.1) && (backToKw cpos (keywordEach [] X.env)).all (fun x => x.1.isSome)
      && decide ((a :: es).length + ([] : List Keyword).length + (if ([] : List Keyword).isEmpty then 0 else 1) < 30)) = true := by rfl)
    (hline : (apos.endLine == cpos.line) = true := by rfl) (hs : starEach (a :: es) X.env = (false, eval a X.env) :: starEach es X.env := by rfl) (hplain : (backTo cpos (starEach es X.env)).any (·.1) = false := by rfl) :
    PE X (.Call (.Attribute o name apos) (a :: es) [] cpos) (tE t W (den g (.met mm mo ms))) := by
  refine PEi (pe_bm pa slot hty hm ho ha hbase hfew hline hs hplain) fun σ H Q ⟨ρ, h, s, hr, sr, p⟩ => ?_
  unfold den at p
  refine ⟨ρ, h, s, hr, sr, (Post.bind p).imp fun v h1 ρ1 H1 e1 x1 p1 y ry => ?_⟩
  split at p1
  · rename_i hc
    exact ⟨ty_met x1 ry hc, ρ1, h1, s, x1, SR.ext e1 sr, (Post.bind p1).imp fun vs h2 ρ2 H2 e2 x2 p3 zs rz => ⟨ρ2, h2, v, vs, x2, ry.ext e2, rz, p3.nox (nox_met _ _ _ _)⟩⟩
  · exact p1.elim
theorem e_met0 {mm : Me} {id : String} {name : Str} {apos cpos : Pos} (pa : PlainAttrs (mTy mm)) (slot : Slot (mTy mm) name id) (hty : typeOf (.builtin id) = pure (.type "method_descriptor")) (hm : MtR X id (rMt t (met mm)))
    (ho : PE X o (tE t W (den g mo))) (hbase : attributeBase o name X.env (eval o X.env) = eval o X.env := by rfl) (hline : (apos.endLine == cpos.line) = true := by rfl) :
    PE X (.Call (.Attribute o name apos) [] [] cpos) (tE t W (den g (.met mm mo .nil))) := by
  refine PEi (pe_bm0 pa slot hty hm ho hbase hline) fun σ H Q ⟨ρ, h, s, hr, sr, p⟩ => ?_
  unfold den at p
  refine ⟨ρ, h, s, hr, sr, (Post.bind p).imp fun v h1 ρ1 H1 e1 x1 p1 y ry => ?_⟩
  split at p1
  · rename_i hc
    exact ⟨ty_met x1 ry hc, ρ1, h1, v, [], x1, ry, .nil, Post.nox (nox_met _ _ _ _) p1⟩
  · exact p1.elim
end

/-! ## calls of own defs -/
structure FnG (P : Program) (w : World) (K : PySem.W.Frag) (mg : Str → Option Value) (base : PySem.Heap) (k : Nat) (f : Addr) (fd : FuncData) (ps : List Str) (sp : Sp) : Prop where
  len : ∀ vs H Q E, sp vs H Q E → vs.length = ps.length
  run : ∀ (A : Around) (outer : List Env) (s : Shared) (H : Hp) (args : Args) (us : List Value) (vs : List V) (Q : VK) (E : XK), Room k A → A.guards = some [] → Env0 P w K mg base A outer s H → BindsTo s fd args (ps.zip us) → Vals vs us → sp vs H Q E →
    codeAny (model P w) A (.call (.ref f) args) (CR (L2.CX P w) outer P w H s Q E) s
def spC (t : Th) (f : List Val → Heap → Res Val) : Sp := fun vs H Q E => ∃ ρ h as, HR t ρ h H ∧ VRs t ρ as vs ∧ Post t ρ H (f as h) (KV1 t Q) E
section
variable {X : Cx} {t : Th} {W : L2.WX} {g : G} {a b c e o : Expr} {es : List Expr} {ma mb mc m mo : Ex} {ms : Exs} {pos : Pos} {k : Nat}
theorem run_g {pins : List (Addr × PySem.Obj)} {σ : L2.St} {H : Hp} {s : Shared} {Q : VK} {us : List Value} {vs : List V} {fa : Addr} {fd : FuncData} {ps : List Str} {sp : Sp} (O : Ok X t W) (F : FnG X.prog X.w X.K X.mg X.base k fa fd ps sp) (hr : Room k X.A) {ds : List Value} {dvs : List V} (hb : Binds X.K fd ps ds) (hd : Vals dvs ds)
    (I : Inv X pins σ H s) (r : Vals vs us) (h : sp (vs ++ dvs) H Q (EW W σ)) : wpAny (model X.prog X.w) X.A (call (.ref fa) us) (EP X pins σ Q) X.xe s := by
  have r2 := Vals.append r hd
  have hl : (us ++ ds).length = ps.length := by rw [← r2.length]; exact F.len _ _ _ _ h
  refine wpAny_call (codeAny_mono (F.run X.A X.stack s H ⟨us, []⟩ (us ++ ds) (vs ++ dvs) Q _ hr O.hg I.env0 (hb s us I.kIn hl) r2 h) fun z s' hq => ?_)
  cases z with
  | error u => exact O.tk u s' (XE.of_call I (fun c d H' w => w) hq)
  | ok fl =>
    cases fl with
    | ret u => exact I.after hq
    | next => exact hq.elim
    | brk => exact hq.elim
    | cont => exact hq.elim
def exsLen : Exs → Nat
  | .nil => 0
  | .cons _ es => exsLen es + 1
theorem dens_len {g : G} : ∀ {ms : Exs} {s : Sl} {h h' : Heap} {vs : List Val}, dens g ms s h = .ok vs h' → vs.length = exsLen ms
  | .nil, s, h, h', vs, e => by unfold dens at e; cases e; rfl
  | .cons m ms, s, h, h', vs, e => by
    unfold dens at e
    cases q : den g m s h with
    | ok v h1 =>
      rw [q] at e
      simp only [Res.bind_ok] at e
      cases q2 : dens g ms s h1 with
      | ok ws h2 =>
        rw [q2] at e
        cases e
        show ws.length + 1 = exsLen ms + 1
        rw [dens_len q2]
      | exc _ _ _ => rw [q2] at e; cases e
      | bad => rw [q2] at e; cases e
    | exc _ _ _ => rw [q] at e; cases e
    | bad => rw [q] at e; cases e
/-- f(..), with the module's defaults behind the written arguments: n of them -/
structure CalleeN (P : Program) (w : World) (K : PySem.W.Frag) (mg : Str → Option Value) (base : PySem.Heap) (t : Th) (k : Nat) (f : Str) (ds : List Val) (m : List Val → Heap → Res Val) : Prop where
  ex : ∃ (fa : Addr) (fd : FuncData) (ps : List Str) (us : List Value) (dvs : List V), mg f = some (.ref fa) ∧ PySem.W.keepIn K (.ref fa) = true ∧ Binds K fd ps us ∧ Vals dvs us ∧ (∀ ρ, VRs t ρ ds dvs) ∧ FnG P w K mg base k fa fd ps (spC t m)
theorem e_cal {f : Str} {fi : Nat} {ds : List Val} {p : Pos} {m' : List Val → Heap → Res Val} (O : Ok X t W) (C : CalleeN X.prog X.w X.K X.mg X.base t k f ds m') (hr : Room k X.A) (ha : PA X (a :: es) (tA t W (dens g ms))) (hd : ∀ vs h, vs.length = exsLen ms → g.call fi vs h ≠ .bad → g.call fi vs h = m' (vs ++ ds) h) (hg : Gl X f := by rfl)
    (hdb : (f == ("__debug__" : Str)) = false := by decide) (he : starEach (a :: es) X.env = (false, eval a X.env) :: starEach es X.env := by rfl) (hpl : (backTo pos (starEach es X.env)).any (·.1) = false := by rfl) :
    PE X (.Call (.Name f p) (a :: es) [] pos) (tE t W (den g (.cal fi ms))) := by
  obtain ⟨fa, fd, ps, us0, dvs, hm, hk, hb, hv, hw, F⟩ := C.ex
  refine ⟨fun pins s σ H Q I ⟨ρ, h, sl, x, sr, q⟩ => ?_⟩
  unfold den at q
  refine wpAny_Call_Name_kw (ld_glob I hg hm ?_ hdb)
  refine PySem.W.callWith_K (h₀ := X.base) I.ok.mod.kin hk (thn (ha.run pos pins s σ H (fun vs H1 => spC t m' (vs ++ dvs) H1 Q (EW W σ)) I ⟨ρ, h, sl, x, sr, (Post.bind q).impe fun vs h1 ρ1 H1 ee e1 x1 q1 zs rz => ⟨ρ1, h1, vs ++ ds, x1, pr_append rz (hw ρ1), ?_⟩⟩) fun us s1 ⟨vs, H1, I1, r, q1⟩ => ⟨I1.kIn, ?_⟩) he hpl
  · rw [← hd vs h1 (dens_len ee) (fun e => by rw [e] at q1; exact q1)]
    exact q1
  · exact run_g O F hr hb hv I1 r q1
theorem e_cal0 {f : Str} {fi : Nat} {ds : List Val} {p : Pos} {m' : List Val → Heap → Res Val} (O : Ok X t W) (C : CalleeN X.prog X.w X.K X.mg X.base t k f ds m') (hr : Room k X.A) (hd : ∀ vs h, vs.length = exsLen .nil → g.call fi vs h ≠ .bad → g.call fi vs h = m' (vs ++ ds) h) (hg : Gl X f := by rfl)
    (hdb : (f == ("__debug__" : Str)) = false := by decide) : PE X (.Call (.Name f p) [] [] pos) (tE t W (den g (.cal fi .nil))) := by
  obtain ⟨fa, fd, ps, us0, dvs, hm, hk, hb, hv, hw, F⟩ := C.ex
  refine ⟨fun pins s σ H Q I ⟨ρ, h, sl, x, sr, q⟩ => ?_⟩
  unfold den dens at q
  refine wpAny_Call_Name_kw (ld_glob I hg hm ?_ hdb)
  exact PySem.W.callWith_K0 I.kIn hk (run_g (us := []) (vs := []) O F hr hb hv I .nil ⟨ρ, h, ds, x, hw ρ, by
    have q : Post t ρ H (g.call fi [] h) (KV1 t Q) (EW W σ) := q
    rw [hd [] h rfl (fun e => by rw [e] at q; exact q)] at q
    exact q⟩)
end

/-! ## what a loop walks -/
/-- the walk w, begun when the places were ρ0, is what J walks -/
def WalkOk (t : Th) (ρ0 : List Addr) (w : Walk) (J : L2.It) : Prop := ∀ i ρ h H, (∃ τ, ρ = ρ0 ++ τ) → HR t ρ h H → w.ok h = true →
  (w.items.length ≤ i → J.stop i H) ∧ ∀ it, w.items[i]? = some it → J.go i H ∧ ∀ x H', J.yld i H x H' → ∃ ρ', Ext ρ H ρ' H' ∧ HR t ρ' (yieldI it h).2 H' ∧ VR t ρ' (yieldI it h).1 x
def tI (t : Th) (W : L2.WX) (f : Sl → Heap → Res Walk) : TI := fun σ H R => ∃ ρ h s, HR t ρ h H ∧ SR t ρ s σ ∧ Post t ρ H (f s h) (fun w _ ρ' H' => ∀ J, WalkOk t ρ' w J → R J H') (EW W σ)
theorem PIi {X : Cx} {tg e : Expr} {t t' : TI} (p : PI X tg e t) (h : ∀ σ H R, t' σ H R → t σ H R) : PI X tg e t' := ⟨fun pins s σ H R I q => p.run pins s σ H R I (h σ H R q)⟩
section
variable {X : Cx} {t : Th} {W : L2.WX} {g : G} {a b c e o tg : Expr} {es : List Expr} {ma mb mc m mo : Ex} {ms : Exs} {pos : Pos} {ρ0 : List Addr}
theorem ok_at {xs : List (Nat × Ob)} {its : List It} {h : Heap} {n : Nat} {o : Ob} (e : (Walk.mk its xs).ok h = true) (hm : (n, o) ∈ xs) : h[n]? = some o := by
  unfold Walk.ok at e
  exact of_decide_eq_true (List.all_eq_true.mp e _ hm)
theorem wk_list {n : Nat} {a : Addr} {xs : List Val} (hn : ρ0[n]? = some a) : WalkOk t ρ0 ⟨xs.map .v, [(n, .lst xs)]⟩ (Itl t.K a) := by
  intro i ρ h H ⟨τ, e⟩ x ok
  have hk := ok_at ok (List.mem_singleton.mpr rfl)
  have hn' : ρ[n]? = some a := by rw [e, List.getElem?_append_left (List.getElem?_eq_some_iff.mp hn).1]; exact hn
  obtain ⟨ys, hl, r⟩ := x.ob n _ a hk hn'
  refine ⟨fun hi => ⟨ys, .of hl, by rw [← r.length]; simpa using hi⟩, fun it hit => ?_⟩
  rw [List.getElem?_map] at hit
  obtain ⟨v, hv, rfl⟩ := Option.map_eq_some_iff.mp hit
  obtain ⟨y, hy, ry⟩ := pr_get r hv
  refine ⟨⟨ys, y, .of hl, hy⟩, fun z H' ⟨eH, hz⟩ => ?_⟩
  subst eH
  have := hz ys (.of hl)
  rw [hy] at this; cases this
  exact ⟨ρ, Ext.refl _ _, x, ry⟩
theorem wk_tup {n : Nat} {a : Addr} {xs : List Val} (hn : ρ0[n]? = some a) : WalkOk t ρ0 ⟨xs.map .v, [(n, .tup xs)]⟩ (Itt t.K a) := by
  intro i ρ h H ⟨τ, e⟩ x ok
  have hk := ok_at ok (List.mem_singleton.mpr rfl)
  have hn' : ρ[n]? = some a := by rw [e, List.getElem?_append_left (List.getElem?_eq_some_iff.mp hn).1]; exact hn
  obtain ⟨ys, hl, r⟩ := x.ob n _ a hk hn'
  refine ⟨fun hi => ⟨ys, .of hl, by rw [← r.length]; simpa using hi⟩, fun it hit => ?_⟩
  rw [List.getElem?_map] at hit
  obtain ⟨v, hv, rfl⟩ := Option.map_eq_some_iff.mp hit
  obtain ⟨y, hy, ry⟩ := pr_get r hv
  refine ⟨⟨ys, y, .of hl, hy⟩, fun z H' ⟨eH, hz⟩ => ?_⟩
  subst eH
  have := hz ys (.of hl)
  rw [hy] at this; cases this
  exact ⟨ρ, Ext.refl _ _, x, ry⟩
theorem wk_str {z : Str} : WalkOk t ρ0 ⟨z.cps.toList.map fun c => .v (.str ⟨#[c]⟩), []⟩ (Its z) := by
  intro i ρ h H _ x ok
  refine ⟨fun hi => show z.cps.size ≤ i by simpa using hi, fun it hit => ?_⟩
  rw [List.getElem?_map] at hit
  obtain ⟨c, hc, rfl⟩ := Option.map_eq_some_iff.mp hit
  have hc' : z.cps[i]? = some c := by simpa using hc
  refine ⟨(Array.getElem?_eq_some_iff.mp hc').1, fun y H' ⟨eH, c', h1, h2⟩ => ?_⟩
  subst eH; subst h2
  rw [hc'] at h1; cases h1
  exact ⟨ρ, Ext.refl _ _, x, rfl⟩
theorem intItems_get : ∀ (n : Nat) (lo : Int) (i : Nat) (it : It), (intItems lo n)[i]? = some it → i < n ∧ it = .v (.int (lo + i))
  | 0, _, _, _, e => by simp [intItems] at e
  | n + 1, lo, 0, it, e => by
    simp [intItems] at e
    exact ⟨by omega, by rw [← e]; simp⟩
  | n + 1, lo, i + 1, it, e => by
    have e' : (intItems (lo + 1) n)[i]? = some it := by simpa [intItems] using e
    obtain ⟨h1, h2⟩ := intItems_get n (lo + 1) i it e'
    exact ⟨by omega, by rw [h2]; congr 2; omega⟩
theorem intItems_len : ∀ (n : Nat) (lo : Int), (intItems lo n).length = n
  | 0, _ => rfl
  | n + 1, lo => by simp [intItems, intItems_len n]
theorem wk_rng {lo : Int} {n : Nat} : WalkOk t ρ0 ⟨intItems lo n, []⟩ (Itr lo n) := by
  intro i ρ h H _ x ok
  refine ⟨fun hi => show n ≤ i by simpa [intItems_len] using hi, fun it hit => ?_⟩
  obtain ⟨h1, rfl⟩ := intItems_get n lo i it hit
  refine ⟨h1, fun y H' ⟨eH, ey⟩ => ?_⟩
  subst eH; subst ey
  exact ⟨ρ, Ext.refl _ _, x, rfl⟩
theorem enumI_get : ∀ (xs : List Val) (k i : Nat) (it : It), (enumI k xs)[i]? = some it → ∃ v, xs[i]? = some v ∧ it = .pr (.int ((k + i : Nat) : Int)) v
  | [], _, _, _, e => by simp [enumI] at e
  | x :: xs, k, 0, it, e => by
    simp [enumI] at e
    exact ⟨x, by simp, by rw [← e]; simp⟩
  | x :: xs, k, i + 1, it, e => by
    have e' : (enumI (k + 1) xs)[i]? = some it := by simpa [enumI] using e
    obtain ⟨v, h1, h2⟩ := enumI_get xs (k + 1) i it e'
    exact ⟨v, by simpa using h1, by rw [h2]; congr 3; omega⟩
theorem enumI_len : ∀ (xs : List Val) (k : Nat), (enumI k xs).length = xs.length
  | [], _ => rfl
  | x :: xs, k => by simp [enumI, enumI_len xs]
theorem wk_enum {n : Nat} {a : Addr} {xs : List Val} (hn : ρ0[n]? = some a) : WalkOk t ρ0 ⟨enumI 0 xs, [(n, .lst xs)]⟩ (Ite t.K a) := by
  intro i ρ h H ⟨τ, e⟩ x ok
  have hk := ok_at ok (List.mem_singleton.mpr rfl)
  have hn' : ρ[n]? = some a := by rw [e, List.getElem?_append_left (List.getElem?_eq_some_iff.mp hn).1]; exact hn
  obtain ⟨ys, hl, r⟩ := x.ob n _ a hk hn'
  refine ⟨fun hi => ⟨ys, .of hl, by rw [← r.length]; simpa [enumI_len] using hi⟩, fun it hit => ?_⟩
  obtain ⟨v, hv, rfl⟩ := enumI_get xs 0 i it hit
  obtain ⟨y, hy, ry⟩ := pr_get r hv
  refine ⟨⟨ys, y, .of hl, hy⟩, fun z H' ⟨T, y', ez, hT, eH, hz⟩ => ?_⟩
  subst eH; subst ez
  have := hz ys (.of hl)
  rw [hy] at this; cases this
  rw [Nat.zero_add]
  exact ⟨ρ ++ [T], Ext.new x hT, x.new hT (or_tup (.cons rfl (.cons ry .nil))), VR.new x⟩
theorem pairI_get : ∀ (xs ys : List Val) (i : Nat) (it : It), (pairI xs ys)[i]? = some it → ∃ v w, xs[i]? = some v ∧ ys[i]? = some w ∧ it = .pr v w
  | [], _, _, _, e => by simp [pairI] at e
  | x :: xs, [], _, _, e => by simp [pairI] at e
  | x :: xs, y :: ys, 0, it, e => by
    simp [pairI] at e
    exact ⟨x, y, by simp, by simp, e.symm⟩
  | x :: xs, y :: ys, i + 1, it, e => by
    have e' : (pairI xs ys)[i]? = some it := by simpa [pairI] using e
    obtain ⟨v, w, h1, h2, h3⟩ := pairI_get xs ys i it e'
    exact ⟨v, w, by simpa using h1, by simpa using h2, h3⟩
theorem pairI_len : ∀ (xs ys : List Val), (pairI xs ys).length = min xs.length ys.length
  | [], _ => by simp [pairI]
  | x :: xs, [] => by simp [pairI]
  | x :: xs, y :: ys => by simp [pairI, pairI_len xs ys]
def obT : Ob → Option (Bool × List Val)
  | .lst xs => some (false, xs)
  | .tup xs => some (true, xs)
  | _ => none
theorem obO_obT {h : Heap} {n : Nat} {o : Ob} {xs : List Val} (e : obO h n = some (o, xs)) : h[n]? = some o ∧ ∃ b, obT o = some (b, xs) := by
  unfold obO at e
  split at e
  · rename_i hk
    cases e
    exact ⟨hk, _, rfl⟩
  · rename_i hk
    cases e
    exact ⟨hk, _, rfl⟩
  · cases e
theorem or_sq {H : Hp} {a : Addr} {o : Ob} {b : Bool} {xs : List Val} {K : PySem.W.Frag} (r : OR t ρ H a o) (e : obT o = some (b, xs)) : ∃ ys, SqA b K H a ys ∧ VRs t ρ xs ys := by
  unfold obT at e
  split at e
  · cases e
    obtain ⟨ys, hl, q⟩ := r
    exact ⟨ys, show SqL K H a ys from .of hl, q⟩
  · cases e
    obtain ⟨ys, hl, q⟩ := r
    exact ⟨ys, show SqT K H a ys from .of hl, q⟩
  · cases e
theorem wk_zip {n n' : Nat} {a a' : Addr} {o o' : Ob} {b b' : Bool} {xs xs' : List Val} (hn : ρ0[n]? = some a) (hn2 : ρ0[n']? = some a') (eo : obT o = some (b, xs)) (eo' : obT o' = some (b', xs')) : WalkOk t ρ0 ⟨pairI xs xs', [(n, o), (n', o')]⟩ (ItzA b b' t.K a a') := by
  intro i ρ h H ⟨τ, e⟩ x ok
  have hk := ok_at ok (n := n) (o := o) (by simp)
  have hk2 := ok_at ok (n := n') (o := o') (by simp)
  have hn' : ρ[n]? = some a := by rw [e, List.getElem?_append_left (List.getElem?_eq_some_iff.mp hn).1]; exact hn
  have hn2' : ρ[n']? = some a' := by rw [e, List.getElem?_append_left (List.getElem?_eq_some_iff.mp hn2).1]; exact hn2
  obtain ⟨ys, hl, r⟩ := or_sq (K := t.K) (x.ob n _ a hk hn') eo
  obtain ⟨ys', hl', r'⟩ := or_sq (K := t.K) (x.ob n' _ a' hk2 hn2') eo'
  refine ⟨fun hi => ⟨ys, ys', hl, hl', ?_⟩, fun it hit => ?_⟩
  · rw [← r.length, ← r'.length]
    simp [pairI_len] at hi
    omega
  obtain ⟨v, w, hv, hw, rfl⟩ := pairI_get xs xs' i it hit
  obtain ⟨y, hy, ry⟩ := pr_get r hv
  obtain ⟨y', hy', ry'⟩ := pr_get r' hw
  refine ⟨⟨ys, ys', y, y', hl, hl', hy, hy'⟩, fun z H' ⟨T, z1, z2, ez, hT, eH, hz, hz'⟩ => ?_⟩
  subst eH; subst ez
  have := hz ys hl
  rw [hy] at this; cases this
  have := hz' ys' hl'
  rw [hy'] at this; cases this
  exact ⟨ρ ++ [T], Ext.new x hT, x.new hT (or_tup (.cons ry (.cons ry' .nil))), VR.new x⟩
/-- what a value is walked as -/
theorem walk_cases {v : Val} {h : Heap} {w : Walk} (e : walkV v h = some w) : (∃ z, v = .str z ∧ w = ⟨z.cps.toList.map fun c => .v (.str ⟨#[c]⟩), []⟩) ∨ (∃ n xs, v = .ref n ∧ h[n]? = some (.lst xs) ∧ w = ⟨xs.map .v, [(n, .lst xs)]⟩) ∨ ∃ n xs, v = .ref n ∧ h[n]? = some (.tup xs) ∧ w = ⟨xs.map .v, [(n, .tup xs)]⟩ := by
  unfold walkV at e
  split at e
  · cases e; exact .inl ⟨_, rfl, rfl⟩
  · split at e
    · cases e; exact .inr (.inl ⟨_, _, rfl, by assumption, rfl⟩)
    · cases e; exact .inr (.inr ⟨_, _, rfl, by assumption, rfl⟩)
    · cases e
  · cases e
theorem i_val (O : Ok X t W) (ha : PE X a (tE t W (den g ma))) : PI X tg a (tI t W (fun s h => (dens g (.cons ma .nil) s h).bind fun vs h => srcR .val vs h)) := by
  refine ⟨fun pins s σ H R I ⟨ρ, h, sl, hr, sr, p⟩ => ?_⟩
  have p0 : Post t ρ H (den g ma sl h) (fun v h1 ρ1 H1 => ∃ w, walkV v h1 = some w ∧ ∀ J, WalkOk t ρ1 w J → R J H1) (EW W σ) := by
    have p := Post.bind p
    unfold dens at p
    refine (Post.bind p).imp fun v h1 ρ1 H1 e1 x1 p1 => ?_
    have p2 := Post.ok x1 (Post.bind (show Post t ρ1 H1 ((Res.ok [] h1).bind fun vs h => Res.ok (v :: vs) h) _ _ from p1))
    have p3 := Post.ok x1 p2
    unfold srcR srcV at p3
    dsimp only at p3
    split at p3
    · rename_i w e
      exact ⟨w, e, p3.ok x1⟩
    · exact p3.elim
  refine thn (ha.run pins s σ H (fun y H1 => ∃ ρ1 h1 v w, HR t ρ1 h1 H1 ∧ VR t ρ1 v y ∧ walkV v h1 = some w ∧ ∀ J, WalkOk t ρ1 w J → R J H1) I ⟨ρ, h, sl, hr, sr, p0.imp fun v h1 ρ1 H1 e1 x1 ⟨w, e, k⟩ y ry => ⟨ρ1, h1, v, w, x1, ry, e, k⟩⟩) fun u s1 ⟨y, H1, I1, r1, ρ1, h1, v, w, x1, ry, e, k⟩ => ?_
  rcases walk_cases e with ⟨z, rfl, rfl⟩ | ⟨n, xs, rfl, hk, rfl⟩ | ⟨n, xs, rfl, hk, rfl⟩
  · cases ry
    obtain ⟨tk, rfl⟩ := r1
    cases hz : z.cps.all (· < 128)
    · exact wpAny_pyIter_wide hz (pi_one (tk := s1.toks) I1 _ (turn_str _ z tk "str_iterator" (.inr rfl)) ⟨_, Heap.get?_push_size _ rfl, rfl, rfl⟩ (k _ wk_str))
    · exact wpAny_pyIter_ascii hz (pi_one (tk := s1.toks) I1 _ (turn_str _ z tk "str_ascii_iterator" (.inl rfl)) ⟨_, Heap.get?_push_size _ rfl, rfl, rfl⟩ (k _ wk_str))
  · obtain ⟨l, rfl, l1, ys, hl, rr⟩ := x1.ref hk ry
    obtain rfl : u = Value.ref l := r1
    obtain ⟨its, rv, pl, _⟩ := I1.list (SqL.of (K := X.K) hl)
    exact wpAny_pyIter_list pl.isList (pi_one (tk := s1.toks) I1 _ (turn_list l _) ⟨_, Heap.get?_push_size _ rfl, rfl, rfl⟩ (k _ (O.hK ▸ wk_list l1)))
  · obtain ⟨l, rfl, l1, ys, hl, rr⟩ := x1.ref hk ry
    obtain rfl : u = Value.ref l := r1
    obtain ⟨its, rv, pl, _⟩ := I1.tuple (SqT.of (K := X.K) hl)
    exact wpAny_pyIter_tuple (show s1.heap.IsTuple l its.toArray from pl) (pi_one (tk := s1.toks) I1 _ (turn_tuple l _) ⟨_, Heap.get?_push_size _ rfl, rfl, rfl⟩ (k _ (O.hK ▸ wk_tup l1)))
/-- a walk of what arguments give -/
theorem post_src {ρ : List Addr} {h : Heap} {H : Hp} {sr : Src} {vs : List Val} {k : Walk → Heap → List Addr → Hp → Prop} {E : Value → Option Addr → Hp → Prop} (x : HR t ρ h H) (p : Post t ρ H (srcR sr vs h) k E) : ∃ w, srcV sr vs h = some w ∧ k w h ρ H := by
  unfold srcR at p
  split at p
  · exact ⟨_, by assumption, p.ok x⟩
  · exact p.elim
theorem i_rng1 {p : Pos} (hm : X.mg "range" = none) (ha : PA X [a] (tA t W (dens g ms))) (hg : Gl X "range" := by rfl) (hs : starEach [a] X.env = [(false, eval a X.env)] := by rfl) : PI X tg (.Call (.Name "range" p) [a] [] pos) (tI t W (fun s h => (dens g ms s h).bind fun vs h => srcR .rng1 vs h)) := by
  refine PIi (pi_range1 hg hm ha hs) fun σ H R ⟨ρ, h, sl, hr, sr, p⟩ => ⟨ρ, h, sl, hr, sr, (Post.bind p).imp fun vs h1 ρ1 H1 e1 x1 p1 ys rv => ?_⟩
  obtain ⟨w, e, k⟩ := post_src x1 p1
  unfold srcV at e
  dsimp only at e
  split at e
  · rename_i j
    split at e
    · rename_i hj
      cases e
      obtain ⟨y, rfl, ry⟩ := vrs1 rv
      cases ry
      exact ⟨j, rfl, hj.1, hj.2, k _ wk_rng⟩
    · cases e
  · cases e
theorem i_rng2 {p : Pos} (hm : X.mg "range" = none) (ha : PA X [a, b] (tA t W (dens g ms))) (hg : Gl X "range" := by rfl) (hs : starEach [a, b] X.env = [(false, eval a X.env), (false, eval b X.env)] := by rfl) (hs2 : starEach [b] X.env = [(false, eval b X.env)] := by rfl) : PI X tg (.Call (.Name "range" p) [a, b] [] pos) (tI t W (fun s h => (dens g ms s h).bind fun vs h => srcR .rng2 vs h)) := by
  refine PIi (pi_range2 hg hm ha hs hs2) fun σ H R ⟨ρ, h, sl, hr, sr, p⟩ => ⟨ρ, h, sl, hr, sr, (Post.bind p).imp fun vs h1 ρ1 H1 e1 x1 p1 ys rv => ?_⟩
  obtain ⟨w, e, k⟩ := post_src x1 p1
  unfold srcV at e
  dsimp only at e
  split at e
  · rename_i i j
    split at e
    · rename_i hj
      cases e
      obtain ⟨y, z, rfl, ry, rz⟩ := vrs2 rv
      cases ry; cases rz
      exact ⟨i, j, rfl, hj, k _ wk_rng⟩
    · cases e
  · cases e
theorem i_enum {p tpos : Pos} {elts : List Expr} {kk : Nat} (O : Ok X t W) (hm : X.mg "enumerate" = none) (ha : PA X [a] (tA t W (dens g ms))) (hg : Gl X "enumerate" := by rfl) (hs : starEach [a] X.env = [(false, eval a X.env)] := by rfl) : PI X (.Tuple elts kk tpos) (.Call (.Name "enumerate" p) [a] [] pos) (tI t W (fun s h => (dens g ms s h).bind fun vs h => srcR .enum vs h)) := by
  refine PIi (pi_enum hg hm ha hs) fun σ H R ⟨ρ, h, sl, hr, sr, p⟩ => ⟨ρ, h, sl, hr, sr, (Post.bind p).imp fun vs h1 ρ1 H1 e1 x1 p1 ys rv => ?_⟩
  obtain ⟨w, e, k⟩ := post_src x1 p1
  unfold srcV at e
  dsimp only at e
  split at e
  · rename_i n
    split at e
    · rename_i xs hk
      cases e
      obtain ⟨y, rfl, ry⟩ := vrs1 rv
      obtain ⟨l, rfl, l1, zs, hl, rr⟩ := x1.ref hk ry
      exact ⟨l, zs, rfl, .of hl, k _ (O.hK ▸ wk_enum l1)⟩
    · cases e
  · cases e
theorem i_zip {p tpos : Pos} {elts : List Expr} {kk : Nat} (O : Ok X t W) (hm : X.mg "zip" = none) (ha : PA X [a, b] (tA t W (dens g ms))) (hg : Gl X "zip" := by rfl) (hs : starEach [a, b] X.env = (false, eval a X.env) :: starEach [b] X.env := by rfl) (hpl : (backTo pos (starEach [b] X.env)).any (·.1) = false := by rfl) : PI X (.Tuple elts kk tpos) (.Call (.Name "zip" p) [a, b] [] pos) (tI t W (fun s h => (dens g ms s h).bind fun vs h => srcR .zip vs h)) := by
  refine PIi (pi_zipAny hg hm ha hs hpl) fun σ H R ⟨ρ, h, sl, hr, sr, p⟩ => ⟨ρ, h, sl, hr, sr, (Post.bind p).imp fun vs h1 ρ1 H1 e1 x1 p1 ys rv => ?_⟩
  obtain ⟨w, e, k⟩ := post_src x1 p1
  unfold srcV at e
  dsimp only at e
  split at e
  · rename_i n n'
    split at e
    · rename_i o xs o' xs' hk hk2
      cases e
      obtain ⟨hk, b1, eo⟩ := obO_obT hk
      obtain ⟨hk2, b2, eo'⟩ := obO_obT hk2
      obtain ⟨y, z, rfl, ry, rz⟩ := vrs2 rv
      obtain ⟨l, rfl, l1, r1⟩ := x1.ref hk ry
      obtain ⟨l', rfl, l2, r2⟩ := x1.ref hk2 rz
      obtain ⟨zs, hl, _⟩ := or_sq (K := X.K) r1 eo
      obtain ⟨zs', hl', _⟩ := or_sq (K := X.K) r2 eo'
      exact ⟨b1, b2, l, l', zs, zs', rfl, hl, hl', k _ (O.hK ▸ wk_zip l1 l2 eo eo')⟩
    · cases e
  · cases e
end
end Mi


/-! # Mi6X: exceptions at the hand layer's level: clauses with and without a name, classes whose __init__ calls its base's -/
namespace Mi
open PySem PySem.Spec PyProof.Rows L2
abbrev ClF := Addr → Value → Option Addr → TS
/-- the ends behind a suite whose name goes -/
def cutD (D : Ends) (i : Nat) : Ends := { nx := fun σ H => D.nx (σ.set i none) H, rt := D.rt, bk := fun σ H => D.bk (σ.set i none) H, ct := fun σ H => D.ct (σ.set i none) H }
/-- what the clauses wish of an exception -/
def wAny (K : PySem.W.Frag) (Wout : WX) (D : Ends) : List (Value × Option Nat × ClF) → WX
  | [] => Wout
  | (c, none, ts) :: r => fun cls d σ H => ∃ b, PySem.W.exmOne K cls c = some b ∧ (b = true → ∀ a, H a = none → ts a cls d D σ H) ∧ (b = false → wAny K Wout D r cls d σ H)
  | (c, some i, ts) :: r => fun cls d σ H => ∃ b, PySem.W.exmOne K cls c = some b ∧ (b = true → ∀ a, H a = none → ts a cls d (cutD D i) (σ.set i (some (.ref a))) H) ∧ (b = false → wAny K Wout D r cls d σ H)
abbrev SuOk (X : Cx) (body : List Stmt) (ts : ClF) : Prop := ∀ (a : Addr) (oe : PySem.Obj) (cls : Value) (d : Option Addr) (pn : List (Addr × PySem.Obj)), Zc cls d oe → (∃ vs, oe.data = .fields vs) → PSs (X.suite a ((a, oe) :: pn)) body (ts a cls d)
inductive HdsAny (X : Cx) : List ExceptHandler → List (Value × Option Nat × ClF) → Prop
  | nil : HdsAny X [] []
  | plain {x : Str} {c : Value} {ts : ClF} {b₀ : Stmt} {suite : List Stmt} {np pos' : Pos} {hds : List ExceptHandler} {l : List (Value × Option Nat × ClF)} (hc : Names X x c) (hsu : SuOk X (b₀ :: suite) ts) (r : HdsAny X hds l) :
      HdsAny X (.ExceptHandler (some (.Name x np)) none (b₀ :: suite) pos' :: hds) ((c, none, ts) :: l)
  | named {x nm : Str} {c : Value} {i : Nat} {ts : ClF} {b₀ : Stmt} {suite : List Stmt} {np pos' : Pos} {hds : List ExceptHandler} {l : List (Value × Option Nat × ClF)} (hc : Names X x c) (hi : X.N[i]? = some nm) (hln : X.env.kindOf nm = some .local) (hsu : SuOk X (b₀ :: suite) ts) (r : HdsAny X hds l) :
      HdsAny X (.ExceptHandler (some (.Name x np)) (some nm) (b₀ :: suite) pos' :: hds) ((c, some i, ts) :: l)
section
variable {X : Cx} {body : List Stmt} {h₀ : ExceptHandler} {hds : List ExceptHandler} {l : List (Value × Option Nat × ClF)} {pos : Pos} {tb : WX → TS} {Wout : WX}
theorem ps_try_any (hs : X.stack = X.env :: X.outer) (hf : X.env.frame = some X.env.locals) (hN : X.N.Nodup) (tk : Takes X Wout) (hb : ∀ (W : WX) (pn : List (Addr × PySem.Obj)) (xe : Value → Shared → Prop), Takes (X.tr pn xe) W → PassesOwn (model X.prog X.w) X.A X.env xe → PSs (X.tr pn xe) body (tb W)) (hh : HdsAny X (h₀ :: hds) l) :
    PS X (.Try body (h₀ :: hds) [] [] pos) (fun D σ H => tb (wAny X.K Wout D l) D σ H) := by
  refine ⟨fun pins s σ H D I hyp => ?_⟩
  have okX := I.ok
  have frX : X.A.frames = some (X.env :: X.outer) := okX.frames.trans (by rw [hs])
  refine wpAny_Try_except (wpAny_mono ((hb (wAny X.K Wout D l) (X.pn ++ pins) (fun e s₁ => wpAny (model X.prog X.w) X.A (noteFrame e X.env) (fun _ s₂ => wpAny (model X.prog X.w) X.A (setFlight e none) (fun _ s₃ => wpAny (model X.prog X.w) X.A (handleBy e X.env (h₀ :: hds)) (SP X pins D) X.xe s₃) X.xe s₂) X.xe s₁) (fun u s' caught => ?_) PassesOwn.looking).run [] s σ H D (I.toTry _) hyp) (fun f s1 good => ?_) fun e s1 z => z)
  · obtain ⟨a, B, sI, pins', σ', H', cls, d, eu, Jt, nb, upA, skyA, na, osA, ag, w⟩ := caught
    subst eu
    have Jx : Inv X pins σ' H' sI := Jt.ofTry okX
    refine (show wpAny (model X.prog X.w) X.A (noteFrame (.ref a) X.env) _ _ _ from Sky.land Zc.steady frX hf (show Sky B (X.env :: X.outer) a (Zc cls d) X.env.locals s'.heap by rw [← hs]; exact skyA) fun h3 fl3 up3 => ?_)
    have Jl : Inv X pins σ' H' { s' with heap := h3 } := Jx.landed nb fl3.1 (upA.trans up3) osA ag
    obtain ⟨oe3, vs3, at3, z3, dat3⟩ := fl3.there
    have off : a ∉ frs (X.env :: X.outer) := fun hm => by
      obtain ⟨_, o', eo, nofld⟩ := fl3.2.2.1.mem hm
      rw [at3] at eo
      cases eo
      exact nofld _ dat3
    have offL : a ≠ X.env.locals := fun z => off (List.mem_filterMap.mpr ⟨X.env, List.mem_cons_self, by rw [hf, z]⟩)
    have offF : a ∉ X.fs := fun hm => by
      obtain ⟨e, he, q⟩ := List.mem_filterMap.mp hm
      exact off (List.mem_filterMap.mpr ⟨e, List.mem_cons_of_mem _ he, q⟩)
    have Su3 := Jl.suite at3 dat3 na offL offF
    have LT : PySem.W.Looks (model X.prog X.w) h3 (typeOf (.ref a)) cls := fun A Q E s k q => wpAny_typeOf_ref (k _ _ at3) (by rw [z3.1]; exact q)
    have test : ∀ {x : Str} {c : Value} {np : Pos} {Q E : Value → Shared → Prop}, Names X x c → Q c { s' with heap := h3 } → wpAny (model X.prog X.w) (X.A.mark (some (.ref a))) (eval (.Name x np) X.env) Q E { s' with heap := h3 } := fun {x c np Q E} hc q => by
      obtain ⟨hg, hdbg, hm⟩ := hc
      rcases hm with hm | ⟨hm, hv, hnn⟩
      · exact ld_glob (X := X.suite a ((a, oe3) :: (X.pn ++ pins))) Su3 hg hm q hdbg
      · exact ld_blt (X := X.suite a ((a, oe3) :: (X.pn ++ pins))) Su3 hg hm hv q hnn hdbg
    have all : ∀ {hs2 : List ExceptHandler} {l2 : List (Value × Option Nat × ClF)}, HdsAny X hs2 l2 → wAny X.K Wout D l2 cls d σ' H' → wpAny (model X.prog X.w) X.A (handleBy (.ref a) X.env hs2) (SP X pins D) X.xe { s' with heap := h3 } := by
      intro hs2 l2 hk
      induction hk with
      | nil =>
        intro w
        refine wpAny_handleBy_nil ?_
        obtain ⟨_, _, _, oe, vs, T, oT, ts', he, hz, hd, h1, hr⟩ := id fl3
        unfold PySem.passOn
        refine wpAny_bind (wpAny_field he hd h1 ?_)
        rw [if_neg (by simp : ¬ ((Value.ref T == Value.none) = true))]
        have away : wpAny (model X.prog X.w) X.A (setFlight (.ref a) X.env.frame) (fun _ s4 => wpAny (model X.prog X.w) X.A (throw (.ref a) : Sem Flow) (SP X pins D) X.xe s4) X.xe { s' with heap := h3 } := by
          rw [hf]
          exact HandSPX.setFlight_upZ fl3 fun h4 hh4 up4 => wpAny_throw (tk _ _ ⟨a, B, sI, pins, σ', H', cls, d, rfl, Jx, nb, (upA.trans up3).trans up4, .inr (.inr (by rw [hs]; exact hh4)), na, osA, ag, w⟩)
        first
          | exact wpAny_bind (wpAny_pure (wpAny_bind away))
          | exact wpAny_bind away
      | @plain x c ts b₀ suite np pos' hds2 l2 hc hsu r ih =>
        intro w
        obtain ⟨b, hb1, hyes, hno⟩ := w
        refine wpAny_handleBy_cons (codeAny_handlers_test (test hc ((PySem.W.exm_one (M := model X.prog X.w) Jl.kIn LT hb1).here ?_))) (by intro q; cases q)
        cases b with
        | false => exact (show wpAny _ X.A (handleBy (.ref a) X.env hds2) _ _ _ from ih (hno rfl))
        | true =>
          refine codeAny_handlers_suite (HandSPX.lands_againZ fl3 fun h4 fl4 up4 => ?_)
          obtain ⟨oe4, vs4, at4, z4, dat4⟩ := fl4.there
          have Su4 := (Jx.landed nb fl4.1 ((upA.trans up3).trans up4) osA ag : Inv X pins σ' H' { s' with heap := h4 }).suite at4 dat4 na offL offF
          refine wpAny_mono ((hsu a oe4 cls d (X.pn ++ pins) z4 ⟨_, dat4⟩).run [] _ _ H' _ Su4 (hyes rfl a na)) (fun f s6 good => ?_) fun _ _ z => z.elim
          cases f with
          | ret u => obtain ⟨v6, σ6, H6, S6, r6, q6⟩ := good; exact ⟨_, _, _, S6.unsuite okX, r6, q6⟩
          | next => obtain ⟨σ6, H6, S6, q6⟩ := good; exact ⟨_, _, S6.unsuite okX, q6⟩
          | brk => obtain ⟨σ6, H6, S6, q6⟩ := good; exact ⟨_, _, S6.unsuite okX, q6⟩
          | cont => obtain ⟨σ6, H6, S6, q6⟩ := good; exact ⟨_, _, S6.unsuite okX, q6⟩
      | @named x nm c i ts b₀ suite np pos' hds2 l2 hc hi hln hsu r ih =>
        intro w
        obtain ⟨b, hb1, hyes, hno⟩ := w
        refine wpAny_handleBy_cons (codeAny_handlers_test (test hc ((PySem.W.exm_one (M := model X.prog X.w) Jl.kIn LT hb1).here ?_))) (by intro q; cases q)
        cases b with
        | false => exact (show wpAny _ X.A (handleBy (.ref a) X.env hds2) _ _ _ from ih (hno rfl))
        | true =>
          refine codeAny_handlers_suite_as (HandSPX.lands_againZ fl3 fun h4 fl4 up4 => ?_)
          obtain ⟨oe4, vs4, at4, z4, dat4⟩ := fl4.there
          have Su4 := (Jx.landed nb fl4.1 ((upA.trans up3).trans up4) osA ag : Inv X pins σ' H' { s' with heap := h4 }).suite at4 dat4 na offL offF
          refine store_ok (X := X.suite a ((a, oe4) :: (X.pn ++ pins))) (v := .ref a) Su4 hN hi (.inl hln) rfl (fun s5 Su5 => ?_) (.inr hln)
          refine wpAny_mono ((hsu a oe4 cls d (X.pn ++ pins) z4 ⟨_, dat4⟩).run [] s5 _ H' _ Su5 (hyes rfl a na)) (fun f s6 good => ?_) fun _ _ z => z.elim
          have gone : ∀ {σ6 : L2.St} {H6 : Hp} {Q : Shared → Prop}, Inv (X.suite a ((a, oe4) :: (X.pn ++ pins))) [] σ6 H6 s6 → (∀ s7, Inv X pins (σ6.set i none) H6 s7 → Q s7) → wpAny (model X.prog X.w) X.A (do bindName X.env nm .none; unbindBehindTheSuite X.env nm pos') (fun _ s7 => Q s7) X.xe s6 := fun {σ6 H6 Q} S6 hq => gone_ok (S6.unsuite okX) hN hi hln hq
          cases f with
          | ret u => obtain ⟨v6, σ6, H6, S6, r6, q6⟩ := good; exact gone S6 fun s7 J7 => ⟨_, _, _, J7, r6, q6⟩
          | next => obtain ⟨σ6, H6, S6, q6⟩ := good; exact gone S6 fun s7 J7 => ⟨_, _, J7, q6⟩
          | brk => obtain ⟨σ6, H6, S6, q6⟩ := good; exact gone S6 fun s7 J7 => ⟨_, _, J7, q6⟩
          | cont => obtain ⟨σ6, H6, S6, q6⟩ := good; exact gone S6 fun s7 J7 => ⟨_, _, J7, q6⟩
    exact all hh w
  · cases f with
    | ret u => obtain ⟨v, σ', H', J', r, q⟩ := good; exact ⟨v, σ', H', J'.ofTry okX, r, q⟩
    | brk => obtain ⟨σ', H', J', q⟩ := good; exact ⟨σ', H', J'.ofTry okX, q⟩
    | cont => obtain ⟨σ', H', J', q⟩ := good; exact ⟨σ', H', J'.ofTry okX, q⟩
    | next => obtain ⟨σ', H', J', q⟩ := good; exact wpAny_execs_nil ⟨σ', H', J'.ofTry okX, q⟩
end
/-! ## classes -/
/-- what is asked of a class's __init__ that passes a text on -/
def spBI (K : PySem.W.Frag) : Sp := fun vs H Q E => ∃ (a C : Addr) (w : V), vs = [.ref a, w] ∧ OexC K C ∧ H a = some (exo a C none) ∧ Q .non H
/-- .. that stores its arguments as fields -/
def spI (C : Addr) (fs : List Str) : Sp := fun vs H Q E => ∃ (a : Addr) (ws : List V), vs = .ref a :: ws ∧ ws.length = fs.length ∧ H a = some (exo a C none) ∧
  ∀ d H2, H d = none → d ≠ a → H2 a = some (exo a C (some d)) → H2 d = some (exd d (fs.zip ws).reverse) → (∀ b, b ≠ a → b ≠ d → H2 b = H b) → Q .non H2
theorem spBI_len {K : PySem.W.Frag} {x y : Str} {vs : List V} {H : Hp} {Q : VK} {E : XK} (h : spBI K vs H Q E) : vs.length = ([x, y] : List Str).length := by
  obtain ⟨a, C, w, rfl, _⟩ := h
  rfl
theorem spI_len {C : Addr} {x : Str} {fs : List Str} {vs : List V} {H : Hp} {Q : VK} {E : XK} (h : spI C fs vs H Q E) : vs.length = (x :: fs).length := by
  obtain ⟨a, ws, rfl, e, _⟩ := h
  simp [e]
theorem base_ok {K : PySem.W.Frag} {x y : Str} {vs : List V} {H : Hp} {Q : VK} {E : XK} (h : spBI K vs H Q E) : tDrop (tVeI K (tCons (tVar 0) (tCons (tVar 1) tNil))) { nx := fun _ H' => Q .non H', rt := Q } (L2.start [x, y] vs) H := by
  obtain ⟨a, C, w, rfl, T, e, q⟩ := h
  exact ⟨.ref a, rfl, w, rfl, a, C, [w], rfl, by simp, T, e, q⟩
/-- the class at D, whose __init__ is the def at fB -/
structure ExB (K : PySem.W.Frag) (mg : Str → Option Value) (x : Str) (D fB : Addr) : Prop where
  gD : mg x = some (.ref D)
  rd : ClX.CRead K D (.type "type")
  iv : ClX.CVal K D (.type "type") "__init__" (.ref fB) (.ref fB)
  kf : PySem.W.keepIn K (.ref fB) = true
theorem pe_clsinit {X : Cx} {x : Str} {D fB : Addr} {e : Expr} {es : List Expr} {ta : TA} {k : Nat} {fd : FuncData} {ps : List Str} {sp : Sp} {p1 p2 pos : Pos} {pl : Sem Bool} (B : ExB X.K X.mg x D fB) (F : FnOk X.prog X.w X.K X.mg X.base (L2.CX X.prog X.w) k fB fd ps sp) (hr : Room k X.A) (hb : Binds X.K fd ps []) (hg : Gl X x) (ha : PA X (e :: es) ta)
    (hc : eval (.Call (.Attribute (.Name x p1) "__init__" p2) (e :: es) [] pos) X.env = (do
      let ov ← eval (.Name x p1) X.env
      standAt p2.atName
      let (f, first) ← holding [ov] (getMethod ov "__init__" pl)
      callWith pos f first (backTo pos (starEach (e :: es) X.env)) (backToKw pos (keywordEach [] X.env))) := by rfl)
    (hdb : (x == ("__debug__" : Str)) = false := by decide) (he : starEach (e :: es) X.env = (false, eval e X.env) :: starEach es X.env := by rfl) (hpl : (backTo pos (starEach es X.env)).any (·.1) = false := by rfl) :
    PE X (.Call (.Attribute (.Name x p1) "__init__" p2) (e :: es) [] pos) (tCall sp [] L2.E0 ta) := by
  refine ⟨fun pins s σ H Q I h => ?_⟩
  refine PySem.W.methodCall_KW (ld_glob I hg B.gD ?_ hdb) hc
  refine PySem.W.method_cls (I.tok _).kIn B.rd.ga (ClX.getcval_ok (I.tok _) B.rd B.iv fun s' I' => ?_)
  show wpAny _ _ (callWith pos (Value.ref fB) [] (backTo pos (starEach (e :: es) X.env)) []) _ _ _
  refine PySem.W.callWith_K (h₀ := X.base) I.ok.mod.kin B.kf (thn (ha.run pos pins s' σ H _ I' h) fun us s1 ⟨vs, H1, I1, r, q⟩ => ⟨I1.kIn, ?_⟩) he hpl
  exact run_fn F hr hb .nil passL I1 r q
/-- a class: made, raised, its fields read -/
structure ExC (K : PySem.W.Frag) (mg : Str → Option Value) (x : Str) (C fI : Addr) (fs : List Str) : Prop where
  gC : mg x = some (.ref C)
  ox : OexC K C
  iC : PySem.W.findIn K (.ref C) "__init__" = some (some (.ref fI))
  tI : PySem.W.typeIn K (.ref fI) = some (.type "function")
  xf : XfC K C
  no : ∀ f ∈ fs, PySem.W.findIn K (.ref C) f = some none
theorem st0 {σ : L2.St} {H : Hp} {i : Nat} {v : V} {Q : VK} (e : σ[i]? = some (some v)) (q : Q v H) : tVar i σ H Q := ⟨v, e, q⟩
theorem init1_ok {K : PySem.W.Frag} {C : Addr} {m f : Str} {vs : List V} {H : Hp} {Q : VK} {E : XK} (T : OexC K C) (no : PySem.W.findIn K (.ref C) f = some none) (h : spI C [f] vs H Q E) :
    tSeq (tDrop (tCall (spBI K) [] L2.E0 (tCons (tVar 0) (tCons (tC (.str m)) tNil)))) (tOst K f (tVar 0) (tVar 1)) { nx := fun _ H' => Q .non H', rt := Q } (L2.start ["self", f] vs) H := by
  obtain ⟨a, ws, rfl, hl, e, q⟩ := h
  match ws, hl with
  | [w], _ =>
    refine ⟨.ref a, rfl, a, C, .str m, rfl, T, e, ?_⟩
    refine ⟨w, rfl, .ref a, rfl, a, C, rfl, T, no, .inl ⟨e, fun d hd hda => q d _ hd hda upd_same ?_ fun b h1 h2 => ?_⟩⟩
    · rw [upd_ne hda, upd_same]; rfl
    · rw [upd_ne h1, upd_ne h2]
theorem init2_ok {K : PySem.W.Frag} {C : Addr} {m f f2 : Str} {vs : List V} {H : Hp} {Q : VK} {E : XK} (T : OexC K C) (no : PySem.W.findIn K (.ref C) f = some none) (no2 : PySem.W.findIn K (.ref C) f2 = some none) (h : spI C [f, f2] vs H Q E) :
    tSeq (tDrop (tCall (spBI K) [] L2.E0 (tCons (tVar 0) (tCons (tC (.str m)) tNil)))) (tSeq (tOst K f (tVar 0) (tVar 1)) (tOst K f2 (tVar 0) (tVar 2))) { nx := fun _ H' => Q .non H', rt := Q } (L2.start ["self", f, f2] vs) H := by
  obtain ⟨a, ws, rfl, hl, e, q⟩ := h
  match ws, hl with
  | [w, w2], _ =>
    refine ⟨.ref a, rfl, a, C, .str m, rfl, T, e, ?_⟩
    refine ⟨w, rfl, .ref a, rfl, a, C, rfl, T, no, .inl ⟨e, fun d hd hda => ?_⟩⟩
    refine ⟨w2, rfl, .ref a, rfl, a, C, rfl, T, no2, .inr ⟨d, [(f, w)], upd_same, by rw [upd_ne hda, upd_same], by simp, q d _ hd hda ?_ upd_same fun b h1 h2 => ?_⟩⟩
    · rw [upd_ne (Ne.symm hda), upd_same]
    · rw [upd_ne h2, upd_ne h1, upd_ne h2]
theorem mko_in {C : Addr} {fs : List Str} {vs : List V} {H1 : Hp} {Q : XK} (hl : vs.length = fs.length) (h9 : fs.length ≤ 900) (q : ∀ d, H1 d = none → Q (.ref C) (some d) (upd H1 d (.xd (fs.zip vs).reverse))) :
    vs.length ≤ 1000 ∧ ∀ a, H1 a = none → spI C fs (.ref a :: (vs ++ [])) (upd H1 a (exo a C none)) (fun v H2 => v = .non ∧ ∃ d gs, H2 a = some (exo a C (some d)) ∧ H2 d = some (exd d gs) ∧ H1 d = none ∧ Q (.ref C) (some d) (upd (del H2 a) d (.xd gs))) (fun _ _ _ => False) := by
  refine ⟨by omega, fun a ha => ⟨a, vs, by rw [List.append_nil], hl, upd_same, fun d H2 hd hda e1 e2 e3 => ⟨rfl, d, _, e1, e2, ?_, ?_⟩⟩⟩
  · rw [upd_ne hda] at hd; exact hd
  · rw [upd_ne hda] at hd
    have : upd (del H2 a) d (.xd (fs.zip vs).reverse) = upd H1 d (.xd (fs.zip vs).reverse) := by
      funext b
      by_cases hbd : b = d
      · subst hbd; rw [upd_same, upd_same]
      · rw [upd_ne hbd, upd_ne hbd]
        by_cases hba : b = a
        · subst hba; rw [del_same, ha]
        · rw [del_ne hba, e3 b hba hbd, upd_ne hba]
    rw [this]
    exact q d hd
theorem ps_rse {X : Cx} {W : WX} {x : Str} {C fI : Addr} {fs ps : List Str} {e : Expr} {es : List Expr} {ta : TA} {k : Nat} {fd : FuncData} {p pos pos' : Pos} (hc : X.calm = true) (tk : Takes X W) (T : ExC X.K X.mg x C fI fs) (F : FnOk X.prog X.w X.K X.mg X.base (L2.CX X.prog X.w) k fI fd ps (spI C fs)) (hr : Room (k + 1) X.A) (hb : Binds X.K fd ps [])
    (hg : Gl X x) (ha : PA X (e :: es) ta) (hdb : (x == ("__debug__" : Str)) = false := by decide) (he : starEach (e :: es) X.env = (false, eval e X.env) :: starEach es X.env := by rfl) (hpl : (backTo pos (starEach es X.env)).any (·.1) = false := by rfl) :
    PS X (.Raise (some (.Call (.Name x p) (e :: es) [] pos)) none pos') (fun _ σ H => tMkO C (spI C fs) [] ta σ H fun cls d H' => W cls d σ H') :=
  L2.ps_raise hc tk (pmk_oex (x := x) (C := C) (fI := fI) (dvs := []) T.ox T.iC T.tI F hr hb .nil passL hg T.gC ha hdb he hpl)
/-- an error of the class at S is, or isn't, what «except T» names -/
theorem exm_of {K : PySem.W.Frag} {S T : Addr} {b : Bool} (e1 : PySem.W.subIn K (.ref T) (.type "BaseException") = some true) (h2 : PySem.W.isClsIn K T = true) (h3 : PySem.W.typeIn K (.ref T) = some (.type "type")) (h4 : PySem.W.subIn K (.ref S) (.ref T) = some b) :
    PySem.W.exmOne K (.ref S) (.ref T) = some b := by
  have k1 : (PySem.W.subIn K (.ref T) (.type "BaseException") == some true) = true := by rw [e1] <;> rfl
  have k2 : ((PySem.W.clsIn K T).isSome && PySem.W.typeIn K (.ref T) == some (.type "type")) = true := by
    rw [show (PySem.W.clsIn K T).isSome = true from h2, h3] <;> rfl
  show (if (PySem.W.subIn K (.ref T) (.type "BaseException") == some true) = true then (if ((PySem.W.clsIn K T).isSome && PySem.W.typeIn K (.ref T) == some (.type "type")) = true then PySem.W.subIn K (.ref S) (.ref T) else none) else none) = some b
  rw [if_pos k1, if_pos k2]
  exact h4
end Mi


/-! # Mi7: targets, comprehensions, statements, defs -/
namespace Mi
open PySem PySem.Spec PyProof.Rows L2

/-! ## targets -/
def gN : List Nat → TGs
  | [] => gNil
  | i :: is => gCons (gName i) (gN is)
def gT (K : PySem.W.Frag) : Tg → TG
  | .nm i => gName i
  | .tp is => fun v σ H Q => gTup K is.length (gN is) v σ H Q ∨ gLst K is.length (gN is) v σ H Q
def tgIx : Tg → List Nat
  | .nm i => [i]
  | .tp is => is
theorem wipe_len (σ : L2.St) (vs : List Nat) : (L2.wipe σ vs).length = σ.length := L2.wipe_length σ vs
theorem wipe_get (σ : L2.St) : ∀ (vs : List Nat) (i : Nat), (L2.wipe σ vs)[i]? = if i ∈ vs ∧ i < σ.length then some none else σ[i]?
  | [], i => by simp [L2.wipe]
  | v :: vs, i => by
    unfold L2.wipe
    have ih := wipe_get σ vs i
    by_cases h : v = i
    · subst h
      by_cases hl : v < σ.length
      · rw [List.getElem?_set_self (by rw [wipe_len]; exact hl), if_pos ⟨List.mem_cons_self, hl⟩]
      · rw [List.getElem?_eq_none (by rw [List.length_set, wipe_len]; omega), if_neg (by omega), List.getElem?_eq_none (by omega)]
    · rw [List.getElem?_set_ne h, ih]
      have h' : ¬ i = v := fun z => h z.symm
      simp [h']
theorem wipe_set {σ : L2.St} {vs : List Nat} {i : Nat} {x : Option V} (hi : i ∈ vs) : L2.wipe (σ.set i x) vs = L2.wipe σ vs := by
  apply List.ext_getElem?
  intro j
  rw [wipe_get, wipe_get, List.length_set]
  by_cases h : i = j
  · subst h
    by_cases hl : i < σ.length
    · simp [hi, hl]
    · rw [if_neg (by omega), if_neg (by omega), List.getElem?_eq_none (by rw [List.length_set]; omega), List.getElem?_eq_none (by omega)]
  · rw [List.getElem?_set_ne h]
theorem wipe_idem {σ : L2.St} {vs : List Nat} : L2.wipe (L2.wipe σ vs) vs = L2.wipe σ vs := by
  apply List.ext_getElem?
  intro j
  rw [wipe_get, wipe_get, wipe_len]
  by_cases h : j ∈ vs ∧ j < σ.length
  · rw [if_pos h, if_pos h]
  · rw [if_neg h, if_neg h]
section
variable {t : Th} {ρ : List Addr} {h : Heap} {H : Hp}
theorem sr_wipe {s : Sl} {σ : L2.St} (hx : t.ex = none) (r : SR t ρ s σ) : ∀ vs : List Nat, SR t ρ (Mi.wipe s vs) (L2.wipe σ vs)
  | [] => r
  | v :: vs => by
    unfold Mi.wipe L2.wipe
    exact ⟨pr_set (show SO t ρ none none from trivial) v (sr_wipe hx r vs).pr, fun _ _ _ _ e => by rw [hx] at e; cases e⟩
theorem gN_use {K : PySem.W.Frag} {Q : L2.St → Hp → Prop} : ∀ {is : List Nat} {vs : List Val} {ys : List V} {s s' : Sl} {σ : L2.St}, VRs t ρ vs ys → SR t ρ s σ → setAll is vs s = some s' →
    (∀ σ', SR t ρ s' σ' → (∀ ws, (∀ i ∈ is, i ∈ ws) → L2.wipe σ' ws = L2.wipe σ ws) → Q σ' H) → gN is ys σ H Q
  | [], vs, ys, s, s', σ, r, sr, e, k => by
    cases vs with
    | nil => cases r; cases e; exact ⟨rfl, k σ sr fun _ _ => rfl⟩
    | cons v vs => cases e
  | i :: is, vs, ys, s, s', σ, r, sr, e, k => by
    cases vs with
    | nil => cases e
    | cons v vs =>
      cases r with
      | cons r rs =>
        refine ⟨_, _, rfl, ?_⟩
        refine gN_use (K := K) rs (sr.put i r) e fun σ' sr' hw => k σ' sr' fun ws hws => ?_
        rw [hw ws fun j hj => hws j (List.mem_cons_of_mem _ hj)]
        exact wipe_set (hws i List.mem_cons_self)
omit t ρ h H in
theorem setAll_len : ∀ {is : List Nat} {vs : List Val} {s s' : Sl}, setAll is vs s = some s' → vs.length = is.length
  | [], [], _, _, _ => rfl
  | [], _ :: _, _, _, e => by cases e
  | _ :: _, [], _, _, e => by cases e
  | _ :: _, _ :: _, _, _, e => by simp only [List.length_cons, Nat.add_right_cancel_iff]; exact setAll_len e
theorem gT_use {K : PySem.W.Frag} {m : Tg} {v : Val} {y : V} {s s' : Sl} {σ : L2.St} {Q : L2.St → Hp → Prop} (x : HR t ρ h H) (r : VR t ρ v y) (sr : SR t ρ s σ) (e : tgV m v s h = some s')
    (k : ∀ σ', SR t ρ s' σ' → (∀ ws, (∀ i ∈ tgIx m, i ∈ ws) → L2.wipe σ' ws = L2.wipe σ ws) → Q σ' H) : gT K m y σ H Q := by
  cases m with
  | nm i =>
    cases e
    exact k _ (sr.put i r) fun ws hws => wipe_set (hws i (List.mem_singleton.mpr rfl))
  | tp is =>
    unfold tgV at e
    dsimp only at e
    split at e
    · split at e
      · rename_i vs hk
        obtain ⟨a, rfl, a1, ys, hl, rr⟩ := x.ref hk r
        refine Or.inl ⟨a, ys, rfl, .of hl, ?_, gN_use (K := K) rr sr e k⟩
        rw [← rr.length]
        exact setAll_len e
      · rename_i vs hk
        obtain ⟨a, rfl, a1, ys, hl, rr⟩ := x.ref hk r
        refine Or.inr ⟨a, ys, rfl, .of hl, ?_, gN_use (K := K) rr sr e k⟩
        rw [← rr.length]
        exact setAll_len e
      · cases e
    · cases e
end
section
variable {t : Th} {ρ ρ1 : List Addr} {h : Heap} {H H1 : Hp} {D : Addr}
/-- an object that is not tracked is written -/
theorem HR.aside (x : HR t ρ h H) (hD : D ∉ ρ) (hf : ∀ o w, H D ≠ some (.frz o w)) (hx : ∀ ys, H D ≠ some (.xd ys)) {u : HO} : HR t ρ h (upd H D u) := by
  refine ⟨x.len, x.nd, fun n ob b e1 e2 => (x.ob n ob b e1 e2).at (upd_ne fun z => hD (z ▸ List.mem_of_getElem? e2)), ?_, fun _ _ d fs ed => ?_⟩
  · rcases x.sc with ⟨o, e⟩ | e
    · exact .inl ⟨o, by rw [upd_ne fun z => hf _ _ (z ▸ e)]; exact e⟩
    · exact .inr e
  · obtain ⟨ys, e, q⟩ := x.xs _ _ d fs ed
    exact ⟨ys, by rw [upd_ne fun z => hx _ (z ▸ e)]; exact e, q⟩
theorem Ext.aside (e : Ext ρ1 H1 ρ H) (hD : H1 D = none) {u : HO} : Ext ρ1 H1 ρ (upd H D u) :=
  ⟨e.pre, fun a o ha ho => by rw [upd_ne (ne_of_none ho hD)]; exact e.keep a o ha ho, e.nu⟩
/-- it is tracked from now on -/
theorem HR.adopt (x : HR t ρ h H) (hD : D ∉ ρ) {o : Ob} (k : OR t (ρ ++ [D]) H D o) : HR t (ρ ++ [D]) (h ++ [o]) H := by
  refine ⟨by simp [x.len], ?_, fun n ob b e1 e2 => ?_, x.sc, fun _ _ d fs ed => by obtain ⟨ys, e, q⟩ := x.xs _ _ d fs ed; exact ⟨ys, e, pr_mono (fun _ _ z => ⟨z.1, z.2.app⟩) q⟩⟩
  · rw [List.nodup_append]
    refine ⟨x.nd, by simp, fun b hb c hc e => ?_⟩
    have hc' : c = D := by simpa using hc
    exact hD (by rw [← hc', ← e]; exact hb)
  · by_cases hn : n < h.length
    · rw [List.getElem?_append_left hn] at e1
      rw [List.getElem?_append_left (by rw [x.len]; exact hn)] at e2
      exact (x.ob n ob b e1 e2).app
    · have hn2 : n = h.length := by
        have := (List.getElem?_eq_some_iff.mp e1).1
        simp at this; omega
      subst hn2
      simp at e1
      rw [← x.len] at e2
      simp at e2
      subst e1; subst e2
      exact k
theorem Ext.adopt (e : Ext ρ1 H1 ρ H) (hD : H1 D = none) : Ext ρ1 H1 (ρ ++ [D]) H := by
  refine ⟨?_, e.keep, fun a h1 h2 => ?_⟩
  · obtain ⟨τ, rfl⟩ := e.pre
    exact ⟨τ ++ [D], by rw [List.append_assoc]⟩
  · rcases List.mem_append.mp h1 with z | z
    · exact e.nu a z h2
    · have : a = D := by simpa using z
      rw [this]; exact hD
theorem Ext.not (e : Ext ρ1 H1 ρ H) (hD : D ∉ ρ1) {o : HO} (ho : H1 D = some o) : D ∉ ρ ∧ H D = some o :=
  ⟨fun hm => (by have := e.nu D hm hD; rw [ho] at this; cases this), e.keep D o hD ho⟩
end

theorem Post.bind1 {α β : Type} {t : Th} {ρ : List Addr} {H : Hp} {E : Value → Option Addr → Hp → Prop} {r : Res α} {f : α → Heap → Res β} {k : β → Heap → List Addr → Hp → Prop} (p : Post t ρ H (r.bind f) k E) :
    Post t ρ H r (fun a h1 _ _ => Post t ρ H (f a h1) k E) E := by
  cases r with
  | ok a h1 => exact fun ρ2 H2 e2 x => p
  | exc c fs h => exact p
  | bad => exact p
/-! ## comprehensions -/
abbrev W0 : L2.WX := fun _ _ _ _ => False
theorem OkC.blk {X : Cx} {t : Th} {W : L2.WX} (O : OkC X t W) (s : Shared) (H : Hp) (scope : Scope) (C : Addr) (cl : List (Str × Addr)) (fp : List Addr) : OkC (X.blk s H scope (compEnvC scope cl C X.env) fp) t W0 :=
  ⟨⟨O.hK, O.nd, O.hu, O.hg, O.sm, PassesOwn.never, takes0⟩, O.calm, O.px⟩
section
variable {X : Cx} {t : Th} {W : L2.WX} {g : G} {a b c e o tg elt iter : Expr} {es ifs : List Expr} {ma mb mc m mo me : Ex} {moc : Exo} {ms : Exs} {pos : Pos} {mt : Tg} {sr : Src}
theorem c_none : PTs X [] (tT t W (denc g .none)) := ⟨fun pins s σ H Q I ⟨ρ, h, sl, x, sr, p⟩ => pts_nil.run pins s σ H Q I (Post.ok x p)⟩
theorem c_some (ha : PT X a (tT t W (denT g ma))) : PTs X [a] (tT t W (denc g (.some ma))) := by
  refine ⟨fun pins s σ H Q I ⟨ρ, h, sl, x, sr, p⟩ => (pts_one ha).run pins s σ H Q I ⟨ρ, h, sl, x, sr, ?_⟩⟩
  unfold denc at p
  exact p
/-- a comprehension's reading from what it gathers -/
theorem lc_imp {own : List Nat} (hpx : t.ex = none) (hown : ∀ i ∈ tgIx mt, i ∈ own) {σ : L2.St} {H : Hp} {Q : VK} (q : tE t W (den g (.lc me mt sr ms own moc)) σ H Q) :
    tLc (tI t W (fun s h => (dens g ms s h).bind fun vs h => srcR sr vs h)) (gT X.K mt) (tT t W0 (denc g moc)) (tE t W0 (den g me)) own σ H Q := by
  obtain ⟨ρ, h, s, hr, hs, p⟩ := q
  unfold den at p
  refine ⟨ρ, h, s, hr, hs, (Post.bind p).imp fun w h1 ρ1 H1 e1 x1 p1 J hJ D hD => ?_⟩
  have hs1 := SR.ext e1 hs
  have nD : D ∉ ρ1 := x1.free hD
  refine ⟨fun i m H' => ∃ ρ' h' acc ys, Ext ρ1 H1 ρ' H' ∧ HR t ρ' h' H' ∧ D ∉ ρ' ∧ H' D = some (.lst ys) ∧ VRs t ρ' acc ys ∧ i ≤ w.items.length ∧ m = w.items.length - i ∧
    Post t ρ1 H1 (lcF w mt (denc g moc) (den g me) (Mi.wipe s own) (w.items.drop i) acc h') (fun vs h2 ρ2 H2 => Post t ρ1 H1 (new (.lst vs) h2) (KV1 t Q) (EW W σ)) (EW W σ), ⟨w.items.length, ?_⟩, ?_⟩
  · exact ⟨ρ1, h1, [], [], (Ext.refl _ _).aside hD, x1.aside nD (by rw [hD]; exact fun _ _ => nofun) (by rw [hD]; exact fun _ => nofun), nD, upd_same, .nil, Nat.zero_le _, rfl, Post.bind1 p1⟩
  · rintro i m H' ⟨ρ', h', acc, ys, e', x', nD', hD', ra, hi, rfl, p'⟩
    have wok : w.ok h' = true := by
      cases hd : w.items.drop i with
      | nil =>
        rw [hd] at p'
        unfold lcF at p'
        split at p'
        · assumption
        · exact p'.elim
      | cons it its =>
        rw [hd] at p'
        unfold lcF at p'
        split at p'
        · assumption
        · exact p'.elim
    obtain ⟨h1', h2'⟩ := hJ i ρ' h' H' e'.pre x' wok
    by_cases hlt : i < w.items.length
    · obtain ⟨it, hit⟩ : ∃ it, w.items[i]? = some it := ⟨w.items[i], by simp [hlt]⟩
      obtain ⟨go, yl⟩ := h2' it hit
      have hdrop : w.items.drop i = it :: w.items.drop (i + 1) := by
        have h3 : w.items[i] = it := by
          have := List.getElem?_eq_getElem hlt
          rw [hit] at this
          exact (Option.some.inj this).symm
        rw [← h3]
        exact List.drop_eq_getElem_cons hlt
      rw [hdrop] at p'
      refine .inr ⟨go, _, fun H2 k => ⟨w.items.length - (i + 1), by omega, k⟩, fun y H2 hy => ?_⟩
      obtain ⟨ρ2, e2, x2, r2⟩ := yl y H2 hy
      have E2 := e'.trans e2
      obtain ⟨nD2, hD2⟩ := e2.not nD' hD'
      unfold lcF at p'
      rw [if_pos wok] at p'
      split at p'
      · exact p'.elim
      · rename_i s' hs'
        refine gT_use x2 r2 (SR.ext E2 (sr_wipe hpx hs1 own)) hs' fun σ' sr' hw => ⟨?_, ?_⟩
        · rw [hw own hown]; exact wipe_idem
        · refine ⟨ρ2, _, s', x2, sr', ?_⟩
          generalize hc : denc g moc s' (yieldI it h').2 = rc at p' ⊢
          cases rc with
          | bad => exact p'.elim
          | exc c fs hx => exact p'.elim
          | ok b h3 =>
            intro ρ3 H3 e3 x3
            have E3 := E2.trans e3
            obtain ⟨nD3, hD3⟩ := e3.not nD2 hD2
            cases b with
            | false =>
              show (if false = true then _ else _)
              rw [if_neg Bool.false_ne_true]
              exact ⟨ρ3, h3, acc, ys, E3, x3, nD3, hD3, VRs.ext (e2.trans e3) ra, by omega, rfl, p'⟩
            | true =>
              show (if true = true then _ else _)
              rw [if_pos rfl]
              refine ⟨ρ3, h3, s', x3, SR.ext e3 sr', ?_⟩
              dsimp only at p'
              generalize he : den g me s' h3 = re at p' ⊢
              cases re with
              | bad => exact p'.elim
              | exc c fs hx => exact p'.elim
              | ok v h4 =>
                intro ρ4 H4 e4 x4 z rz
                dsimp only at p'
                split at p'
                · rename_i hz
                  have E4 := E3.trans e4
                  obtain ⟨nD4, hD4⟩ := e4.not nD3 hD3
                  have ra4 := VRs.ext (e2.trans (e3.trans e4)) ra
                  exact ⟨ys, hD4, by rw [← ra4.length]; exact hz, ρ4, h4, acc ++ [v], ys ++ [z], E4.aside hD, x4.aside nD4 (by rw [hD4]; exact fun _ _ => nofun) (by rw [hD4]; exact fun _ => nofun), nD4, upd_same, ra4.snoc rz, by omega, rfl, p'⟩
                · exact p'.elim
    · have hd : w.items.drop i = [] := List.drop_eq_nil_iff.mpr (by omega)
      refine .inl ⟨h1' (by omega), ?_⟩
      rw [hd] at p'
      unfold lcF at p'
      rw [if_pos wok] at p'
      have p2 := p' ρ' H' e' x'
      exact p2 (ρ' ++ [D]) H' (e'.adopt hD) (x'.adopt nD' ⟨ys, hD', pr_mono (fun _ _ z => z.app) ra⟩) _ (VR.new x')
theorem e_lc {own : List (Str × Nat)} {scope : Scope} (O : OkC X t W) (hi : PI X tg iter (tI t W (fun s h => (dens g ms s h).bind fun vs h => srcR sr vs h))) (ok : BlkOk X.N X.env.scope scope own) (hown : ∀ i ∈ tgIx mt, i ∈ own.map (·.2))
    (hg : ∀ (s : Shared) (H : Hp) (C : Addr) (cl : List (Str × Addr)) (fp : List Addr), OkC (X.blk s H scope (compEnvC scope cl C X.env) fp) t W0 → PG (X.blk s H scope (compEnvC scope cl C X.env) fp) tg (gT X.K mt))
    (hc : ∀ (s : Shared) (H : Hp) (C : Addr) (cl : List (Str × Addr)) (fp : List Addr), OkC (X.blk s H scope (compEnvC scope cl C X.env) fp) t W0 → PTs (X.blk s H scope (compEnvC scope cl C X.env) fp) ifs (tT t W0 (denc g moc)))
    (he : ∀ (s : Shared) (H : Hp) (C : Addr) (cl : List (Str × Addr)) (fp : List Addr), OkC (X.blk s H scope (compEnvC scope cl C X.env) fp) t W0 → PE (X.blk s H scope (compEnvC scope cl C X.env) fp) elt (tE t W0 (den g me)))
    (hs : ∀ x, foldedSetIterable iter X.env x = pure x := by intro _; rfl) :
    PE X (.ListComp elt [⟨tg, iter, ifs, 0⟩] scope pos) (tE t W (den g (.lc me mt sr ms (own.map (·.2)) moc))) :=
  PEi (pe_lc O.calm O.nd hi ok (fun s H C cl fp => hg s H C cl fp (O.blk s H scope C cl fp)) (fun s H C cl fp => hc s H C cl fp (O.blk s H scope C cl fp)) (fun s H C cl fp => he s H C cl fp (O.blk s H scope C cl fp)) hs) fun σ H Q q => lc_imp O.px hown q
end

theorem kr_any {k : Key} {t : Th} {ρ : List Addr} : ∀ {xs : List (Key × Val)} {ys : List (Key × V)}, KRs t ρ xs ys → (xs.any fun kv => decide (kv.1 = k)) = ys.any fun kv => decide (kv.1 = k)
  | _, _, .nil => rfl
  | x :: xs, y :: ys, .cons ⟨e, r⟩ qs => by
    simp only [List.any_cons]
    rw [kr_any qs, e]
theorem kr_put {k : Key} {t : Th} {ρ : List Addr} {v : Val} {y : V} {xs : List (Key × Val)} {ys : List (Key × V)} (r : KRs t ρ xs ys) (rv : VR t ρ v y) : KRs t ρ (putK xs k v) (L2.putK ys k y) := by
  unfold putK L2.putK
  rw [kr_any r]
  split
  · refine pr_map (fun a b h => ?_) r
    rw [← h.1]
    split
    · exact ⟨rfl, rv⟩
    · exact h
  · exact pr_append r (.cons ⟨rfl, rv⟩ .nil)
/-! ## statements -/
section
variable (t : Th) (W : L2.WX)
/-- what is wanted of a statement's end -/
def KFl (D : Ends) : Fl → Heap → List Addr → Hp → Prop := fun fl _ ρ' H' =>
  match fl with
  | .nx s' => ∀ σ', SR t ρ' s' σ' → D.nx σ' H'
  | .rt v => ∀ y, VR t ρ' v y → D.rt y H'
  | .ex c fs s' => ∀ C d ys σ', t.ga c = some C → H' d = some (.xd ys) → FRs t ρ' fs ys → SR t ρ' s' σ' → W (.ref C) (some d) σ' H'
def tS (f : Sl → Heap → Res Fl) : TS := fun D σ H => ∃ ρ h s, HR t ρ h H ∧ SR t ρ s σ ∧ Post t ρ H (f s h) (KFl t W D) E0'
end
theorem PSi {X : Cx} {e : Stmt} {t t' : TS} (p : PS X e t) (h : ∀ D σ H, t' D σ H → t D σ H) : PS X e t' := ⟨fun pins s σ H D I q => p.run pins s σ H D I (h D σ H q)⟩
theorem PSsi {X : Cx} {e : List Stmt} {t t' : TS} (p : PSs X e t) (h : ∀ D σ H, t' D σ H → t D σ H) : PSs X e t' := ⟨fun pins s σ H D I q => p.run pins s σ H D I (h D σ H q)⟩
theorem PGi {X : Cx} {e : Expr} {t t' : TG} (p : PG X e t) (h : ∀ v σ H Q, t' v σ H Q → t v σ H Q) : PG X e t' := ⟨fun pins s σ H v u Q I r q => p.run pins s σ H v u Q I r (h v σ H Q q)⟩
section
variable {t : Th} {W : L2.WX} {ρ : List Addr} {h : Heap} {H : Hp} {α : Type}
theorem Post.sb {r : Res α} {s : Sl} {σ : L2.St} {f : α → Heap → Res Fl} {D : Ends} (sr : SR t ρ s σ) (p : Post t ρ H (r.sb s f) (KFl t W D) E0') : Post t ρ H r (fun a h1 ρ1 H1 => Post t ρ1 H1 (f a h1) (KFl t W D) E0') (EW W σ) := by
  cases r with
  | ok a h1 => exact fun ρ2 H2 e2 x => Post.ext e2 p
  | exc c fs h1 => exact fun ρ2 H2 C d ys e2 x hc hd hf => p ρ2 H2 e2 x C d ys σ hc hd hf (SR.ext e2 sr)
  | bad => exact p
/-- the end of a piece, with what stands behind it -/
theorem Post.goE {r : Res Fl} {k : Sl → Heap → Res Fl} {D D' : Ends} (hn : ∀ ρ1 h1 s1 σ' H1, Ext ρ H ρ1 H1 → HR t ρ1 h1 H1 → SR t ρ1 s1 σ' → Post t ρ1 H1 (k s1 h1) (KFl t W D) E0' → D'.nx σ' H1) (hr : D'.rt = D.rt) (p : Post t ρ H (r.bind fun f h => f.go h k) (KFl t W D) E0') : Post t ρ H r (KFl t W D') E0' := by
  refine (Post.bind p).imp fun fl h1 ρ1 H1 e1 x1 p1 => ?_
  cases fl with
  | nx s' => exact fun σ' sr => hn ρ1 h1 s' σ' H1 e1 x1 sr p1
  | rt v => exact fun y ry => by rw [hr]; exact Post.ok x1 p1 y ry
  | ex c fs s' => exact Post.ok (E := E0') x1 p1
theorem Post.go {r : Res Fl} {k : Sl → Heap → Res Fl} {D D' : Ends} (hn : ∀ σ' H', tS t W k D σ' H' → D'.nx σ' H') (hr : D'.rt = D.rt) (p : Post t ρ H (r.bind fun f h => f.go h k) (KFl t W D) E0') : Post t ρ H r (KFl t W D') E0' := by
  refine (Post.bind p).imp fun fl h1 ρ1 H1 e1 x1 p1 => ?_
  cases fl with
  | nx s' => exact fun σ' sr => hn σ' H1 ⟨ρ1, h1, s', x1, sr, p1⟩
  | rt v => exact fun y ry => by rw [hr]; exact Post.ok x1 p1 y ry
  | ex c fs s' => exact Post.ok (E := E0') x1 p1
end
section
variable {X : Cx} {t : Th} {W : L2.WX} {g : G} {a b c e o i tg elt iter : Expr} {es ifs : List Expr} {ma mb mc m mo mi me : Ex} {moc : Exo} {ms : Exs} {pos : Pos} {mt : Tg} {sr : Src} {st : Stmt} {ss ss2 : List Stmt} {ns : St} {nss nss2 : Sts}
theorem ss_nil : PSs X [] (tS t W (exes g .nil)) := PSsi pss_nil fun D σ H ⟨ρ, h, s, x, sr, p⟩ => Post.ok x p σ sr
theorem ss_cons (h1 : PS X st (tS t W (exe g ns))) (h2 : PSs X ss (tS t W (exes g nss))) : PSs X (st :: ss) (tS t W (exes g (.cons ns nss))) := by
  refine PSsi (pss_cons h1 h2) fun D σ H ⟨ρ, h, s, x, sr, p⟩ => ⟨ρ, h, s, x, sr, ?_⟩
  unfold exes at p
  exact Post.go (D' := { D with nx := tS t W (exes g nss) D }) (fun σ' H' q => q) rfl p
theorem s_pass : PS X (.Pass pos) (tS t W (exe g .pass)) := PSi ps_pass fun D σ H ⟨ρ, h, s, x, sr, p⟩ => Post.ok x p σ sr
theorem s_nvr : PS X st (tS t W (exe g .nvr)) := PSi ps_never fun D σ H ⟨ρ, h, s, x, sr, p⟩ => p
theorem s_exp (ha : PE X a (tE t W (den g ma))) (hs : swapsWith a none pos.line X.env = pure false := by rfl) : PS X (.Expr a pos) (tS t W (exe g (.exp ma))) := by
  refine PSi (ps_expr ha hs) fun D σ H ⟨ρ, h, s, x, sr, p⟩ => ⟨ρ, h, s, x, sr, ?_⟩
  unfold exe at p
  exact (Post.sb sr p).imp fun v h1 ρ1 H1 e1 x1 p1 y ry => Post.ok x1 p1 σ (SR.ext e1 sr)
theorem s_ret (ha : PE X a (tE t W (den g ma))) : PS X (.Return (some a) pos) (tS t W (exe g (.ret ma))) := by
  refine PSi (ps_ret ha) fun D σ H ⟨ρ, h, s, x, sr, p⟩ => ⟨ρ, h, s, x, sr, ?_⟩
  unfold exe at p
  exact (Post.sb sr p).imp fun v h1 ρ1 H1 e1 x1 p1 y ry => Post.ok x1 p1 y ry
theorem s_retN : PS X (.Return none pos) (tS t W (exe g (.ret (.cst .non)))) := by
  refine PSi ps_retN fun D σ H ⟨ρ, h, s, x, sr, p⟩ => ?_
  unfold exe den at p
  exact Post.ok x p _ rfl
theorem asg_imp {D : Ends} {σ : L2.St} {H : Hp} (q : tS t W (exe g (.asg mt ma)) D σ H) : tAsg (tE t W (den g ma)) (gT X.K mt) D σ H := by
  obtain ⟨ρ, h, s, x, sr, p⟩ := q
  unfold exe at p
  refine ⟨ρ, h, s, x, sr, (Post.sb sr p).imp fun v h1 ρ1 H1 e1 x1 p1 y ry => ?_⟩
  unfold setT at p1
  split at p1
  · rename_i s' hs'
    exact gT_use x1 ry (SR.ext e1 sr) hs' fun σ' sr' _ => Post.ok x1 p1 σ' sr'
  · exact p1.elim
theorem s_asg (ha : PE X a (tE t W (den g ma))) (hg : PG X tg (gT X.K mt)) (hs : swapsWithSole [tg] a pos.line X.env = pure false := by rfl) (hw : swappedStores [tg] a X.env = pure none := by rfl)
    (h1 : (assignEach [tg] X.env).map (·.2) = [assign tg X.env] := by rfl) : PS X (.Assign [tg] a pos) (tS t W (exe g (.asg mt ma))) :=
  PSi (ps_asg ha hg hs hw h1) fun D σ H q => asg_imp q
theorem g_nm {j : Nat} {x : Str} {p : Pos} (O : Ok X t W) (hi : X.N[j]? = some x := by rfl) (hx : Loc X.env.scope x := by first | exact Or.inl rfl | exact Or.inr rfl) (hf : X.fn x = true ∨ X.env.scope.names.lookup x = some .local := by first | exact .inl rfl | exact .inr rfl | assumption) : PG X (.Name x p) (gT X.K (.nm j)) :=
  pg_name O.nd hi hx hf
theorem gs_nil : PGs X [] (gN []) := pgs_nil
theorem gs_cons {j : Nat} {is : List Nat} {x : Str} {p : Pos} {ts : List Expr} (O : Ok X t W) (h2 : PGs X ts (gN is)) (hi : X.N[j]? = some x := by rfl) (hx : Loc X.env.scope x := by first | exact Or.inl rfl | exact Or.inr rfl) (hf : X.fn x = true ∨ X.env.scope.names.lookup x = some .local := by first | exact .inl rfl | exact .inr rfl | assumption)
    (hs : (assignEach (.Name x p :: ts) X.env).map (·.2) = assign (.Name x p) X.env :: (assignEach ts X.env).map (·.2) := by rfl) : PGs X (.Name x p :: ts) (gN (j :: is)) :=
  pgs_cons (pg_name O.nd hi hx hf) h2 hs
theorem g_tp {is : List Nat} {ts : List Expr} {k : Nat} (O : OkC X t W) (h : PGs X ts (gN is)) (hn : (assignEach ts X.env).length = is.length := by rfl) (hst : (assignEach ts X.env).findIdx? (·.1) = none := by rfl) : PG X (.Tuple ts k pos) (gT X.K (.tp is)) :=
  ⟨fun pins s σ H v u Q I r hw => hw.elim ((pg_tup O.calm h hn hst).run pins s σ H v u Q I r) ((pg_lst O.calm h hn hst).run pins s σ H v u Q I r)⟩
/-- name = [..] on one line -/
theorem s_asgLc {own : List (Str × Nat)} {scope : Scope} {j : Nat} {y : Str} {py spos : Pos} (O : OkC X t W) (hi : PI X tg iter (tI t W (fun s h => (dens g ms s h).bind fun vs h => srcR sr vs h))) (ok : BlkOk X.N X.env.scope scope own) (hown : ∀ i ∈ tgIx mt, i ∈ own.map (·.2))
    (hg : ∀ (s : Shared) (H : Hp) (C : Addr) (cl : List (Str × Addr)) (fp : List Addr), OkC (X.blk s H scope (compEnvC scope cl C X.env) fp) t W0 → PG (X.blk s H scope (compEnvC scope cl C X.env) fp) tg (gT X.K mt))
    (hc : ∀ (s : Shared) (H : Hp) (C : Addr) (cl : List (Str × Addr)) (fp : List Addr), OkC (X.blk s H scope (compEnvC scope cl C X.env) fp) t W0 → PTs (X.blk s H scope (compEnvC scope cl C X.env) fp) ifs (tT t W0 (denc g moc)))
    (he : ∀ (s : Shared) (H : Hp) (C : Addr) (cl : List (Str × Addr)) (fp : List Addr), OkC (X.blk s H scope (compEnvC scope cl C X.env) fp) t W0 → PE (X.blk s H scope (compEnvC scope cl C X.env) fp) elt (tE t W0 (den g me)))
    (hsw : swapsWith (.ListComp elt [⟨tg, iter, ifs, 0⟩] scope pos) (some (.Name y py)) spos.line X.env = pure true) (hy : X.N[j]? = some y := by rfl) (hyl : X.env.scope.names.lookup y = some .local := by rfl)
    (hs : ∀ x, foldedSetIterable iter X.env x = pure x := by intro _; rfl) :
    PS X (.Assign [.Name y py] (.ListComp elt [⟨tg, iter, ifs, 0⟩] scope pos) spos) (tS t W (exe g (.asg (.nm j) (.lc me mt sr ms (own.map (·.2)) moc)))) :=
  PSi (ps_setLc O.calm O.nd hy hyl hsw hi ok (fun s H C cl fp => hg s H C cl fp (O.blk s H scope C cl fp)) (fun s H C cl fp => hc s H C cl fp (O.blk s H scope C cl fp)) (fun s H C cl fp => he s H C cl fp (O.blk s H scope C cl fp)) hs) fun D σ H q => lc_imp O.px hown (Q := fun v H' => gT X.K (.nm j) v σ H' D.nx) (asg_imp q)
theorem s_par2 {j k : Nat} {x y : Str} {px py pt : Pos} {kt k2 pt2} (O : OkC X t W) (ha : PA X [a, b] (tA t W (dens g ms)))
    (hw : swappedStores [.Tuple [.Name x px, .Name y py] kt pt] (.Tuple [a, b] k2 pt2) X.env = pure (some [x, y])) (hjk : j ≠ k := by decide) (hi : X.N[j]? = some x := by rfl) (hj : X.N[k]? = some y := by rfl)
    (hx : X.env.scope.names.lookup x = some .local := by rfl) (hy : X.env.scope.names.lookup y = some .local := by rfl)
    (hs : swapsWithSole [.Tuple [.Name x px, .Name y py] kt pt] (.Tuple [a, b] k2 pt2) pos.line X.env = pure false := by rfl) :
    PS X (.Assign [.Tuple [.Name x px, .Name y py] kt pt] (.Tuple [a, b] k2 pt2) pos) (tS t W (exe g (.par [j, k] ms))) := by
  refine PSi (ps_par O.calm O.nd hi hj hjk hx hy ha hw hs) fun D σ H ⟨ρ, h, s, x, sr, p⟩ => ⟨ρ, h, s, x, sr, ?_⟩
  unfold exe at p
  refine (Post.sb sr p).imp fun vs h1 ρ1 H1 e1 x1 p1 ys ry => ?_
  unfold setP at p1
  split at p1
  · rename_i s' hs'
    match vs, ry, hs' with
    | [v, w], .cons rv (.cons rw .nil), hs' =>
      cases hs'
      exact ⟨_, _, rfl, Post.ok x1 p1 _ (((SR.ext e1 sr).put j rv).put k rw)⟩
    | [], _, hs' => cases hs'
    | [_], _, hs' => cases hs'
    | _ :: _ :: _ :: _, _, hs' => cases hs'
  · exact p1.elim
/-- o[i] = e -/
theorem set_V (hu : X.A.units + 150 < cLine) : PSet X (fun o i v H Q => ∃ ρ h x y z, HR t ρ h H ∧ VR t ρ x o ∧ VR t ρ y i ∧ VR t ρ z v ∧ Post t ρ H (setV x y z h) (fun _ _ _ H' => Q H') E0') := by
  intro pins s σ H o i v ov iv u Q I ro ri rv ⟨ρ, h, x, y, z, hr, vx, vy, vz, p⟩
  unfold setV at p
  split at p
  · split at p
    · rename_i xs hk
      obtain ⟨l, rfl, l1, ys, hl, r1⟩ := hr.ref hk vx
      split at p
      · split at p
        · rename_i j hj
          cases vy
          exact set_list pins s σ H _ _ _ ov iv u Q I ro ri rv ⟨l, ys, _, j, rfl, rfl, hl, by rw [← r1.length]; exact hj, p ρ _ (Ext.write l1) (hr.write l1 (or_l (pr_set vz _ r1)))⟩
        · exact p.elim
      · exact p.elim
    · rename_i xs hk
      obtain ⟨l, rfl, l1, ys, hl, r1⟩ := hr.ref hk vx
      split at p
      · rename_i kk hkk
        split at p
        · rename_i hz
          have := key_vr hkk vy
          subst this
          obtain rfl : ov = Value.ref l := ro
          refine d_setItem (by omega) I (DPut.k hl (by rw [← Paired.length r1]; exact hz)) ri rv fun s4 I4 => ⟨_, I4, p ρ _ (Ext.write l1) (hr.write l1 ⟨_, upd_same, ?_⟩)⟩
          exact kr_put r1 vz
        · exact p.elim
      · exact p.elim
    · exact p.elim
  · exact p.elim
theorem s_sti {po : Pos} (O : Ok X t W) (ho : PE X o (tE t W (den g mo))) (hi : PE X i (tE t W (den g mi))) (ha : PE X a (tE t W (den g ma)))
    (hA : ∀ v, assign (.Subscript o i po) X.env v = (do
      let ov ← holding [v] (eval o X.env)
      let iv ← holding [v, ov] (eval i X.env)
      standAt po
      holding [v, ov, iv] (setItem ov iv v)
      release [v, ov, iv] []) := by intro _; rfl)
    (hs : swapsWithSole [.Subscript o i po] a pos.line X.env = pure false := by rfl) (hw : swappedStores [.Subscript o i po] a X.env = pure none := by rfl)
    (h1 : (assignEach [.Subscript o i po] X.env).map (·.2) = [assign (.Subscript o i po) X.env] := by rfl) : PS X (.Assign [.Subscript o i po] a pos) (tS t W (exe g (.sti mo mi ma))) := by
  refine PSi (ps_asg ha (pg_sub ho hi (set_V (t := t) O.hu) hA) hs hw h1) fun D σ H ⟨ρ, h, s, x, sr, p⟩ => ⟨ρ, h, s, x, sr, ?_⟩
  unfold exe at p
  refine (Post.sb sr p).imp fun v h1 ρ1 H1 e1 x1 p1 z rz => ⟨ρ1, h1, s, x1, SR.ext e1 sr, ?_⟩
  refine (Post.sb (SR.ext e1 sr) p1).imp fun ov h2 ρ2 H2 e2 x2 p2 zo rzo => ⟨ρ2, h2, s, x2, SR.ext (e1.trans e2) sr, ?_⟩
  refine (Post.sb (SR.ext (e1.trans e2) sr) p2).imp fun iv h3 ρ3 H3 e3 x3 p3 zi rzi => ⟨ρ3, h3, ov, iv, v, x3, rzo.ext e3, rzi, (rz.ext e2).ext e3, ?_⟩
  have p4 := Post.sb (SR.ext ((e1.trans e2).trans e3) sr) p3
  refine Post.nox ?_ (p4.imp fun _ h4 ρ4 H4 e4 x4 p5 => Post.ok x4 p5 σ (SR.ext (((e1.trans e2).trans e3).trans e4) sr))
  unfold setV
  repeat' split
  all_goals first | exact nox_ok | exact nox_bad
theorem nox_set (x y z : Val) (h : Heap) : NoX (setV x y z h) := by
  unfold setV
  repeat' split
  all_goals first | exact nox_ok | exact nox_bad
/-- o[i], p[j] = a pair -/
theorem s_sw2 {o2 i2 : Expr} {mo2 mi2 : Ex} {po po2 pt : Pos} {kt : Nat} (O : OkC X t W) (ho : PE X o (tE t W (den g mo))) (hi : PE X i (tE t W (den g mi))) (ho2 : PE X o2 (tE t W (den g mo2))) (hi2 : PE X i2 (tE t W (den g mi2))) (ha : PE X a (tE t W (den g ma)))
    (hA : ∀ v, assign (.Subscript o i po) X.env v = (do
      let ov ← holding [v] (eval o X.env)
      let iv ← holding [v, ov] (eval i X.env)
      standAt po
      holding [v, ov, iv] (setItem ov iv v)
      release [v, ov, iv] []) := by intro _; rfl)
    (hA2 : ∀ v, assign (.Subscript o2 i2 po2) X.env v = (do
      let ov ← holding [v] (eval o2 X.env)
      let iv ← holding [v, ov] (eval i2 X.env)
      standAt po2
      holding [v, ov, iv] (setItem ov iv v)
      release [v, ov, iv] []) := by intro _; rfl)
    (hn : (assignEach [.Subscript o i po, .Subscript o2 i2 po2] X.env).length = 2 := by rfl) (hst : (assignEach [.Subscript o i po, .Subscript o2 i2 po2] X.env).findIdx? (·.1) = none := by rfl)
    (hq : (assignEach (.Subscript o i po :: [.Subscript o2 i2 po2]) X.env).map (·.2) = assign (.Subscript o i po) X.env :: (assignEach [.Subscript o2 i2 po2] X.env).map (·.2) := by rfl)
    (hq2 : (assignEach (.Subscript o2 i2 po2 :: []) X.env).map (·.2) = assign (.Subscript o2 i2 po2) X.env :: (assignEach [] X.env).map (·.2) := by rfl)
    (hs : swapsWithSole [.Tuple [.Subscript o i po, .Subscript o2 i2 po2] kt pt] a pos.line X.env = pure false := by rfl) (hw : swappedStores [.Tuple [.Subscript o i po, .Subscript o2 i2 po2] kt pt] a X.env = pure none := by rfl)
    (h1 : (assignEach [.Tuple [.Subscript o i po, .Subscript o2 i2 po2] kt pt] X.env).map (·.2) = [assign (.Tuple [.Subscript o i po, .Subscript o2 i2 po2] kt pt) X.env] := by rfl) :
    PS X (.Assign [.Tuple [.Subscript o i po, .Subscript o2 i2 po2] kt pt] a pos) (tS t W (exe g (.sw2 mo mi mo2 mi2 ma))) := by
  refine PSi (ps_asg ha (pg_tup O.calm (pgs_cons (pg_sub ho hi (set_V (t := t) O.hu) hA) (pgs_cons (pg_sub ho2 hi2 (set_V (t := t) O.hu) hA2) pgs_nil hq2) hq) hn hst) hs hw h1) fun D σ H ⟨ρ, h, s, x, sr, p⟩ => ⟨ρ, h, s, x, sr, ?_⟩
  unfold exe at p
  refine (Post.sb sr p).imp fun v h1 ρ1 H1 e1 x1 p1 z rz => ?_
  have sr1 := SR.ext e1 sr
  have p1 := Post.sb sr1 p1
  unfold twoV at p1
  split at p1
  · split at p1
    · rename_i u w hk
      obtain ⟨l, rfl, l1, ys, hl, rr⟩ := x1.ref hk rz
      obtain ⟨yu, yw, rfl, ru, rw'⟩ := vrs2 rr
      refine ⟨l, [yu, yw], rfl, .of hl, rfl, yu, [yw], rfl, ρ1, h1, s, x1, sr1, ?_⟩
      have p1 := Post.ok x1 p1
      refine (Post.sb sr1 p1).imp fun ov h2 ρ2 H2 e2 x2 p2 zo rzo => ⟨ρ2, h2, s, x2, SR.ext e2 sr1, ?_⟩
      have sr2 := SR.ext e2 sr1
      refine (Post.sb sr2 p2).imp fun iv h3 ρ3 H3 e3 x3 p3 zi rzi => ⟨ρ3, h3, ov, iv, u, x3, rzo.ext e3, rzi, (ru.ext e2).ext e3, ?_⟩
      have sr3 := SR.ext e3 sr2
      refine Post.nox (nox_set _ _ _ _) ((Post.sb sr3 p3).imp fun _ h4 ρ4 H4 e4 x4 p4 => ?_)
      have sr4 := SR.ext e4 sr3
      refine ⟨yw, [], rfl, ρ4, h4, s, x4, sr4, (Post.sb sr4 p4).imp fun ov2 h5 ρ5 H5 e5 x5 p5 zo2 rzo2 => ⟨ρ5, h5, s, x5, SR.ext e5 sr4, ?_⟩⟩
      have sr5 := SR.ext e5 sr4
      refine (Post.sb sr5 p5).imp fun iv2 h6 ρ6 H6 e6 x6 p6 zi2 rzi2 => ⟨ρ6, h6, ov2, iv2, w, x6, rzo2.ext e6, rzi2, ((((rw'.ext e2).ext e3).ext e4).ext e5).ext e6, ?_⟩
      have sr6 := SR.ext e6 sr5
      refine Post.nox (nox_set _ _ _ _) ((Post.sb sr6 p6).imp fun _ h7 ρ7 H7 e7 x7 p7 => ?_)
      exact ⟨rfl, Post.ok x7 p7 σ (SR.ext e7 sr6)⟩
    · exact p1.elim
  · exact p1.elim
theorem ip_V {op : Operator} {oo : Op} (h : (op = .Add ∧ oo = .add) ∨ (op = .Sub ∧ oo = .sub)) : PIp X op (rOp t (aop oo)) := by
  rcases h with ⟨rfl, rfl⟩ | ⟨rfl, rfl⟩
  · intro pins s σ H x y u v Q I rx ry ⟨ρ, h, a, b, hr, va, vb, p⟩
    unfold aop at p
    split at p
    · cases va; cases vb
      exact iop_add pins s σ H _ _ u v Q I rx ry ⟨_, _, rfl, rfl, p.ok hr _ rfl⟩
    · exact absurd (by assumption : Op.add = Op.sub) (by decide)
    · split at p
      · cases va; cases vb
        exact iop_add_str pins s σ H _ _ u v Q I rx ry ⟨_, _, rfl, rfl, by assumption, p.ok hr _ rfl⟩
      · exact p.elim
    · exact p.elim
  · intro pins s σ H x y u v Q I rx ry ⟨ρ, h, a, b, hr, va, vb, p⟩
    unfold aop at p
    split at p
    · exact absurd (by assumption : Op.sub = Op.add) (by decide)
    · cases va; cases vb
      exact iop_sub pins s σ H _ _ u v Q I rx ry ⟨_, _, rfl, rfl, p.ok hr _ rfl⟩
    · exact absurd (by assumption : Op.sub = Op.add) (by decide)
    · exact p.elim
theorem s_aug {op : Operator} {oo : Op} {j : Nat} {x : Str} {p' : Pos} (O : Ok X t W) (ho : PIp X op (rOp t (aop oo))) (ha : PE X a (tE t W (den g ma))) (hi : X.N[j]? = some x := by rfl) (hx : Loc X.env.scope x := by first | exact Or.inl rfl | exact Or.inr rfl)
    (hf : X.fn x = true ∨ X.env.scope.names.lookup x = some .local := by first | exact .inl rfl | exact .inr rfl | assumption) : PS X (.AugAssign (.Name x p') op a pos) (tS t W (exe g (.aug oo j ma))) := by
  refine PSi (ps_aug O.nd hi hx ha ho hf) fun D σ H ⟨ρ, h, s, hr, sr, p⟩ => ?_
  unfold exe at p
  rw [show den g (.var j) s h = (match s[j]? with
    | some (some v) => .ok v h
    | _ => .bad) by ((conv => lhs; unfold den) <;> rfl)] at p
  split at p
  · rename_i v e
    obtain ⟨q, e1, r⟩ := pr_get sr.pr e
    cases q with
    | none => exact r.elim
    | some y =>
      refine ⟨y, e1, ρ, h, s, hr, sr, (Post.sb sr (show Post t ρ H ((den g ma s h).sb s fun y h => (aop oo v y h).sb s fun v h => .ok (.nx (s.set j (some v))) h) _ _ from p)).imp fun w h1 ρ1 H1 e1 x1 p1 z rz => ⟨ρ1, h1, v, w, x1, VR.ext e1 (show VR t ρ v y from r), rz, ?_⟩⟩
      refine Post.nox ?_ ((Post.sb (SR.ext e1 sr) p1).imp fun u h2 ρ2 H2 e2 x2 p2 zz rzz => Post.ok x2 p2 _ ((SR.ext (e1.trans e2) sr).put j rzz))
      unfold aop
      repeat' split
      all_goals first | exact nox_ok | exact nox_bad
  · exact p.elim
theorem s_ite (hc : PT X c (tT t W (denT g mc))) (ha : PSs X ss (tS t W (exes g nss))) (hb : PSs X ss2 (tS t W (exes g nss2))) : PS X (.If c ss ss2 pos) (tS t W (exe g (.ite mc nss nss2))) := by
  refine PSi (ps_if hc ha hb) fun D σ H ⟨ρ, h, s, x, sr, p⟩ => ⟨ρ, h, s, x, sr, ?_⟩
  unfold exe at p
  refine (Post.sb sr p).imp fun k h1 ρ1 H1 e1 x1 p1 => ?_
  cases k with
  | true => exact ⟨ρ1, h1, s, x1, SR.ext e1 sr, p1⟩
  | false => exact ⟨ρ1, h1, s, x1, SR.ext e1 sr, p1⟩
theorem s_whl (O : Ok X t W) (hc : PT X c (tT t W (denT g mc))) (ha : PSs X ss (tS t W (exes g nss))) : PS X (.While c ss [] pos) (tS t W (exe g (.whl mc nss))) := by
  refine PSi (ps_while O.own hc ha) fun D σ H q => ?_
  unfold exe at q
  refine ⟨fun m σ H => tS t W (fun s h => loopW (denT g mc) (exes g nss) m s h) D σ H, ⟨turns, q⟩, fun m σ H ⟨ρ, h, s, x, sr, p⟩ => ?_⟩
  cases m with
  | zero => exact p.elim
  | succ m =>
    unfold loopW at p
    refine ⟨ρ, h, s, x, sr, (Post.sb sr p).imp fun k h1 ρ1 H1 e1 x1 p1 => ?_⟩
    cases k with
    | true =>
      rw [if_pos rfl] at p1 ⊢
      exact ⟨_, fun σ' H' w => ⟨m, Nat.lt_succ_self m, w⟩, ρ1, h1, s, x1, SR.ext e1 sr, Post.go (fun _ _ q => q) rfl p1⟩
    | false =>
      rw [if_neg Bool.false_ne_true] at p1 ⊢
      exact Post.ok x1 p1 σ (SR.ext e1 sr)
theorem s_frr (O : OkC X t W) (hi : PI X tg iter (tI t W (fun s h => (dens g ms s h).bind fun vs h => srcR sr vs h))) (hg : PG X tg (gT X.K mt)) (hb : PSs X ss (tS t W (exes g nss))) (hs : ∀ x, foldedSetIterable iter X.env x = pure x := by intro _; rfl) :
    PS X (.For tg iter ss [] pos) (tS t W (exe g (.frr mt sr ms nss))) := by
  refine PSi (ps_for O.own O.calm hi hg hb hs) fun D σ H ⟨ρ, h, s, x, sr, p⟩ => ?_
  unfold exe at p
  refine ⟨ρ, h, s, x, sr, (Post.sb sr p).imp fun w h1 ρ1 H1 e1 x1 p1 J hJ => ?_⟩
  refine ⟨fun i m σ' H' => ∃ ρ' h' s', Ext ρ1 H1 ρ' H' ∧ HR t ρ' h' H' ∧ SR t ρ' s' σ' ∧ i ≤ w.items.length ∧ m = w.items.length - i ∧ Post t ρ' H' (loopF w mt (exes g nss) (w.items.drop i) s' h') (KFl t W D) E0',
    ⟨w.items.length, ρ1, h1, s, Ext.refl _ _, x1, SR.ext e1 sr, Nat.zero_le _, rfl, p1⟩, ?_⟩
  rintro i m σ' H' ⟨ρ', h', s', e', x', sr', hi', rfl, p'⟩
  have wok : w.ok h' = true := by
    cases hd : w.items.drop i with
    | nil =>
      rw [hd] at p'
      unfold loopF at p'
      split at p'
      · assumption
      · exact p'.elim
    | cons it its =>
      rw [hd] at p'
      unfold loopF at p'
      split at p'
      · assumption
      · exact p'.elim
  obtain ⟨h1', h2'⟩ := hJ i ρ' h' H' e'.pre x' wok
  by_cases hlt : i < w.items.length
  · obtain ⟨it, hit⟩ : ∃ it, w.items[i]? = some it := ⟨w.items[i], by simp [hlt]⟩
    obtain ⟨go, yl⟩ := h2' it hit
    have hdrop : w.items.drop i = it :: w.items.drop (i + 1) := by
      have h3 : w.items[i] = it := by
        have := List.getElem?_eq_getElem hlt
        rw [hit] at this
        exact (Option.some.inj this).symm
      rw [← h3]
      exact List.drop_eq_getElem_cons hlt
    rw [hdrop] at p'
    unfold loopF at p'
    rw [if_pos wok] at p'
    refine .inr ⟨go, _, fun σ2 H2 k => ⟨w.items.length - (i + 1), by omega, k⟩, fun y H2 hy => ?_⟩
    obtain ⟨ρ2, e2, x2, r2⟩ := yl y H2 hy
    split at p'
    · exact p'.elim
    · rename_i s2 hs2
      refine gT_use x2 r2 (SR.ext e2 sr') hs2 fun σ2 sr2 _ => ⟨ρ2, _, s2, x2, sr2, ?_⟩
      refine Post.goE (D := D) (fun ρ3 h3 s3 σ3 H3 e3 x3 sr3 p3 => ?_) rfl (Post.ext e2 p')
      exact ⟨ρ3, h3, s3, (e'.trans e2).trans e3, x3, sr3, by omega, rfl, p3⟩
  · have hd : w.items.drop i = [] := List.drop_eq_nil_iff.mpr (by omega)
    refine .inl ⟨h1' (by omega), ?_⟩
    rw [hd] at p'
    unfold loopF at p'
    rw [if_pos wok] at p'
    exact Post.ok x' p' σ' sr'
end
end Mi


/-! # Mi8: defs by their bodies; the law's end -/
namespace Mi
open PySem PySem.Spec PyProof.Rows L2

abbrev WE (E : XK) : L2.WX := fun c d _ H => E c d H
section
variable {P : Program} {w : World} {K : PySem.W.Frag} {mg : Str → Option Value} {base : PySem.Heap}
/-- a def (its promise sp) by its body -/
theorem fn_g {k : Nat} {f : Addr} {name qual : Str} {params : Arguments} {body : List Stmt} {scope : Scope} {dV kV doc pm cdv ct oc : Value} {an od : Option Addr} {osl : Array (Option Value)} {N ps : List Str} {sp : Sp}
    (lk : K.lookup f = some ⟨oc, od, .func (PySem.W.fnOf name qual params body scope dV kV doc pm an cdv ct), osl⟩) (hcd : PySem.W.codeIn K cdv qual = true) (S : FnScope N ps scope)
    (len : ∀ vs H Q E, sp vs H Q E → vs.length = ps.length)
    (go : ∀ (A : Around) (outer : List Env) (s : Shared) (H : Hp) (vs : List V) (Q : VK) (E : XK), Room k (A.deeper (envOfC qual scope s.heap.objs.size f cdv)) → A.guards = some [] → sp vs H Q E →
      ∃ r, PSs (cxOf (L2.CX P w) P w K mg base N qual scope f cdv A outer s H E) body r ∧ r { nx := fun _ H' => Q .non H', rt := Q } (L2.start N vs) H) :
    FnG P w K mg base (k + 1) f (PySem.W.fnOf name qual params body scope dV kV doc pm an cdv ct) ps sp where
  len := len
  run := by
    intro A outer s H args us vs Q E room gu env binds rel promise
    have few := len _ _ _ _ promise
    have kin : K.In s.heap := env.mod.kin.keeps fun b o e => (env.bs b o e).1
    have nolim : s.heap.NoLimit := env.mod.nolimit.keeps fun b o e => (env.bs b o e).1
    have kinds : ∀ y ∈ ps.zip us, scope.names.lookup y.1 = some .local ∨ (scope.names.lookup y.1 = some .cell ∧ ((cellsFrom (s.heap.objs.size + 1) scope.names []).lookup y.1).isSome = true) := by
      intro y hy
      rcases S.par y.1 (List.of_mem_zip (show (y.1, y.2) ∈ ps.zip us from hy)).1 with q | q
      · exact Or.inl q
      · exact Or.inr ⟨q, PySem.W.cellsFrom_some _ _ _ (Or.inl q)⟩
    refine codeAny_call_function room.depth (kin _ _ lk) rfl S.co S.gen rfl (PySem.W.codeRec_of kin hcd) (binds _ _ _ _ ?_)
    refine wpAny_newFunctionEnv_cells S.kind kinds fun e he s1 x => ?_
    subst he
    refine ⟨nolim.keeps x.toInCall.keep, codeAny_func ?_⟩
    obtain ⟨r, hr, q⟩ := go A outer s H vs Q E (room.deeper _) gu promise
    have inv : Inv (cxOf (L2.CX P w) P w K mg base N qual scope f cdv A outer s H E) [] (L2.start N vs) H s1 := inv_start S room.hd env few rel x
    refine wpAny_mono (hr.run [] s1 (L2.start N vs) H _ inv q) (fun fl s2 h2 => ?_) fun u s2 h2 => h2
    cases fl with
    | next =>
      obtain ⟨σ2, H2, J, z⟩ := h2
      exact ⟨.non, H2, J.os, J.bare, J.base, J.hok, rfl, z⟩
    | ret u =>
      obtain ⟨v, σ2, H2, J, rv, z⟩ := h2
      exact ⟨v, H2, J.os, J.bare, J.base, J.hok, rv, z⟩
    | brk =>
      obtain ⟨_, _, _, z⟩ := h2
      exact False.elim z
    | cont =>
      obtain ⟨_, _, _, z⟩ := h2
      exact False.elim z
/-- what is never called -/
theorem fn_bad {t : Th} {k : Nat} {f : Addr} {fd : FuncData} {ps : List Str} : FnG P w K mg base k f fd ps (spC t fun _ _ => .bad) :=
  ⟨fun vs H Q E ⟨_, _, _, _, _, p⟩ => p.elim, fun A outer s H args us vs Q E _ _ _ _ _ ⟨_, _, _, _, _, p⟩ => p.elim⟩
theorem sr_start {t : Th} {ρ : List Addr} {d : Def} {N : List Str} (hx : t.ex = none) (hN : N.length = d.slots) {as : List Val} {vs : List V} (r : VRs t ρ as vs) : SR t ρ (startV d as) (L2.start N vs) := by
  refine ⟨?_, fun _ _ _ _ e => by rw [hx] at e; cases e⟩
  unfold startV L2.start
  rw [hN, ← r.length]
  refine pr_append (pr_map (f := some) (g := some) (F' := SO t ρ) (fun a b h => h) r) ?_
  generalize d.slots - as.length = n
  induction n with
  | zero => exact .nil
  | succ n ih => exact .cons trivial ih
theorem ok_cx {t : Th} {k : Nat} {N ps : List Str} {qual : Str} {scope : Scope} {f : Addr} {cdv : Value} {A : Around} {outer : List Env} {s : Shared} {H : Hp} {E : XK} (hK : t.K = K) (hpx : t.ex = none) (sm : ∃ mm, base.Ns sysModules mm) (S : FnScope N ps scope) (hr : Room k (A.deeper (envOfC qual scope s.heap.objs.size f cdv))) (hg : A.guards = some []) :
    OkC (cxOf (L2.CX P w) P w K mg base N qual scope f cdv A outer s H E) t (WE E) where
  px := hpx
  hK := hK
  calm := rfl
  nd := S.nd
  hu := by
    have := hr.un
    show (A.deeper (envOfC qual scope s.heap.objs.size f cdv)).units + 150 < cLine
    omega
  hg := hg
  sm := sm
  own := passes_of rfl
  tk := takes_of rfl rfl rfl rfl
/-- a def of the text does what its mirror does -/
theorem fn_law {t : Th} {k : Nat} {g : G} {x qual : Str} {st : Stmt} {f : Addr} {N ps : List Str} {d : Def} {dV kV doc pm cdv ct oc : Value} {an od : Option Addr} {osl : Array (Option Value)} (hK : t.K = K) (hpx : t.ex = none) (sm : ∃ mm, base.Ns sysModules mm)
    (lk : K.lookup f = some ⟨oc, od, .func (PySem.W.fnOf x qual (defArgs st) (defBody st) (defScope st) dV kV doc pm an cdv ct), osl⟩) (hcd : PySem.W.codeIn K cdv qual = true) (S : FnScope N ps (defScope st)) (hp : d.params = ps.length) (hN : N.length = d.slots)
    (body : ∀ (A : Around) (outer : List Env) (s : Shared) (H : Hp) (E : XK), OkC (cxOf (L2.CX P w) P w K mg base N qual (defScope st) f cdv A outer s H E) t (WE E) → Room k (A.deeper (envOfC qual (defScope st) s.heap.objs.size f cdv)) →
      PSs (cxOf (L2.CX P w) P w K mg base N qual (defScope st) f cdv A outer s H E) (defBody st) (tS t (WE E) (exes g d.body))) :
    FnG P w K mg base (k + 1) f (PySem.W.fnOf x qual (defArgs st) (defBody st) (defScope st) dV kV doc pm an cdv ct) ps (spC t (runDef g d)) := by
  refine fn_g lk hcd S (fun vs H Q E ⟨ρ, h, as, hr, r, p⟩ => ?_) fun A outer s H vs Q E room gu ⟨ρ, h, as, hr, r, p⟩ => ⟨_, body A outer s H E (ok_cx hK hpx sm S room gu) room, ?_⟩
  · unfold runDef at p
    split at p
    · rename_i e
      rw [← r.length, e, hp]
    · exact p.elim
  · unfold runDef at p
    split at p
    · refine ⟨ρ, h, startV d as, hr, sr_start hpx hN r, ?_⟩
      generalize exes g d.body (startV d as) h = z at p ⊢
      cases z with
      | bad => exact p
      | exc c fs h1 => exact p.elim
      | ok fl h1 =>
        cases fl with
        | nx s' => exact fun ρ1 H1 e1 x1 σ' sr => p ρ1 H1 e1 x1 _ rfl
        | rt v => exact fun ρ1 H1 e1 x1 y ry => p ρ1 H1 e1 x1 y ry
        | ex c fs s' => exact fun ρ1 H1 e1 x1 C dd ys σ' h1 h2 h3 sr => p ρ1 H1 C dd ys e1 x1 h1 h2 h3
    · exact p.elim
/-- a def that may be called, n written arguments, the rest its defaults -/
structure CF (P : Program) (w : World) (K : PySem.W.Frag) (mg : Str → Option Value) (base : PySem.Heap) (t : Th) (k : Nat) (f : Str) (m : List Val → Heap → Res Val) : Prop where
  ex : ∃ (fa : Addr) (fd : FuncData) (ps : List Str), mg f = some (.ref fa) ∧ PySem.W.keepIn K (.ref fa) = true ∧ Binds K fd ps [] ∧ FnG P w K mg base k fa fd ps (spC t m)
theorem CF.n {t : Th} {k : Nat} {f : Str} {m : List Val → Heap → Res Val} (C : CF P w K mg base t k f m) : CalleeN P w K mg base t k f [] m := by
  obtain ⟨fa, fd, ps, h1, h2, h3, h4⟩ := C.ex
  exact ⟨fa, fd, ps, [], [], h1, h2, h3, .nil, fun _ => .nil, h4⟩
end

/-- a callee with defaults dl -/
structure CFD (P : Program) (w : World) (K : PySem.W.Frag) (mg : Str → Option Value) (base : PySem.Heap) (t : Th) (k : Nat) (f : Str) (dl : List Val) (m : List Val → Heap → Res Val) : Prop where
  ex : ∃ (fa : Addr) (fd : FuncData) (ps : List Str) (dvs : List V), mg f = some (.ref fa) ∧ PySem.W.keepIn K (.ref fa) = true ∧ (∀ ρ, VRs t ρ dl dvs) ∧ (∀ j, j ≤ dvs.length → ∃ us, Vals (dvs.drop j) us ∧ Binds K fd ps us) ∧ FnG P w K mg base k fa fd ps (spC t m)
theorem CFD.n {P : Program} {w : World} {K : PySem.W.Frag} {mg : Str → Option Value} {base : PySem.Heap} {t : Th} {k : Nat} {f : Str} {dl : List Val} {m : List Val → Heap → Res Val} (C : CFD P w K mg base t k f dl m) (j : Nat) (hj : j ≤ dl.length) : CalleeN P w K mg base t k f (dl.drop j) m := by
  obtain ⟨fa, fd, ps, dvs, h1, h2, h3, h4, h5⟩ := C.ex
  obtain ⟨us, hv, hb⟩ := h4 j (by rw [← (h3 []).length]; exact hj)
  exact ⟨fa, fd, ps, us, dvs.drop j, h1, h2, hb, hv, fun ρ => pr_drop j (h3 ρ), h5⟩

/-! ## the mirror, k deep -/
def mOf (D : Nat → Option Def) (gl : Nat → Option Val) (scr : List Int) : Nat → Def → List Val → Heap → Res Val
  | 0, _ => fun _ _ => .bad
  | k + 1, d => runDef ⟨calls D gl scr k, gl, scr, none⟩ d
theorem calls_eq {D : Nat → Option Def} {gl : Nat → Option Val} {scr : List Int} {k : Nat} {f : Nat} {d : Def} {ds : List Val} {n : Nat} (e : D f = some d) (hd : d.dflt.drop (d.dflt.length + n - d.params) = ds) (vs : List Val) (h : Heap) (hn : vs.length = n)
    (hb : calls D gl scr k f vs h ≠ .bad) : calls D gl scr k f vs h = mOf D gl scr k d (vs ++ ds) h := by
  cases k with
  | zero => exact absurd rfl hb
  | succ k =>
    show (match D f with
      | some d => runDef ⟨calls D gl scr k, gl, scr, none⟩ d (vs ++ d.dflt.drop (d.dflt.length + vs.length - d.params)) h
      | none => .bad) = _
    rw [e]
    dsimp only
    rw [hn, hd]
    rfl

/-! ## dicts written out -/
def prs (t : Th) (W : L2.WX) (g : G) : Exs → List (TE × TE)
  | .cons k (.cons v r) => (tE t W (den g k), tE t W (den g v)) :: prs t W g r
  | _ => []
def pairUp : List V → List (V × V)
  | k :: v :: r => (k, v) :: pairUp r
  | _ => []
section
variable {X : Cx} {t : Th} {W : L2.WX} {g : G} {σ : L2.St}
def evenE : Exs → Bool
  | .nil => true
  | .cons _ .nil => false
  | .cons _ (.cons _ r) => evenE r
theorem pairs_imp : ∀ (ms : Exs) {ρ : List Addr} {h : Heap} {s : Sl} {H : Hp} {R : List (V × V) → Hp → Prop}, evenE ms = true → HR t ρ h H → SR t ρ s σ →
    Post t ρ H (dens g ms s h) (fun vs h' ρ' H' => ∀ zs, VRs t ρ' vs zs → R (pairUp zs) H') (EW W σ) → tPairs (prs t W g ms) σ H R
  | .nil, ρ, h, s, H, R, ev, x, sr, p => by
    unfold dens at p
    exact Post.ok x p [] .nil
  | .cons k .nil, ρ, h, s, H, R, ev, x, sr, p => by cases ev
  | .cons k (.cons v r), ρ, h, s, H, R, ev, x, sr, p => by
    unfold dens at p
    refine ⟨ρ, h, s, x, sr, (Post.bind p).imp fun kv h1 ρ1 H1 e1 x1 p1 y ry => ?_⟩
    unfold dens at p1
    refine ⟨ρ1, h1, s, x1, SR.ext e1 sr, ?_⟩
    have p1 := Post.bind p1
    have p2 : Post t ρ1 H1 (den g v s h1) (fun vv h2 ρ2 H2 => Post t ρ2 H2 ((dens g r s h2).bind fun vs h => Res.ok (vv :: vs) h) (fun vs h' ρ' H' => Post t ρ' H' (Res.ok (kv :: vs) h') (fun vs h' ρ' H' => ∀ zs, VRs t ρ' vs zs → R (pairUp zs) H') (EW W σ)) (EW W σ)) (EW W σ) := Post.bind p1
    refine p2.imp fun vv h2 ρ2 H2 e2 x2 p3 z rz => ?_
    refine pairs_imp r ev x2 (SR.ext (e1.trans e2) sr) ((Post.bind p3).imp fun vs h3 ρ3 H3 e3 x3 p4 => ?_)
    have q := Post.ok x3 (Post.ok x3 p4)
    exact fun zs rzs => q (y :: z :: zs) (.cons ((ry.ext e2).ext e3) (.cons (rz.ext e3) rzs))
theorem kvs_vr {ρ : List Addr} : ∀ {vs : List Val} {zs : List V} {kvs : List (Key × Val)}, kvsO vs = some kvs → VRs t ρ vs zs → ∃ ws : List (Key × V), pairUp zs = ws.map (fun kv => (kV kv.1, kv.2)) ∧ KRs t ρ kvs ws
  | [], _, kvs, e, .nil => by cases e; exact ⟨[], rfl, .nil⟩
  | [_], _, kvs, e, _ => by cases e
  | k :: v :: r, _, kvs, e, .cons rk (.cons rv rr) => by
    unfold kvsO at e
    split at e
    · rename_i k' r' e1 e2
      cases e
      obtain ⟨ws, h1, h2⟩ := kvs_vr e2 rr
      have := key_vr e1 rk
      subst this
      exact ⟨(k', _) :: ws, by unfold pairUp; rw [h1]; rfl, .cons ⟨rfl, rv⟩ h2⟩
    · cases e
theorem kr_merge {ρ : List Addr} : ∀ {kvs acc : List (Key × Val)} {ws bcc : List (Key × V)}, KRs t ρ kvs ws → KRs t ρ acc bcc → KRs t ρ (kvs.foldl (fun acc kv => putK acc kv.1 kv.2) acc) (ws.foldl (fun acc kv => L2.putK acc kv.1 kv.2) bcc)
  | _, _, _, _, .nil, r => r
  | x :: xs, acc, y :: ys, bcc, .cons ⟨e, r⟩ rs, q => by
    simp only [List.foldl_cons]
    rw [← e]
    exact kr_merge rs (kr_put q r)
theorem e_dic {pos : Pos} {keys : List (Option Expr)} {values : List Expr} {ms : Exs} (O : Ok X t W) (hp : PPs X pos keys values (prs t W g ms)) (ev : evenE ms = true := by rfl) (hall : keys.all (·.isSome) = true := by rfl) (hl : keys.length = values.length := by rfl) (h0 : keys ≠ [] := by exact List.cons_ne_nil _ _)
    (h15 : keys.length ≤ 15 := by decide) : PE X (.Dict keys values pos) (tE t W (den g (.dic ms))) := by
  refine PEi (pe_disp hp hall hl h0 h15) fun σ H Q ⟨ρ, h, s, x, sr, p⟩ => fun D hD => ?_
  unfold den at p
  have nD := x.free hD
  have e0 : Ext ρ H ρ (upd H D (.dK [])) := (Ext.refl _ _).aside hD
  refine pairs_imp ms ev (x.aside nD (by rw [hD]; exact fun _ _ => nofun) (by rw [hD]; exact fun _ => nofun)) sr ((Post.ext e0 (Post.bind1 p)).imp fun vs h' ρ' H' e' x' p' zs rz => ?_)
  obtain ⟨nD', hD'⟩ := e'.not nD upd_same
  refine ⟨hD', ?_⟩
  split at p'
  · rename_i kvs ek
    split at p'
    · rename_i hz
      obtain ⟨ws, h1, h2⟩ := kvs_vr ek rz
      refine ⟨ws, h1, by rw [← Paired.length h2]; exact hz, ?_⟩
      have E := ((e0.trans e').aside hD (u := .dK (mergeK [] ws))).adopt hD
      have Y := (x'.aside nD' (by rw [hD']; exact fun _ _ => nofun) (by rw [hD']; exact fun _ => nofun) (u := .dK (mergeK [] ws))).adopt nD' (o := .dic (kvs.foldl (fun acc kv => putK acc kv.1 kv.2) [])) ⟨_, upd_same, pr_mono (fun _ _ z => ⟨z.1, z.2.app⟩) (kr_merge h2 .nil)⟩
      exact p' _ _ E Y _ (VR.new x')
    · exact p'.elim
  · exact p'.elim
end
/-! ## short names -/
section
variable {X : Cx} {t : Th} {W : L2.WX} (O : Ok X t W)
include O
theorem q_add : OpR X (binaryOp .Add) (rOp t (bop .add)) := op1 O.hK
theorem q_sub : OpR X (binaryOp .Sub) (rOp t (bop .sub)) := op2
theorem q_mul : OpR X (binaryOp .Mult) (rOp t (bop .mul)) := op3
theorem q_fdiv : OpR X (binaryOp .FloorDiv) (rOp t (bop .fdiv)) := op4
theorem q_mod : OpR X (binaryOp .Mod) (rOp t (bop .mod)) := op5
theorem q_pow : OpR X (binaryOp .Pow) (rOp t (bop .pow)) := op6
theorem q_eq : OpR X (compareOp .Eq) (rOp t (bop .eq)) := op7 O.hK (by have := O.hu; omega)
theorem q_ne : OpR X (compareOp .NotEq) (rOp t (bop .ne)) := op8 O.hK (by have := O.hu; omega)
theorem q_lt : OpR X (compareOp .Lt) (rOp t (bop .lt)) := op9 O.hK (by have := O.hu; omega)
theorem q_le : OpR X (compareOp .LtE) (rOp t (bop .le)) := op10
theorem q_gt : OpR X (compareOp .Gt) (rOp t (bop .gt)) := op11
theorem q_ge : OpR X (compareOp .GtE) (rOp t (bop .ge)) := op12
theorem q_is : OpR X (compareOp .Is) (rOp t (bop .is)) := op13
theorem q_isnot : OpR X (compareOp .IsNot) (rOp t (bop .isnot)) := op14
theorem q_in_ : OpR X (compareOp .In) (rOp t (bop .in_)) := op15 O.hK (by have := O.hu; omega)
theorem q_notin : OpR X (compareOp .NotIn) (rOp t (bop .notin)) := op16 O.hK (by have := O.hu; omega)
end
theorem bB {o : Op} {x y : Val} {h : Heap} (ho : (match o with | .add | .sub | .mul | .fdiv | .mod | .pow => false | _ => true) = true) : isB (bop o x y h) := by
  cases o <;> first | (cases ho; done) | exact isB_ofB
theorem bt_len : bootBuiltins "len" = some (.builtin "len") := by decide +kernel
theorem bt_max : bootBuiltins "max" = some (.builtin "max") := by decide +kernel
theorem bt_min : bootBuiltins "min" = some (.builtin "min") := by decide +kernel
theorem bt_sum : bootBuiltins "sum" = some (.builtin "sum") := by decide +kernel
theorem bt_all : bootBuiltins "all" = some (.builtin "all") := by decide +kernel
theorem bt_any : bootBuiltins "any" = some (.builtin "any") := by decide +kernel
theorem bt_repr : bootBuiltins "repr" = some (.builtin "repr") := by decide +kernel
theorem bt_isinstance : bootBuiltins "isinstance" = some (.builtin "isinstance") := by decide +kernel
theorem bt_int : bootBuiltins "int" = some (.type "int") := by decide +kernel
theorem bt_str : bootBuiltins "str" = some (.type "str") := by decide +kernel
theorem bt_bool : bootBuiltins "bool" = some (.type "bool") := by decide +kernel
theorem bt_list : bootBuiltins "list" = some (.type "list") := by decide +kernel
theorem bt_tuple : bootBuiltins "tuple" = some (.type "tuple") := by decide +kernel
theorem bt_dict : bootBuiltins "dict" = some (.type "dict") := by decide +kernel

/-! ## the law's end -/
section
variable {P : Program} {w : World} {K : PySem.W.Frag} {mg mb : Str → Option Value}
/-- the heap at the law's entry, H: nothing is tracked but the script -/
def H0 (K : PySem.W.Frag) (a : Addr) (vs : List Value) (ns : List Int) : Hp := fun b => if b = a ∧ K.lookup a = none then some (.frz { cls := .type "list", data := .seq vs.toArray } (.lst (ns.map V.int))) else none
theorem law_end {k : Nat} {fa a : Addr} {fd : FuncData} {x : Str} {s₁ : Shared} {vs : List Value} {ns : List Int} {ga : Nat → Option Addr} {m : List Val → Heap → Res Val} {h' : Heap}
    (KX : K.In s₁.heap) (gl : s₁.heap.Ns mainGlobals mg) (bl : s₁.heap.Ns builtinsNs mb) (bb : ∀ x : Str, x ≠ "__name__" → mb x = bootBuiltins x) (nl : s₁.heap.NoLimit) (sm : ∃ mm, s₁.heap.Ns sysModules mm) (gens : s₁.gens = #[])
    (at_ : s₁.heap.get? a = some { cls := .type "list", data := .seq vs.toArray }) (are : IntsAre vs ns) (fits : ns.length ≤ sizeLine) (room : Room k callerA)
    (F : ∀ base : PySem.Heap, K.In base → base.Ns mainGlobals mg → (∃ mm, base.Ns sysModules mm) → FnG P w K mg base k fa fd [x] (spC ⟨K, ga, a, ns, none⟩ m)) (bind : ∀ (s : Shared) (u : Value), BindsTo s fd ⟨[u], []⟩ [(x, u)])
    (ends : m [.scr] [] = .ok (.bl true) h') :
    codeAny (model P w) callerA (.call (.ref fa) ⟨[.ref a], []⟩) (fun r s' => r = .ok (.ret (.bool true)) ∧ OldK s₁.heap s'.heap ∧ s'.os = s₁.os ∧ AllBare s'.gens) s₁ := by
  have rel := vals_ints are
  have count := are.length
  have hz : ∀ {b : Addr} {u : HO}, H0 K a vs ns b = some u → b = a ∧ K.lookup a = none ∧ u = .frz { cls := .type "list", data := .seq vs.toArray } (.lst (ns.map V.int)) := by
    intro b u e
    unfold H0 at e
    split at e
    · rename_i c
      exact ⟨c.1, c.2, (Option.some.inj e).symm⟩
    · cases e
  have none_of : ∀ {b : Addr}, b ≠ a → H0 K a vs ns b = none := by
    intro b hb
    cases q : H0 K a vs ns b with
    | none => rfl
    | some u => exact absurd (hz q).1 hb
  have hok : HOk P w (H0 K a vs ns) s₁.heap := by
    intro b u e
    obtain ⟨rfl, _, rfl⟩ := hz e
    exact ⟨at_, by rw [List.length_map]; exact fits, vs, _, rel, at_⟩
  have keepN : ∀ {b : Addr} {mm : Str → Option Value}, s₁.heap.Ns b mm → (hidT s₁.heap (H0 K a vs ns)).Ns b mm := by
    intro b mm ⟨o, es, ep, e, d, r⟩
    refine ⟨o, es, ep, hidT_get e (none_of fun z => ?_), d, r⟩
    subst z
    rw [at_] at e
    cases e
    cases d
  have kin : K.In (hidT s₁.heap (H0 K a vs ns)) := by
    intro b o e
    refine hidT_get (KX b o e) ?_
    cases q : H0 K a vs ns b with
    | none => rfl
    | some u =>
      obtain ⟨rfl, z, _⟩ := hz q
      rw [z] at e; cases e
  have mod : Mod K mg (hidT s₁.heap (H0 K a vs ns)) := ⟨kin, keepN gl, ⟨mb, keepN bl, bb⟩, (fun ⟨mc, h1, h2⟩ => ⟨mc, keepN h1, h2⟩) nl⟩
  have env : Env0 P w K mg (hidT s₁.heap (H0 K a vs ns)) callerA [] s₁ (H0 K a vs ns) := by
    refine ⟨rfl, mod, fun b o e => of_hidT e, Nat.le_of_eq (hidT_size _ _), trivial, fun b hb => ?_, hok, .of_eq gens⟩
    cases (show b ∈ ([] : List Addr) from hb)
  have scr : ScrOk ⟨K, ga, a, ns, none⟩ (H0 K a vs ns) := by
    cases q : K.lookup a with
    | none => exact .inl ⟨_, if_pos ⟨rfl, q⟩⟩
    | some o =>
      have e := KX a o q
      rw [at_] at e
      cases e
      exact .inr ⟨_, vs.toArray, _, q, rfl, rfl, rfl, by rw [List.size_toArray, count]; exact fits, by simpa using rel⟩
  have hr : HR ⟨K, ga, a, ns, none⟩ [] [] (H0 K a vs ns) := ⟨rfl, List.nodup_nil, fun n o b e _ => by simp at e, scr, fun _ _ _ _ e => by cases e⟩
  refine codeAny_mono ((F _ kin (keepN gl) (let ⟨mm, z⟩ := sm; ⟨mm, keepN z⟩)).run callerA [] s₁ (H0 K a vs ns) ⟨[.ref a], []⟩ [.ref a] [.ref a] (fun v _ => v = .bl true) (fun _ _ _ => False) room rfl env (bind s₁ (.ref a)) (.cons rfl .nil)
    ⟨[], [], [.scr], hr, .cons rfl .nil, by rw [ends]; exact fun ρ' H' e x z rz => rz⟩) fun r s' h => ?_
  cases r with
  | error e =>
    obtain ⟨_, _, _, _, _, _, _, _, _, _, _, _, z⟩ := h
    exact z.elim
  | ok fl =>
    cases fl with
    | next => exact h.elim
    | brk => exact h.elim
    | cont => exact h.elim
    | ret u =>
      obtain ⟨v, H', os, bare, un, hok', ru, rfl⟩ := h
      obtain rfl : u = Value.bool true := ru
      refine ⟨rfl, OldK.of_keep fun b o e => ?_, os, bare⟩
      have nof : b ∉ frs [] := by intro z; cases (show b ∈ ([] : List Addr) from z)
      cases q : H0 K a vs ns b with
      | none => exact un.keep b o e q nof (by simp)
      | some u =>
        obtain ⟨rfl, _, rfl⟩ := hz q
        have e1 := (hok b _ q).1
        have e2 := (hok' b _ (un.frzs b _ _ q)).1
        rw [e] at e1
        cases e1
        exact e2
/-- what k_head leaves -/
theorem walk_g {l : PySem.W.OpenLaw} {n k : Nat} {q : Program} {loose : List Str} {XP : (Str → Option Value) → PySem.Heap → Prop} {YP : World → PySem.Heap → Prop} {d : DefRec} {K : Params → PySem.W.Frag} {x : Str}
    (hn : l.most = some n) (hn2 : n ≤ sizeLine) (hdf : d.params.defaults = []) (hi : importsNone q = true) (room : Room k callerA) (hY : ∀ (w : World) (h : PySem.Heap), YP w h → (K w.params).In h)
    (F : ∀ (w : World) (mg : Str → Option Value) (fa : Addr) (h : PySem.Heap), (K w.params).In h → h.Ns mainGlobals mg → mg d.name = some (.ref fa) →
      ∃ (fd : FuncData) (ga : Nat → Option Addr) (m : List Int → List Val → Heap → Res Val), (∀ (s : Shared) (u : Value), BindsTo s fd ⟨[u], []⟩ [(x, u)]) ∧ (∀ ns : List Int, ns.length ≤ n → ∃ h', m ns [.scr] [] = .ok (.bl true) h') ∧
        ∀ (a : Addr) (ns : List Int) (base : PySem.Heap), (K w.params).In base → base.Ns mainGlobals mg → (∃ mm, base.Ns sysModules mm) → FnG l.prog w (K w.params) mg base k fa fd [x] (spC ⟨K w.params, ga, a, ns, none⟩ (m ns))) :
    PySem.W.WalkO q loose XP YP l.row.toRowW d [] (fun f vs => PySem.call f vs) := by
  refine Att.attach_call hn hdf fun w s₀ s₁ mg mb fa o pm cd doc a vs ns G Y ho hd hcd hmg hobj hints hlen hg => ?_
  have KX := hY w _ Y
  obtain ⟨fd, ga, m, hb, hm, hF⟩ := F w mg fa _ KX G.T.g hmg
  obtain ⟨h', he⟩ := hm ns hlen
  exact law_end KX G.T.g G.T.b G.T.builtins G.T.nolimit (let ⟨mm, z, _⟩ := (G.T.seer hi).mods; ⟨mm, z⟩) hg hobj hints (Nat.le_trans hlen hn2) room (hF a ns) hb he
end
end Mi


/-! # Mi8X: raise, try, a caught exception's fields -/
namespace Mi
open PySem PySem.Spec PyProof.Rows L2
/-- an exception class as it may be raised: its number, its fields -/
structure CE (P : Program) (w : World) (K : PySem.W.Frag) (mg : Str → Option Value) (base : PySem.Heap) (t : Th) (x : Str) (i : Nat) (fs : List Str) : Prop where
  ex : ∃ (C fI : Addr) (fd : FuncData) (ps : List Str), t.ga i = some C ∧ ExC K mg x C fI fs ∧ Binds K fd ps [] ∧ FnOk P w K mg base (L2.CX P w) 2 fI fd ps (spI C fs)
/-- a class as a clause names it: which ones it takes -/
structure HE (K : PySem.W.Frag) (mg : Str → Option Value) (t : Th) (x : Str) (ids : List Nat) : Prop where
  ex : ∃ T : Addr, mg x = some (.ref T) ∧ ∀ k C, t.ga k = some C → PySem.W.exmOne K (.ref C) (.ref T) = some (decide (k ∈ ids))
/-- a field that those classes have -/
def FE (K : PySem.W.Frag) (t : Th) (ids : List Nat) (f : Str) : Prop := ∀ k C, k ∈ ids → t.ga k = some C → XfC K C ∧ PySem.W.findIn K (.ref C) f = some none
section
variable {t : Th} {ρ : List Addr} {h : Heap} {H : Hp}
theorem frs_zip : ∀ {fs : List Str} {vs : List Val} {ys : List V}, VRs t ρ vs ys → FRs t ρ (fs.zip vs) (fs.zip ys)
  | [], _, _, _ => by rw [List.zip_nil_left, List.zip_nil_left]; exact .nil
  | f :: fs, _, _, .nil => .nil
  | f :: fs, _, _, .cons r rs => .cons ⟨rfl, r⟩ (frs_zip rs)
theorem frs_look {f : Str} {v : Val} : ∀ {fs : List (Str × Val)} {ys : List (Str × V)}, FRs t ρ fs ys → fs.lookup f = some v → ∃ y, ys.lookup f = some y ∧ VR t ρ v y
  | [], _, .nil, e => by cases e
  | (k, w) :: fs, (k', y) :: ys, .cons r rs, e => by
    obtain ⟨r1, r2⟩ := r
    dsimp only at r1 r2
    subst r1
    simp only [List.lookup] at e ⊢
    by_cases hk : (f == k) = true
    · rw [hk] at e ⊢
      cases e
      exact ⟨y, rfl, r2⟩
    · have hk2 : (f == k) = false := by simpa using hk
      rw [hk2] at e ⊢
      exact frs_look rs e
end
section
variable {X : Cx} {t : Th} {W : L2.WX} {g : G} {e : Expr} {es : List Expr} {ms : Exs} {pos : Pos}
theorem s_rse {x : Str} {i : Nat} {fs : List Str} {p pos' : Pos} {k : Nat} (O : OkC X t W) (C : CE X.prog X.w X.K X.mg X.base t x i fs) (hr : Room (k + 3) X.A) (ha : PA X (e :: es) (tA t W (dens g ms))) (hf : fs.length ≤ 900 := by decide) (hg : Gl X x := by rfl)
    (hdb : (x == ("__debug__" : Str)) = false := by decide) (he : starEach (e :: es) X.env = (false, eval e X.env) :: starEach es X.env := by rfl) (hpl : (backTo pos (starEach es X.env)).any (·.1) = false := by rfl) :
    PS X (.Raise (some (.Call (.Name x p) (e :: es) [] pos)) none pos') (tS t W (exe g (.rse i fs ms))) := by
  obtain ⟨Ca, fI, fd, ps, hga, T, hb, F⟩ := C.ex
  refine PSi (ps_rse O.calm O.tk T F (hr.mono (Nat.le_add_left _ _)) hb hg ha hdb he hpl) fun D σ H ⟨ρ, h, s, x, sr, p⟩ => ⟨ρ, h, s, x, sr, ?_⟩
  unfold exe at p
  refine (Post.sb sr p).imp fun vs h1 ρ1 H1 e1 x1 p1 ys ry => ?_
  split at p1
  · rename_i hl
    refine mko_in (C := Ca) (Q := fun cls d H' => W cls d σ H') (by rw [← ry.length]; exact hl) hf fun d hd => ?_
    have nd : d ∉ ρ1 := x1.free hd
    refine p1 ρ1 _ ((Ext.refl _ _).aside hd) (x1.aside nd (by rw [hd]; exact fun _ _ => nofun) (by rw [hd]; exact fun _ => nofun)) Ca d _ σ hga upd_same ?_ (SR.ext e1 sr)
    exact pr_rev (frs_zip ry)
  · exact p1.elim
theorem OkC.tr (O : OkC X t W) {W' : L2.WX} {pn : List (Addr × PySem.Obj)} {xe : Value → Shared → Prop} (tk : Takes (X.tr pn xe) W') (own : PassesOwn (model X.prog X.w) X.A X.env xe) : OkC (X.tr pn xe) t W' :=
  ⟨⟨O.hK, O.nd, O.hu, O.hg, O.sm, own, tk⟩, O.calm, O.px⟩
theorem OkC.su (O : OkC X t W) (a : Addr) (pn : List (Addr × PySem.Obj)) (e : Option (Nat × Addr × Addr × List (Str × Val))) : Ok (X.suite a pn) { t with ex := e } W0 :=
  ⟨O.hK, O.nd, O.hu, O.hg, O.sm, PassesOwn.never, takes0⟩
/-- e.f in the suite of «except .. as e» -/
theorem e_efl {a C d : Addr} {oe : PySem.Obj} {pn : List (Addr × PySem.Obj)} {i : Nat} {nm f : Str} {fs : List (Str × Val)} {p : Pos} {ids : List Nat} {k : Nat} {W' : L2.WX} (hk : k ∈ ids) (hga : t.ga k = some C) (T : FE X.K t ids f) (hz : Zc (.ref C) (some d) oe) (hf : ∃ vs, oe.data = .fields vs) (hex : t.ex = some (i, a, d, fs)) (hg : g.ex = some fs)
    (hi : X.N[i]? = some nm := by rfl) (hv : Vis X.env.scope nm := by first | exact Or.inl rfl | exact Or.inr (Or.inl rfl) | exact Or.inr (Or.inr rfl)) (hd : (nm == ("__debug__" : Str)) = false := by decide) (hcd : (nm == ("__classdict__" : Str)) = false := by decide)
    (hb : attributeBase (.Name nm p) f X.env (eval (.Name nm p) X.env) = eval (.Name nm p) X.env := by rfl) : PE (X.suite a ((a, oe) :: pn)) (.Attribute (.Name nm p) f pos) (tE t W' (den g (.efl i f))) := by
  obtain ⟨xf, no⟩ := T k C hk hga
  refine PEi (pe_xf xf no hz hf (pe_var (X := X.suite a ((a, oe) :: pn)) hi hv hd hcd) hb) fun σ H Q ⟨ρ, h, s, x, sr, p⟩ => ?_
  unfold den at p
  split at p
  · rename_i hs
    rw [hg] at p
    dsimp only at p
    split at p
    · rename_i v hv
      obtain ⟨ys, e1, e2⟩ := x.xs _ _ _ _ hex
      obtain ⟨y, e3, ry⟩ := frs_look e2 hv
      exact ⟨.ref a, sr.px _ _ _ _ hex hs, rfl, rfl, d, ys, y, rfl, e1, e3, Post.ok x p _ ry⟩
    · exact p.elim
  · exact p.elim
end
/-! ## the things said with and without a handled exception -/
abbrev Th.hot (t : Th) (i : Nat) (a d : Addr) (fs : List (Str × Val)) : Th := { t with ex := some (i, a, d, fs) }
section
variable {t : Th} {e : Option (Nat × Addr × Addr × List (Str × Val))} {ρ ρ' : List Addr} {h h' : Heap} {H H' : Hp} {α : Type}
theorem VR_ex : VR { t with ex := e } = VR t := by
  funext ρ v y
  cases v <;> rfl
theorem OR_ex : OR { t with ex := e } = OR t := by
  funext ρ H a o
  cases o <;> simp only [OR, VRs, KRs, FRs, VR_ex]
theorem SO_ex : SO { t with ex := e } = SO t := by
  funext ρ o p
  cases o <;> cases p <;> simp only [SO, VR_ex]
theorem HR.cold (hx : t.ex = none) (x : HR { t with ex := e } ρ h H) : HR t ρ h H :=
  ⟨x.len, x.nd, fun n o a h1 h2 => by have := x.ob n o a h1 h2; rw [OR_ex] at this; exact this, x.sc, fun i a d fs z => by rw [hx] at z; cases z⟩
theorem HR.warm (x : HR t ρ h H) (q : XOk { t with ex := e } ρ H) : HR { t with ex := e } ρ h H :=
  ⟨x.len, x.nd, fun n o a h1 h2 => by have := x.ob n o a h1 h2; rw [OR_ex]; exact this, x.sc, q⟩
theorem SR.cold (hx : t.ex = none) {s : Sl} {σ : L2.St} (x : SR { t with ex := e } ρ s σ) : SR t ρ s σ :=
  ⟨by have := x.pr; rw [SO_ex] at this; exact this, fun i a d fs z => by rw [hx] at z; cases z⟩
theorem XOk.ext (x : HR { t with ex := e } ρ h H) (e1 : Ext ρ H ρ' H') : XOk { t with ex := e } ρ' H' := fun i a d fs z => by
  obtain ⟨ys, q1, q2⟩ := x.xs i a d fs z
  refine ⟨ys, e1.keep d _ (fun hm => ?_) q1, pr_mono (fun _ _ w => ⟨w.1, VR.ext e1 w.2⟩) q2⟩
  obtain ⟨u, h1, _, h2⟩ := x.tr hm
  rw [q1] at h1; cases h1
  exact h2 _ rfl
/-- from the one to the other -/
theorem Post.cold (hx : t.ex = none) (x : HR { t with ex := e } ρ h H) {r : Res α} {k k' : α → Heap → List Addr → Hp → Prop} {E : Value → Option Addr → Hp → Prop} (p : Post { t with ex := e } ρ H r k E)
    (hk : ∀ a h' ρ' H', Ext ρ H ρ' H' → HR { t with ex := e } ρ' h' H' → k a h' ρ' H' → k' a h' ρ' H') : Post t ρ H r k' E := by
  cases r with
  | ok a h1 => exact fun ρ2 H2 e2 y => hk _ _ _ _ e2 (y.warm (XOk.ext x e2)) (p ρ2 H2 e2 (y.warm (XOk.ext x e2)))
  | exc c fs h1 => exact fun ρ2 H2 C d ys e2 y hc hd hf => p ρ2 H2 C d ys e2 (y.warm (XOk.ext x e2)) hc hd (pr_mono (fun _ _ w => ⟨w.1, by rw [VR_ex]; exact w.2⟩) hf)
  | bad => exact p
theorem CalleeN.hot {P : Program} {w : World} {K : PySem.W.Frag} {mg : Str → Option Value} {base : PySem.Heap} {k : Nat} {f : Str} {ds : List Val} {m : List Val → Heap → Res Val} (hx : t.ex = none) (C : CalleeN P w K mg base t k f ds m) : CalleeN P w K mg base { t with ex := e } k f ds m := by
  obtain ⟨fa, fd, ps, us, dvs, h1, h2, h3, h4, h5, F⟩ := C.ex
  have imp : ∀ vs H Q E, spC { t with ex := e } m vs H Q E → spC t m vs H Q E := fun vs H Q E ⟨ρ, h, as, x, r, p⟩ =>
    ⟨ρ, h, as, x.cold hx, by unfold VRs at r; rw [VR_ex] at r; exact r, Post.cold hx x p fun a h' ρ' H' _ _ q y ry => q y (by rw [VR_ex]; exact ry)⟩
  exact ⟨fa, fd, ps, us, dvs, h1, h2, h3, h4, fun ρ => by unfold VRs; rw [VR_ex]; exact h5 ρ, ⟨fun vs H Q E q => F.len vs H Q E (imp _ _ _ _ q), fun A outer s H args us vs Q E room gu env b r q => F.run A outer s H args us vs Q E room gu env b r (imp _ _ _ _ q)⟩⟩
theorem FE.hot {K : PySem.W.Frag} {ids : List Nat} {f : Str} (x : FE K t ids f) : FE K { t with ex := e } ids f := x
end
/-! ## try -/
/-- the clauses, their mirror -/
inductive HC (X : Cx) (t : Th) (g : G) : List ExceptHandler → Hds → Prop
  | nil : HC X t g [] .nil
  | plain {x : Str} {ids : List Nat} {b₀ : Stmt} {suite : List Stmt} {np pos' : Pos} {hds : List ExceptHandler} {nss : Sts} {hs : Hds} (hE : HE X.K X.mg t x ids) (hg : Gl X x) (hdb : (x == ("__debug__" : Str)) = false)
      (hsu : ∀ a pn fs, Ok (X.suite a pn) t W0 → PSs (X.suite a pn) (b₀ :: suite) (tS t W0 (exes { g with ex := some fs } nss))) (r : HC X t g hds hs) :
      HC X t g (.ExceptHandler (some (.Name x np)) none (b₀ :: suite) pos' :: hds) (.cons ids none nss hs)
  | named {x nm : Str} {ids : List Nat} {i : Nat} {b₀ : Stmt} {suite : List Stmt} {np pos' : Pos} {hds : List ExceptHandler} {nss : Sts} {hs : Hds} (hE : HE X.K X.mg t x ids) (hg : Gl X x) (hdb : (x == ("__debug__" : Str)) = false) (hi : X.N[i]? = some nm) (hln : X.env.kindOf nm = some .local)
      (hsu : ∀ a oe pn fs C d k, k ∈ ids → t.ga k = some C → Zc (.ref C) (some d) oe → (∃ vs, oe.data = .fields vs) → Ok (X.suite a ((a, oe) :: pn)) (t.hot i a d fs) W0 → PSs (X.suite a ((a, oe) :: pn)) (b₀ :: suite) (tS (t.hot i a d fs) W0 (exes { g with ex := some fs } nss))) (r : HC X t g hds hs) :
      HC X t g (.ExceptHandler (some (.Name x np)) (some nm) (b₀ :: suite) pos' :: hds) (.cons ids (some i) nss hs)
section
variable {X : Cx} {t : Th} {W : L2.WX} {g : G} {pos : Pos} {hds : List ExceptHandler} {hs : Hds}
theorem hands_ok (hx : t.ex = none) (O : ∀ a pn e, Ok (X.suite a pn) { t with ex := e } W0) (k : HC X t g hds hs) : ∃ l, HdsAny X hds l ∧ ∀ (ρ : List Addr) (h : Heap) (H : Hp) (s : Sl) (σ : L2.St) (D : Ends) (W : L2.WX) (c : Nat) (fs : List (Str × Val)) (C d : Addr) (ys : List (Str × V)),
    HR t ρ h H → SR t ρ s σ → t.ga c = some C → H d = some (.xd ys) → FRs t ρ fs ys → Post t ρ H (hands g hs c fs s h) (KFl t W D) E0' → wAny X.K W D l (.ref C) (some d) σ H := by
  induction k with
  | nil => exact ⟨[], .nil, fun ρ h H s σ D W c fs C d ys x sr hc hd hf p => by unfold hands at p; exact Post.ok x p C d ys σ hc hd hf sr⟩
  | @plain x' ids b₀ suite np pos' hds nss hs hE hg hdb hsu r ih =>
    obtain ⟨l, hl, ih⟩ := ih
    obtain ⟨T, hT, hm⟩ := hE.ex
    refine ⟨(.ref T, none, fun a cls d => fun D σ H => ∃ fs, tS t W0 (exes { g with ex := some fs } nss) D σ H) :: l, .plain ⟨hg, hdb, .inl hT⟩ (fun a oe cls d pn z1 z2 => ⟨fun pins s σ H D I ⟨fs, q⟩ => (hsu a ((a, oe) :: pn) fs (by have := O a ((a, oe) :: pn) t.ex; exact this)).run pins s σ H D I q⟩) hl, fun ρ h H s σ D W c fs C d ys x sr hc hd hf p => ⟨_, hm c C hc, fun e a ha => ?_, fun e => ih ρ h H s σ D W c fs C d ys x sr hc hd hf ?_⟩⟩
    · have e := of_decide_eq_true e
      unfold hands at p
      rw [if_pos e] at p
      refine ⟨fs, ρ, h, s, x, sr, (Post.bind p).imp fun fl h1 ρ1 H1 e1 x1 p1 => ?_⟩
      cases fl with
      | nx s' => exact Post.ok (E := E0') x1 p1
      | rt v => exact Post.ok (E := E0') x1 p1
      | ex c' fs' s' => exact p1.elim
    · have e := of_decide_eq_false e
      unfold hands at p
      rw [if_neg e] at p
      exact p
  | @named x' nm ids i b₀ suite np pos' hds nss hs hE hg hdb hi hln hsu r ih =>
    obtain ⟨l, hl, ih⟩ := ih
    obtain ⟨T, hT, hm⟩ := hE.ex
    refine ⟨(.ref T, some i, fun a cls d => fun D σ H => ∃ fs C d', cls = .ref C ∧ d = some d' ∧ (∃ k ∈ ids, t.ga k = some C) ∧ tS (t.hot i a d' fs) W0 (exes { g with ex := some fs } nss) D σ H) :: l,
      .named ⟨hg, hdb, .inl hT⟩ hi hln (fun a oe cls d pn z1 z2 => ⟨fun pins s σ H D I ⟨fs, C, d', e1, e2, ⟨k, hk, hga⟩, q⟩ => by subst e1; subst e2; exact (hsu a oe pn fs C d' k hk hga z1 z2 (O a ((a, oe) :: pn) _)).run pins s σ H D I q⟩) hl, fun ρ h H s σ D W c fs C d ys x sr hc hd hf p => ⟨_, hm c C hc, fun e a ha => ?_, fun e => ih ρ h H s σ D W c fs C d ys x sr hc hd hf ?_⟩⟩
    · have e := of_decide_eq_true e
      unfold hands at p
      rw [if_pos e] at p
      have xo : XOk (t.hot i a d fs) ρ H := fun i' a' d' fs' z => by
        cases z
        exact ⟨ys, hd, pr_mono (fun _ _ w => ⟨w.1, by rw [VR_ex]; exact w.2⟩) hf⟩
      have xh : HR (t.hot i a d fs) ρ h H := x.warm xo
      have srh : SR (t.hot i a d fs) ρ (goneS (some i) s) (σ.set i (some (.ref a))) := by
        refine ⟨?_, fun i' a' d' fs' z e2 => ?_⟩
        · rw [SO_ex]
          exact pr_set (show SO t ρ none (some (.ref a)) from trivial) i sr.pr
        · cases z
          have hl : i < s.length := by
            have := (List.getElem?_eq_some_iff.mp e2).1
            rw [show (goneS (some i) s).length = s.length from List.length_set] at this
            exact this
          rw [List.getElem?_set_self (by rw [← sr.pr.length]; exact hl)]
      refine ⟨fs, C, d, rfl, rfl, ⟨c, e, hc⟩, ρ, h, goneS (some i) s, xh, srh, ?_⟩
      generalize exes { g with ex := some fs } nss (goneS (some i) s) h = z at p ⊢
      cases z with
      | bad => exact p
      | exc c' fs' h1 => exact fun _ _ _ _ _ e2 y _ _ _ => (p _ _ _ _ _ e2 (y.cold hx) (by assumption) (by assumption) (by rename_i q; exact pr_mono (fun _ _ w => ⟨w.1, by have := w.2; rw [VR_ex] at this; exact this⟩) q)).elim
      | ok fl h1 =>
        cases fl with
        | nx s' => exact fun ρ1 H1 e1 x1 σ' sr' => p ρ1 H1 e1 (x1.cold hx) (σ'.set i none) (by
            have q := SR.cold hx sr'
            exact ⟨pr_set (show SO t ρ1 none none from trivial) i q.pr, fun _ _ _ _ z => by rw [hx] at z; cases z⟩)
        | rt v => exact fun ρ1 H1 e1 x1 y ry => p ρ1 H1 e1 (x1.cold hx) y (by rw [VR_ex] at ry; exact ry)
        | ex c' fs' s' => exact p.elim
    · have e := of_decide_eq_false e
      unfold hands at p
      rw [if_neg e] at p
      exact p
theorem s_tri {body : List Stmt} {h₀ : ExceptHandler} {nss : Sts} (O : OkC X t W) (hb : ∀ (W' : L2.WX) (pn : List (Addr × PySem.Obj)) (xe : Value → Shared → Prop), OkC (X.tr pn xe) t W' → PSs (X.tr pn xe) body (tS t W' (exes g nss))) (hh : HC X t g (h₀ :: hds) hs)
    (hst : X.stack = X.env :: X.outer := by rfl) (hf : X.env.frame = some X.env.locals := by rfl) : PS X (.Try body (h₀ :: hds) [] [] pos) (tS t W (exe g (.tri nss hs))) := by
  obtain ⟨l, hl, ih⟩ := hands_ok O.px (fun a pn e => O.su a pn e) hh
  refine PSi (ps_try_any hst hf O.nd O.tk (tb := fun W' => tS t W' (exes g nss)) (fun W' pn xe tk own => hb W' pn xe (O.tr tk own)) hl) fun D σ H ⟨ρ, h, s, x, sr, p⟩ => ⟨ρ, h, s, x, sr, ?_⟩
  unfold exe at p
  refine (Post.bind p).imp fun fl h1 ρ1 H1 e1 x1 p1 => ?_
  cases fl with
  | nx s' => exact Post.ok (E := E0') x1 p1
  | rt v => exact Post.ok (E := E0') x1 p1
  | ex c fs s' => exact fun C d ys σ' hc hd hf sr' => ih ρ1 h1 H1 s' σ' D W c fs C d ys x1 sr' hc hd hf p1
end
/-! ## x in range(..) -/
def rRng (neg : Bool) : R2 := fun x y H Q => ∃ i a lo hi, x = V.int i ∧ y = V.ref a ∧ H a = some (.rng lo hi) ∧ Q (.bl (xor neg (decide (lo ≤ i ∧ i < hi)))) H
def rRgs : List V → Hp → VK → Prop := fun vs H Q => (∃ j, vs = [V.int j] ∧ ∀ p, H p = none → Q (.ref p) (upd H p (.rng 0 j))) ∨ ∃ i j, vs = [V.int i, V.int j] ∧ ∀ p, H p = none → Q (.ref p) (upd H p (.rng i j))
section
variable {X : Cx} {t : Th} {W : L2.WX} {g : G} {a b : Expr} {bs : List Expr} {ma : Ex} {ms : Exs} {pos : Pos}
theorem rg_in : OpR X (compareOp .In) (rRng false) := by
  intro pins s σ H x y v u Q I rx ry ⟨i, a, lo, hi, e1, e2, e3, q⟩
  exact op_in_rng pins s σ H x y v u Q I rx ry ⟨i, a, lo, hi, e1, e2, e3, by rw [Bool.false_xor] at q; exact q⟩
theorem rg_notin : OpR X (compareOp .NotIn) (rRng true) := by
  intro pins s σ H x y v u Q I rx ry h
  obtain ⟨i, a, lo, hi, rfl, rfl, ha, q⟩ := h
  obtain ⟨k, rfl⟩ := rx
  obtain rfl : u = Value.ref a := ry
  obtain ⟨t1, t2, t3, ho⟩ := I.hok a _ ha
  show wpAny _ _ (do return Value.bool (!(← contains (Value.ref a) (Value.int i k)))) _ _ s
  refine wpAny_bind (wpAny_contains_slot (T := "range") ⟨_, ho, rfl⟩ F.slot_range_contains (call_meets F.slot_range_contains ⟨_, ho, rfl⟩ F.entry_range_contains (F.args_range_contains_2 _ _) (q_contains a lo hi i t1 t2 t3 k)
    ⟨ho, wpAny_truthy_bool (wpAny_pure ⟨.bl _, H, I, rfl, ?_⟩)⟩))
  rw [place1]
  rw [Bool.true_xor] at q
  exact q
theorem cr_rgs : CallR X (.type "range") rRgs := by
  intro pins s σ H vs us Q I r h
  rcases h with ⟨j, rfl, q⟩ | ⟨i, j, rfl, q⟩
  · match us, r with
    | [_], .cons ⟨u, e⟩ .nil =>
      subst e
      refine call_range_1 ⟨.ref s.heap.objs.size, upd H s.heap.objs.size (.rng 0 j), I.laid (t' := s.toks + 1 + 1) (fun b o e => Heap.get?_push_of_some _ e) (Nat.le_refl _) ?_, rfl, q _ (I.hok.fresh (Nat.le_refl _))⟩
      exact ⟨s.toks, u, s.toks + 1, Heap.get?_push_size _ rfl⟩
  · exact cr_range2 pins s σ H _ us Q I r ⟨i, j, rfl, q⟩
theorem rg_imp {op : CmpOp} {neg : Bool} {σ : L2.St} {H : Hp} {Q : VK} (q : tE t W (den g (.inr neg ma ms)) σ H Q) : tOp (rRng neg) (tE t W (den g ma)) (tCB rRgs (tA t W (dens g ms))) σ H Q := by
  obtain ⟨ρ, h, s, x, sr, p⟩ := q
  unfold den at p
  refine ⟨ρ, h, s, x, sr, (Post.bind p).imp fun v h1 ρ1 H1 e1 x1 p1 y ry => ⟨ρ1, h1, s, x1, SR.ext e1 sr, (Post.bind p1).imp fun vs h2 ρ2 H2 e2 x2 p2 zs rz => ?_⟩⟩
  have fin : ∀ (i lo hi : Int), y = .int i → Post t ρ2 H2 (.ok (.bl (xor neg (decide (lo ≤ i ∧ i < hi)))) h2) (KV1 t Q) (EW W σ) → ∀ p, H2 p = none → rRng neg y (.ref p) (upd H2 p (.rng lo hi)) Q := by
    intro i lo hi ey p3 p hp
    have nd : p ∉ ρ2 := x2.free hp
    exact ⟨i, p, lo, hi, ey, rfl, upd_same, p3 ρ2 _ ((Ext.refl _ _).aside hp) (x2.aside nd (by rw [hp]; exact fun _ _ => nofun) (by rw [hp]; exact fun _ => nofun)) _ rfl⟩
  unfold inrV at p2
  split at p2
  · rename_i i
    have ey : y = .int i := ry
    split at p2
    · obtain ⟨z, rfl, r1⟩ := vrs1 rz
      cases r1
      exact .inl ⟨_, rfl, fin _ _ _ ey p2⟩
    · obtain ⟨z1, z2, rfl, r1, r2⟩ := vrs2 rz
      cases r1; cases r2
      exact .inr ⟨_, _, rfl, fin _ _ _ ey p2⟩
    · exact p2.elim
  · exact p2.elim
theorem e_inr {op : CmpOp} {neg : Bool} {p p2 : Pos} (ho : OpR X (compareOp op) (rRng neg)) (ha : PE X a (tE t W (den g ma))) (hm : X.mg "range" = none) (hb : PA X (b :: bs) (tA t W (dens g ms))) (hg : Gl X "range" := by rfl)
    (he : starEach (b :: bs) X.env = (false, eval b X.env) :: starEach bs X.env := by rfl) (hpl : (backTo p2 (starEach bs X.env)).any (·.1) = false := by rfl) (hmk : behindInMarks op (.Call (.Name "range" p) (b :: bs) [] p2) = false := by rfl) :
    PE X (.Compare a [op] [.Call (.Name "range" p) (b :: bs) [] p2] pos) (tE t W (den g (.inr neg ma ms))) :=
  PEi (pe_cmpR ho ha (pe_callTy cr_rgs hg hm (by decide +kernel) hb (by decide) (by decide) he hpl) hmk) fun σ H Q q => rg_imp (op := op) q
theorem t_inr {op : CmpOp} {neg : Bool} {p p2 : Pos} (ho : OpR X (compareOp op) (rRng neg)) (ha : PE X a (tE t W (den g ma))) (hm : X.mg "range" = none) (hb : PA X (b :: bs) (tA t W (dens g ms))) (hg : Gl X "range" := by rfl)
    (he : starEach (b :: bs) X.env = (false, eval b X.env) :: starEach bs X.env := by rfl) (hpl : (backTo p2 (starEach bs X.env)).any (·.1) = false := by rfl) (hmk : behindInMarks op (.Call (.Name "range" p) (b :: bs) [] p2) = false := by rfl) :
    PT X (.Compare a [op] [.Call (.Name "range" p) (b :: bs) [] p2] pos) (tT t W (denT g (.inr neg ma ms))) := by
  refine PTi (pt_cmpR ho ha (pe_callTy cr_rgs hg hm (by decide +kernel) hb (by decide) (by decide) he hpl) hmk) fun σ H Q ⟨ρ, h, s, hr, sr, q⟩ => ?_
  refine rg_imp (op := op) (Q := fun v H' => ∃ k, v = .bl k ∧ Q k H') ⟨ρ, h, s, hr, sr, ?_⟩
  unfold denT at q
  unfold den at q ⊢
  have q1 := Post.bind q
  have q2 := Post.bind q1
  refine (show Post t ρ H ((den g ma s h).bind fun x h => (dens g ms s h).bind fun vs h => inrV neg x vs h) _ _ from ?_)
  generalize he : ((den g ma s h).bind fun x h => (dens g ms s h).bind fun vs h => inrV neg x vs h) = r at q1 ⊢
  cases r with
  | bad => exact q1
  | exc c fs h1 => exact q1
  | ok v h1 =>
    have hv : ∃ k, v = .bl k := by
      cases hx : den g ma s h with
      | ok x1 h1' =>
        rw [hx] at he
        cases hy : dens g ms s h1' with
        | ok y1 h2' =>
          simp only [Res.bind_ok, hy] at he
          unfold inrV at he
          repeat' split at he
          all_goals cases he
          all_goals exact ⟨_, rfl⟩
        | exc _ _ _ => simp only [Res.bind_ok, hy, Res.bind_exc] at he; cases he
        | bad => simp only [Res.bind_ok, hy, Res.bind_bad] at he; cases he
      | exc _ _ _ => rw [hx] at he; cases he
      | bad => rw [hx] at he; cases he
    obtain ⟨k, rfl⟩ := hv
    intro ρ2 H2 e2 x2 z rz
    cases rz
    exact ⟨k, rfl, (q1 ρ2 H2 e2 x2).ok x2⟩
end
end Mi


/-! # Mi9: how a text of Mi is reckoned: what must hold at its end; heaps that grow; the script's numbers -/
namespace Mi
open PySem (Str PyData)

/-- an equation that simp shall not take for one by unfolding -/
theorem nrfl {α : Sort _} {a b : α} (h : a = b) : a = b := h
abbrev RQ (α : Type) := α → Heap → Prop
abbrev RE := Nat → List (Str × Val) → Heap → Prop
def Res.sat {α : Type} (r : Res α) (Q : RQ α) (E : RE) : Prop :=
  match r with
  | .ok a h => Q a h
  | .exc c fs h => E c fs h
  | .bad => False
abbrev nox : RE := fun _ _ _ => False
theorem Res.sat.imp {α : Type} {r : Res α} {Q Q' : RQ α} {E E' : RE} (s : r.sat Q E) (hq : ∀ a h, Q a h → Q' a h) (he : ∀ c fs h, E c fs h → E' c fs h) : r.sat Q' E' := by
  cases r with
  | ok a h => exact hq _ _ s
  | exc c fs h => exact he _ _ _ s
  | bad => exact s
theorem Res.sat.on {α : Type} {r : Res α} {Q Q' : RQ α} {E : RE} (s : r.sat Q nox) (hq : ∀ a h, Q a h → Q' a h) : r.sat Q' E := s.imp hq fun _ _ _ z => z.elim
@[simp] theorem sat_ok {α : Type} {a : α} {h : Heap} {Q : RQ α} {E : RE} : (Res.ok a h).sat Q E = Q a h := nrfl rfl
@[simp] theorem sat_exc {α : Type} {c : Nat} {fs : List (Str × Val)} {h : Heap} {Q : RQ α} {E : RE} : (Res.exc c fs h).sat Q E = E c fs h := nrfl rfl
@[simp] theorem sat_bad {α : Type} {Q : RQ α} {E : RE} : (Res.bad : Res α).sat Q E = False := nrfl rfl
@[simp] theorem sat_bind {α β : Type} {r : Res α} {f : α → Heap → Res β} {Q : RQ β} {E : RE} : (r.bind f).sat Q E = r.sat (fun a h => (f a h).sat Q E) E := by cases r <;> rfl
@[simp] theorem sat_sb {α : Type} {σ : Sl} {r : Res α} {f : α → Heap → Res Fl} {Q : RQ Fl} {E : RE} : (r.sb σ f).sat Q E = r.sat (fun a h => (f a h).sat Q E) (fun c fs h => Q (.ex c fs σ) h) := by cases r <;> rfl
@[simp] theorem sat_fin {r : Res Fl} {Q : RQ Val} {E : RE} : r.fin.sat Q E = r.sat (fun f h => (f.out h).sat Q E) nox := by
  cases r with
  | ok f h => rfl
  | exc => rfl
  | bad => rfl
@[simp] theorem sat_ite_bad {α : Type} {c : Prop} [Decidable c] {r : Res α} {Q : RQ α} {E : RE} : (if c then r else .bad).sat Q E = (c ∧ r.sat Q E) := by
  by_cases h : c <;> simp [h]
theorem sat_ite {α : Type} {c : Prop} [Decidable c] {r r' : Res α} {Q : RQ α} {E : RE} (h1 : c → r.sat Q E) (h2 : ¬ c → r'.sat Q E) : (if c then r else r').sat Q E := by
  by_cases h : c
  · rw [if_pos h]; exact h1 h
  · rw [if_neg h]; exact h2 h

/-- to the clauses, where it is raised -/
def Fl.tri (f : Fl) (h : Heap) (k : Nat → List (Str × Val) → Sl → Heap → Res Fl) : Res Fl :=
  match f with
  | .ex c fs σ => k c fs σ h
  | .nx σ => .ok (.nx σ) h
  | .rt v => .ok (.rt v) h
@[simp] theorem Fl.tri_nx {σ : Sl} {h : Heap} {k : Nat → List (Str × Val) → Sl → Heap → Res Fl} : (Fl.nx σ).tri h k = .ok (.nx σ) h := nrfl rfl
@[simp] theorem Fl.tri_rt {v : Val} {h : Heap} {k : Nat → List (Str × Val) → Sl → Heap → Res Fl} : (Fl.rt v).tri h k = .ok (.rt v) h := nrfl rfl
@[simp] theorem Fl.tri_ex {c : Nat} {fs : List (Str × Val)} {σ : Sl} {h : Heap} {k : Nat → List (Str × Val) → Sl → Heap → Res Fl} : (Fl.ex c fs σ).tri h k = k c fs σ h := nrfl rfl
/-! ## the equations -/
@[simp] theorem SL_is : SL = 16777216 := nrfl rfl
section
variable {g : G} {σ : Sl} {h : Heap}
@[simp] theorem den_var {i : Nat} : den g (.var i) σ h = (match σ[i]? with | some (some v) => .ok v h | _ => .bad) := by rw [den] <;> rfl
@[simp] theorem den_cst {v : Val} : den g (.cst v) σ h = .ok v h := by rw [den] <;> rfl
@[simp] theorem den_glb {x : Nat} : den g (.glb x) σ h = (match g.glob x with | some v => .ok v h | none => .bad) := by rw [den] <;> rfl
@[simp] theorem den_bin {o : Op} {a b : Ex} : den g (.bin o a b) σ h = (den g a σ h).bind fun x h => (den g b σ h).bind fun y h => bop o x y h := by rw [den] <;> rfl
@[simp] theorem den_neg {a : Ex} : den g (.neg a) σ h = (den g a σ h).bind fun x h => (match x with | .int i => .ok (.int (-i)) h | _ => .bad) := by rw [den] <;> rfl
@[simp] theorem den_not {a : Ex} : den g (.not a) σ h = (den g a σ h).bind fun x h => (truB x h).bind fun b h => .ok (.bl (!b)) h := by rw [den] <;> rfl
@[simp] theorem den_and {a b : Ex} : den g (.and a b) σ h = (den g a σ h).bind fun x h => (truB x h).bind fun t h => if t then den g b σ h else .ok x h := by rw [den] <;> rfl
@[simp] theorem den_or {a b : Ex} : den g (.or a b) σ h = (den g a σ h).bind fun x h => (truB x h).bind fun t h => if t then .ok x h else den g b σ h := by rw [den] <;> rfl
@[simp] theorem den_chn {o p : Op} {a b c : Ex} : den g (.chn o p a b c) σ h = (den g a σ h).bind fun x h => (den g b σ h).bind fun y h => (bop o x y h).bind fun k h =>
    (match k with
    | .bl true => (den g c σ h).bind fun z h => bop p y z h
    | .bl false => .ok (.bl false) h
    | _ => .bad) := by rw [den] <;> rfl
@[simp] theorem den_ite {c a b : Ex} : den g (.ite c a b) σ h = (den g c σ h).bind fun x h => (truB x h).bind fun t h => if t then den g a σ h else den g b σ h := by rw [den] <;> rfl
@[simp] theorem den_lst {es : Exs} : den g (.lst es) σ h = (dens g es σ h).bind fun vs h => if vs.length ≤ SL then new (.lst vs) h else .bad := by rw [den] <;> rfl
@[simp] theorem den_tup {es : Exs} : den g (.tup es) σ h = (dens g es σ h).bind fun vs h => if vs.length ≤ SL then new (.tup vs) h else .bad := by rw [den] <;> rfl
@[simp] theorem den_dnew : den g .dnew σ h = new (.dic []) h := by rw [den] <;> rfl
@[simp] theorem den_dic {es : Exs} : den g (.dic es) σ h = (dens g es σ h).bind fun vs h => (match kvsO vs with
    | some kvs => if kvs.length ≤ 15 then new (.dic (kvs.foldl (fun acc kv => putK acc kv.1 kv.2) [])) h else .bad
    | none => .bad) := by rw [den] <;> rfl
@[simp] theorem den_idx {a i : Ex} : den g (.idx a i) σ h = (den g a σ h).bind fun x h => (den g i σ h).bind fun y h => idxV g x y h := by rw [den] <;> rfl
@[simp] theorem den_slc {a : Ex} {lo hi : Exo} : den g (.slc a lo hi) σ h = (den g a σ h).bind fun x h => (deno g lo σ h).bind fun l h => (deno g hi σ h).bind fun u h => slcV x l u h := by rw [den] <;> rfl
@[simp] theorem den_rev {a : Ex} : den g (.rev a) σ h = (den g a σ h).bind fun x h => revV x h := by rw [den] <;> rfl
@[simp] theorem den_cal {f : Nat} {es : Exs} : den g (.cal f es) σ h = (dens g es σ h).bind fun vs h => g.call f vs h := by rw [den] <;> rfl
@[simp] theorem den_pri {p : Pr} {es : Exs} : den g (.pri p es) σ h = (dens g es σ h).bind fun vs h => Mi.pri g p vs h := by rw [den] <;> rfl
@[simp] theorem den_met {m : Me} {o : Ex} {es : Exs} : den g (.met m o es) σ h = (den g o σ h).bind fun x h => if rcv m x h then (dens g es σ h).bind fun vs h => Mi.met m x vs h else .bad := by rw [den] <;> rfl
@[simp] theorem den_lc {e : Ex} {t : Tg} {s : Src} {es : Exs} {own : List Nat} {c : Exo} : den g (.lc e t s es own c) σ h = ((dens g es σ h).bind fun vs h => srcR s vs h).bind fun w h => (lcF w t (denc g c) (den g e) (wipe σ own) w.items [] h).bind fun vs h => new (.lst vs) h := by rw [den] <;> rfl
@[simp] theorem dens_nil : dens g .nil σ h = .ok [] h := by rw [dens] <;> rfl
@[simp] theorem dens_cons {e : Ex} {es : Exs} : dens g (.cons e es) σ h = (den g e σ h).bind fun v h => (dens g es σ h).bind fun vs h => .ok (v :: vs) h := by rw [dens] <;> rfl
@[simp] theorem deno_none : deno g .none σ h = .ok none h := by rw [deno] <;> rfl
@[simp] theorem deno_some {e : Ex} : deno g (.some e) σ h = (den g e σ h).bind intO := by rw [deno] <;> rfl
@[simp] theorem denc_none : denc g .none σ h = .ok true h := by rw [denc] <;> rfl
@[simp] theorem denc_some {e : Ex} : denc g (.some e) σ h = (den g e σ h).bind truB := by rw [denc] <;> rfl
@[simp] theorem denT_eq {e : Ex} : denT g e σ h = (den g e σ h).bind truB := nrfl rfl
@[simp] theorem exe_pass : exe g .pass σ h = .ok (.nx σ) h := by rw [exe] <;> rfl
@[simp] theorem exe_nvr : exe g .nvr σ h = .bad := by rw [exe] <;> rfl
@[simp] theorem exe_exp {e : Ex} : exe g (.exp e) σ h = (den g e σ h).sb σ fun _ h => .ok (.nx σ) h := by rw [exe] <;> rfl
@[simp] theorem exe_ret {e : Ex} : exe g (.ret e) σ h = (den g e σ h).sb σ fun v h => .ok (.rt v) h := by rw [exe] <;> rfl
@[simp] theorem exe_asg {t : Tg} {e : Ex} : exe g (.asg t e) σ h = (den g e σ h).sb σ fun v h => setT t v σ h := by rw [exe] <;> rfl
@[simp] theorem exe_par {is : List Nat} {es : Exs} : exe g (.par is es) σ h = (dens g es σ h).sb σ fun vs h => setP is vs σ h := by rw [exe] <;> rfl
@[simp] theorem exe_sti {o i e : Ex} : exe g (.sti o i e) σ h = (den g e σ h).sb σ fun v h => (den g o σ h).sb σ fun x h => (den g i σ h).sb σ fun y h => (setV x y v h).sb σ fun _ h => .ok (.nx σ) h := by rw [exe] <;> rfl
@[simp] theorem exe_sw2 {o i p j e : Ex} : exe g (.sw2 o i p j e) σ h = (den g e σ h).sb σ fun v h => (twoV v h).sb σ fun xy h => (den g o σ h).sb σ fun x h => (den g i σ h).sb σ fun y h => (setV x y xy.1 h).sb σ fun _ h =>
    (den g p σ h).sb σ fun x h => (den g j σ h).sb σ fun y h => (setV x y xy.2 h).sb σ fun _ h => .ok (.nx σ) h := by rw [exe] <;> rfl
@[simp] theorem exe_aug {o : Op} {i : Nat} {e : Ex} : exe g (.aug o i e) σ h = (den g (.var i) σ h).sb σ fun x h => (den g e σ h).sb σ fun y h => (aop o x y h).sb σ fun v h => .ok (.nx (σ.set i (some v))) h := by rw [exe] <;> rfl
@[simp] theorem exe_ite {c : Ex} {a b : Sts} : exe g (.ite c a b) σ h = (denT g c σ h).sb σ fun t h => if t then exes g a σ h else exes g b σ h := by rw [exe] <;> rfl
@[simp] theorem exe_whl {c : Ex} {b : Sts} : exe g (.whl c b) σ h = loopW (denT g c) (exes g b) turns σ h := by rw [exe] <;> rfl
@[simp] theorem exe_frr {t : Tg} {s : Src} {es : Exs} {b : Sts} : exe g (.frr t s es b) σ h = ((dens g es σ h).bind fun vs h => srcR s vs h).sb σ fun w h => loopF w t (exes g b) w.items σ h := by rw [exe] <;> rfl
@[simp] theorem den_efl {i : Nat} {f : Str} : den g (.efl i f) σ h = (match σ[i]? with | some none => (match g.ex with | some fs => (match fs.lookup f with | some v => .ok v h | none => .bad) | none => .bad) | _ => .bad) := by rw [den] <;> rfl
@[simp] theorem den_inr {neg : Bool} {a : Ex} {es : Exs} : den g (.inr neg a es) σ h = (den g a σ h).bind fun x h => (dens g es σ h).bind fun vs h => inrV neg x vs h := by rw [den] <;> rfl
@[simp] theorem inrV_1 {neg : Bool} {i j : Int} : inrV neg (.int i) [.int j] h = .ok (.bl (xor neg (decide (0 ≤ i ∧ i < j)))) h := nrfl rfl
@[simp] theorem inrV_2 {neg : Bool} {i l j : Int} : inrV neg (.int i) [.int l, .int j] h = .ok (.bl (xor neg (decide (l ≤ i ∧ i < j)))) h := nrfl rfl
@[simp] theorem exe_rse {c : Nat} {fs : List Str} {es : Exs} : exe g (.rse c fs es) σ h = (dens g es σ h).sb σ fun vs h => if vs.length = fs.length then .ok (.ex c (fs.zip vs).reverse σ) h else .bad := by rw [exe] <;> rfl
@[simp] theorem exe_tri {b : Sts} {hs : Hds} : exe g (.tri b hs) σ h = (exes g b σ h).bind fun f h => f.tri h (fun c fs σ h => hands g hs c fs σ h) := by
  rw [exe]
  all_goals first | rfl | (congr 1; funext f h; cases f <;> rfl)
@[simp] theorem hands_nil {c : Nat} {fs : List (Str × Val)} : hands g .nil c fs σ h = .ok (.ex c fs σ) h := by rw [hands] <;> rfl
@[simp] theorem hands_cons {c : Nat} {fs : List (Str × Val)} {ids : List Nat} {sl : Option Nat} {b : Sts} {r : Hds} : hands g (.cons ids sl b r) c fs σ h = if c ∈ ids then (exes { g with ex := some fs } b (goneS sl σ) h).bind fun f h => unx sl f h else hands g r c fs σ h := by rw [hands] <;> rfl
@[simp] theorem goneS_none : goneS none σ = σ := nrfl rfl
@[simp] theorem goneS_some {i : Nat} : goneS (some i) σ = σ.set i none := nrfl rfl
@[simp] theorem unx_nx {sl : Option Nat} : unx sl (.nx σ) h = .ok (.nx (goneS sl σ)) h := nrfl rfl
@[simp] theorem unx_rt {sl : Option Nat} {v : Val} : unx sl (.rt v) h = .ok (.rt v) h := nrfl rfl
@[simp] theorem unx_ex {sl : Option Nat} {c : Nat} {fs : List (Str × Val)} : unx sl (.ex c fs σ) h = .bad := nrfl rfl
@[simp] theorem exes_nil : exes g .nil σ h = .ok (.nx σ) h := by rw [exes] <;> rfl
@[simp] theorem exes_cons {s : St} {ss : Sts} : exes g (.cons s ss) σ h = (exe g s σ h).bind fun f h => f.go h (exes g ss) := by rw [exes] <;> rfl
end
section
variable {g : G} {h : Heap}
/-- str(i) -/
def istr (i : Int) : Str := Str.ofString (toString i)
@[simp] theorem tgV_nm {i : Nat} {v : Val} {σ : Sl} : tgV (.nm i) v σ h = some (σ.set i (some v)) := nrfl rfl
@[simp] theorem wipe_nil {σ : Sl} : wipe σ [] = σ := nrfl rfl
@[simp] theorem wipe_cons {σ : Sl} {i : Nat} {is : List Nat} : wipe σ (i :: is) = (wipe σ is).set i none := nrfl rfl
@[simp] theorem bop_in1 {c : Nat} {z : Str} : bop .in_ (.str ⟨#[c]⟩) (.str z) h = .ok (.bl (decide (c ∈ z.cps.toList))) h := nrfl rfl
@[simp] theorem bop_notin1 {c : Nat} {z : Str} : bop .notin (.str ⟨#[c]⟩) (.str z) h = .ok (.bl (!decide (c ∈ z.cps.toList))) h := nrfl rfl
@[simp] theorem rcv_join {a : Str} : rcv .join (.str a) h = true := nrfl rfl
@[simp] theorem rcv_split {a : Str} : rcv .split (.str a) h = true := nrfl rfl
@[simp] theorem rcv_sindex {a : Str} : rcv .sindex (.str a) h = true := nrfl rfl
@[simp] theorem slc_str {z : Str} {lo hi : Option Int} : slcV (.str z) lo hi h = if z.length ≤ SL then .ok (.str (L2.cutS z lo hi)) h else .bad := nrfl rfl
@[simp] theorem pri_len_str {z : Str} : Mi.pri g .len [.str z] h = if z.length ≤ SL then .ok (.int z.length) h else .bad := by
  unfold pri lenV
  by_cases c : z.length ≤ SL
  · simp only [if_pos c]
  · simp only [if_neg c]
@[simp] theorem is_a_str {x : Str} {t : String} : Mi.pri g .isinst [.str x, .ty t] h = if okTy t = true then .ok (.bl (isTy "str" t)) h else .bad := nrfl rfl
@[simp] theorem is_a_int {x : Int} {t : String} : Mi.pri g .isinst [.int x, .ty t] h = if okTy t = true then .ok (.bl (isTy "int" t)) h else .bad := nrfl rfl
@[simp] theorem is_a_bl {x : Bool} {t : String} : Mi.pri g .isinst [.bl x, .ty t] h = if okTy t = true then .ok (.bl (isTy "bool" t)) h else .bad := nrfl rfl
@[simp] theorem is_a_non {t : String} : Mi.pri g .isinst [.non, .ty t] h = if okTy t = true then .ok (.bl (isTy "NoneType" t)) h else .bad := nrfl rfl
theorem is_a_lst {p : Nat} {xs : List Val} (e : h[p]? = some (.lst xs)) {t : String} : Mi.pri g .isinst [.ref p, .ty t] h = if okTy t = true then .ok (.bl (isTy "list" t)) h else .bad := by simp [Mi.pri, tyO, e]
theorem is_a_tup {p : Nat} {xs : List Val} (e : h[p]? = some (.tup xs)) {t : String} : Mi.pri g .isinst [.ref p, .ty t] h = if okTy t = true then .ok (.bl (isTy "tuple" t)) h else .bad := by simp [Mi.pri, tyO, e]
theorem is_a_dic {p : Nat} {xs : List (Key × Val)} (e : h[p]? = some (.dic xs)) {t : String} : Mi.pri g .isinst [.ref p, .ty t] h = if okTy t = true then .ok (.bl (isTy "dict" t)) h else .bad := by simp [Mi.pri, tyO, e]
theorem len_lst {p : Nat} {xs : List Val} (e : h[p]? = some (.lst xs)) : Mi.pri g .len [.ref p] h = .ok (.int xs.length) h := by simp [Mi.pri, lenV, e]
theorem len_tup {p : Nat} {xs : List Val} (e : h[p]? = some (.tup xs)) : Mi.pri g .len [.ref p] h = .ok (.int xs.length) h := by simp [Mi.pri, lenV, e]
@[simp] theorem pri_str_int {i : Int} : Mi.pri g .str [.int i] h = if i.natAbs.log2 < 1920 then .ok (.str (istr i)) h else .bad := nrfl rfl
@[simp] theorem pri_str_str {x : Str} : Mi.pri g .str [.str x] h = .ok (.str x) h := nrfl rfl
@[simp] theorem pri_int_int {i : Int} : Mi.pri g .int [.int i] h = .ok (.int i) h := nrfl rfl
@[simp] theorem pri_int_bl {b : Bool} : Mi.pri g .int [.bl b] h = .ok (.int (if b then 1 else 0)) h := nrfl rfl
theorem pri_int_str {x : Str} {n : Int} (e : PySem.intText? x = some n) (hl : x.length ≤ 640) : Mi.pri g .int [.str x] h = .ok (.int n) h := by
  unfold Mi.pri
  simp [e, hl]
theorem log2_small {i : Int} (h : i.natAbs < 10 ^ 500) : i.natAbs.log2 < 1920 := by
  by_cases z : i.natAbs = 0
  · rw [z]; decide
  · rw [Nat.log2_lt z]
    exact Nat.lt_of_lt_of_le h (by decide +kernel)
@[simp] theorem setT_nm {i : Nat} {v : Val} {σ : Sl} : setT (.nm i) v σ h = .ok (.nx (σ.set i (some v))) h := nrfl rfl
@[simp] theorem truB_bl {b : Bool} : truB (.bl b) h = .ok b h := nrfl rfl
@[simp] theorem truB_int {i : Int} : truB (.int i) h = .ok (i != 0) h := nrfl rfl
@[simp] theorem truB_non : truB .non h = .ok false h := nrfl rfl
@[simp] theorem intO_int {i : Int} : intO (.int i) h = .ok (some i) h := nrfl rfl
@[simp] theorem bop_add {i j : Int} : bop .add (.int i) (.int j) h = .ok (.int (i + j)) h := nrfl rfl
@[simp] theorem bop_adds {a b : Str} : bop .add (.str a) (.str b) h = if a.length + b.length ≤ SL then .ok (.str (a ++ b)) h else .bad := nrfl rfl
@[simp] theorem bop_sub {i j : Int} : bop .sub (.int i) (.int j) h = .ok (.int (i - j)) h := nrfl rfl
@[simp] theorem bop_mul {i j : Int} : bop .mul (.int i) (.int j) h = if (-18446744073709551616 < i ∧ i < 18446744073709551616) ∨ (-18446744073709551616 < j ∧ j < 18446744073709551616) then .ok (.int (i * j)) h else .bad := nrfl rfl
@[simp] theorem bop_fdiv {i j : Int} : bop .fdiv (.int i) (.int j) h = if 0 < j ∧ j < 1073741824 then .ok (.int (i / j)) h else .bad := nrfl rfl
@[simp] theorem bop_mod {i j : Int} : bop .mod (.int i) (.int j) h = if 0 < j then .ok (.int (i % j)) h else .bad := nrfl rfl
@[simp] theorem bop_pow {i j : Int} : bop .pow (.int i) (.int j) h = if 0 ≤ j ∧ j ≤ 1000000 ∧ i.natAbs < 18446744073709551616 then .ok (.int (i ^ j.toNat)) h else .bad := nrfl rfl
@[simp] theorem bop_eq {i j : Int} : bop .eq (.int i) (.int j) h = .ok (.bl (decide (i = j))) h := nrfl rfl
@[simp] theorem bop_eqs {i j : Str} : bop .eq (.str i) (.str j) h = .ok (.bl (decide (i = j))) h := nrfl rfl
@[simp] theorem bop_eqb {i j : Bool} : bop .eq (.bl i) (.bl j) h = .ok (.bl (decide (i = j))) h := nrfl rfl
@[simp] theorem bop_ne {i j : Int} : bop .ne (.int i) (.int j) h = .ok (.bl (!decide (i = j))) h := nrfl rfl
@[simp] theorem bop_nes {i j : Str} : bop .ne (.str i) (.str j) h = .ok (.bl (!decide (i = j))) h := nrfl rfl
@[simp] theorem bop_neb {i j : Bool} : bop .ne (.bl i) (.bl j) h = .ok (.bl (!decide (i = j))) h := nrfl rfl
@[simp] theorem bop_lt {i j : Int} : bop .lt (.int i) (.int j) h = .ok (.bl (decide (i < j))) h := nrfl rfl
@[simp] theorem bop_le {i j : Int} : bop .le (.int i) (.int j) h = .ok (.bl (decide (i ≤ j))) h := nrfl rfl
@[simp] theorem bop_gt {i j : Int} : bop .gt (.int i) (.int j) h = .ok (.bl (decide (j < i))) h := nrfl rfl
@[simp] theorem bop_ge {i j : Int} : bop .ge (.int i) (.int j) h = .ok (.bl (decide (j ≤ i))) h := nrfl rfl
@[simp] theorem bop_is_non {x : Val} : bop .is x .non h = .ok (.bl (decide (x = .non))) h := nrfl rfl
@[simp] theorem bop_isnot_non {x : Val} : bop .isnot x .non h = .ok (.bl (!decide (x = .non))) h := nrfl rfl
@[simp] theorem aop_add {i j : Int} : aop .add (.int i) (.int j) h = .ok (.int (i + j)) h := nrfl rfl
@[simp] theorem aop_sub {i j : Int} : aop .sub (.int i) (.int j) h = .ok (.int (i - j)) h := nrfl rfl
@[simp] theorem aop_adds {a b : Str} : aop .add (.str a) (.str b) h = if a.length + b.length ≤ SL then .ok (.str (a ++ b)) h else .bad := nrfl rfl
@[simp] theorem pri_max {i j : Int} : Mi.pri g .max [.int i, .int j] h = .ok (.int (max i j)) h := by
  show Res.ok (Val.int (if j > i then j else i)) h = _
  congr 2
  split <;> omega
@[simp] theorem pri_min {i j : Int} : Mi.pri g .min [.int i, .int j] h = .ok (.int (min i j)) h := by
  show Res.ok (Val.int (if j < i then j else i)) h = _
  congr 2
  split <;> omega
@[simp] theorem pri_len_scr : Mi.pri g .len [.scr] h = .ok (.int g.scr.length) h := nrfl rfl
end

/-! ## heaps that grow; n of them is written -/
structure Fr (h h' : Heap) : Prop where
  len : h.length ≤ h'.length
  get : ∀ m : Nat, m < h.length → h'[m]? = h[m]?
structure Fx1 (n : Nat) (h h' : Heap) : Prop where
  len : h.length ≤ h'.length
  get : ∀ m : Nat, m < h.length → m ≠ n → h'[m]? = h[m]?
theorem Fr.refl (h : Heap) : Fr h h := ⟨Nat.le_refl _, fun _ _ => rfl⟩
theorem Fr.trans {h h' h'' : Heap} (a : Fr h h') (b : Fr h' h'') : Fr h h'' := ⟨Nat.le_trans a.len b.len, fun m hm => (b.get m (Nat.lt_of_lt_of_le hm a.len)).trans (a.get m hm)⟩
theorem Fr.one {h h' : Heap} (a : Fr h h') (n : Nat) : Fx1 n h h' := ⟨a.len, fun m hm _ => a.get m hm⟩
theorem Fx1.refl (n : Nat) (h : Heap) : Fx1 n h h := (Fr.refl h).one n
theorem Fx1.trans {n : Nat} {h h' h'' : Heap} (a : Fx1 n h h') (b : Fx1 n h' h'') : Fx1 n h h'' := ⟨Nat.le_trans a.len b.len, fun m hm z => (b.get m (Nat.lt_of_lt_of_le hm a.len) z).trans (a.get m hm z)⟩
/-- n was not yet there -/
theorem Fx1.fresh {n : Nat} {h h' : Heap} (a : Fx1 n h h') (hn : h.length ≤ n) : Fr h h' := ⟨a.len, fun m hm => a.get m hm (by omega)⟩
theorem lt_of_get {h : Heap} {n : Nat} {o : Ob} (e : h[n]? = some o) : n < h.length := by
  rcases Nat.lt_or_ge n h.length with z | z
  · exact z
  · rw [List.getElem?_eq_none z] at e; cases e
theorem Fr.at {h h' : Heap} (a : Fr h h') {n : Nat} {o : Ob} (e : h[n]? = some o) : h'[n]? = some o := (a.get n (lt_of_get e)).trans e
theorem Fx1.at {m : Nat} {h h' : Heap} (a : Fx1 m h h') {n : Nat} {o : Ob} (e : h[n]? = some o) (hn : n ≠ m) : h'[n]? = some o := (a.get n (lt_of_get e) hn).trans e
theorem Fr.push (h : Heap) (o : Ob) : Fr h (h ++ [o]) := ⟨by simp, fun m hm => List.getElem?_append_left hm⟩
theorem Fx1.put (h : Heap) (n : Nat) (o : Ob) : Fx1 n h (h.set n o) := ⟨by simp, fun m hm z => by simp [List.getElem?_set, Ne.symm z]⟩
/-- a new object: the heap after it is left open -/
theorem sat_new {o : Ob} {h : Heap} {Q : RQ Val} {E : RE} (hq : ∀ (n : Nat) (h' : Heap), h'[n]? = some o → n = h.length → h'.length = h.length + 1 → Fr h h' → Q (.ref n) h') : (new o h).sat Q E :=
  hq h.length (h ++ [o]) (by simp) rfl (by simp) (Fr.push h o)
theorem sat_set {h : Heap} {n j : Nat} {xs : List Val} {k : Int} {v : Val} {Q : RQ Unit} {E : RE} (hn : h[n]? = some (.lst xs)) (hj : L2.ixN xs.length k = some j)
    (hp : ∀ h', h'[n]? = some (.lst (xs.set j v)) → h'.length = h.length → Fx1 n h h' → Q () h') : (setV (.ref n) (.int k) v h).sat Q E := by
  unfold setV
  dsimp only
  rw [hn]
  dsimp only
  rw [hj]
  exact hp _ (by simp [lt_of_get hn]) (by simp) (Fx1.put h n _)
theorem sat_setD {h : Heap} {n : Nat} {xs : List (Key × Val)} {i v : Val} {k : Key} {Q : RQ Unit} {E : RE} (hn : h[n]? = some (.dic xs)) (hj : keyV i = some k) (hl : xs.length < SL)
    (hp : ∀ h', h'[n]? = some (.dic (putK xs k v)) → h'.length = h.length → Fx1 n h h' → Q () h') : (setV (.ref n) i v h).sat Q E := by
  unfold setV
  dsimp only
  rw [hn]
  dsimp only
  rw [hj]
  dsimp only
  rw [if_pos hl]
  exact hp _ (by simp [lt_of_get hn]) (by simp) (Fx1.put h n _)
theorem sat_app {h : Heap} {n : Nat} {xs : List Val} {v : Val} {Q : RQ Val} {E : RE} (hn : h[n]? = some (.lst xs)) (hl : xs.length < SL)
    (hp : ∀ h', h'[n]? = some (.lst (xs ++ [v])) → h'.length = h.length → Fx1 n h h' → Q .non h') : (met .append (.ref n) [v] h).sat Q E := by
  unfold met
  dsimp only
  rw [hn]
  dsimp only
  rw [if_pos hl]
  exact hp _ (by simp [lt_of_get hn]) (by simp) (Fx1.put h n _)
theorem sat_clear {h : Heap} {n : Nat} {xs : List Val} {Q : RQ Val} {E : RE} (hn : h[n]? = some (.lst xs))
    (hp : ∀ h', h'[n]? = some (.lst []) → h'.length = h.length → Fx1 n h h' → Q .non h') : (met .clear (.ref n) [] h).sat Q E := by
  unfold met
  dsimp only
  rw [hn]
  exact hp _ (by simp [lt_of_get hn]) (by simp) (Fx1.put h n _)
theorem rc_clear {h : Heap} {n : Nat} {xs : List Val} (e : h[n]? = some (.lst xs)) : rcv .clear (.ref n) h = true := by
  unfold rcv lstO
  simp [e]
theorem rc_pop {h : Heap} {n : Nat} {xs : List Val} (e : h[n]? = some (.lst xs)) : rcv .pop (.ref n) h = true := by
  unfold rcv lstO
  simp [e]
def lstAt (xs : List Val) (i : Int) (h : Heap) : Res Val := match L2.atI xs i with | some v => .ok v h | none => .bad
theorem ix_lst {h : Heap} {n : Nat} {xs : List Val} (e : h[n]? = some (.lst xs)) (g : G) (i : Int) : idxV g (.ref n) (.int i) h = lstAt xs i h := by
  unfold idxV
  dsimp only
  rw [e]
  rfl
theorem ix_tup {h : Heap} {n : Nat} {xs : List Val} (e : h[n]? = some (.tup xs)) (g : G) (i : Int) : idxV g (.ref n) (.int i) h = lstAt xs i h := by
  unfold idxV
  dsimp only
  rw [e]
  rfl
theorem rc_app {h : Heap} {n : Nat} {xs : List Val} (e : h[n]? = some (.lst xs)) : rcv .append (.ref n) h = true := by
  unfold rcv lstO
  simp [e]

/-! ## loops -/
theorem loopF_inv {w : Walk} {t : Tg} {b : Sl → Heap → Res Fl} {Q : RQ Fl} {E : RE} (I : List It → Sl → Heap → Prop)
    (hw : ∀ r σ h, I r σ h → w.ok h = true)
    (step : ∀ i r σ h, I (i :: r) σ h → ∃ σ', tgV t (yieldI i h).1 σ (yieldI i h).2 = some σ' ∧ (b σ' (yieldI i h).2).sat (fun f h' => (match f with | .nx σ'' => I r σ'' h' | .rt v => Q (.rt v) h' | .ex c fs σ => Q (.ex c fs σ) h')) E)
    (done : ∀ σ h, I [] σ h → Q (.nx σ) h) : ∀ (is : List It) (σ : Sl) (h : Heap), I is σ h → (loopF w t b is σ h).sat Q E
  | [], σ, h, i => by
    unfold loopF
    rw [if_pos (hw _ _ _ i)]
    exact done _ _ i
  | x :: is, σ, h, i => by
    unfold loopF
    rw [if_pos (hw _ _ _ i)]
    obtain ⟨σ', e, s⟩ := step _ _ _ _ i
    rw [e]
    dsimp only
    rw [sat_bind]
    refine s.imp (fun f h' z => ?_) fun _ _ _ z => z
    cases f with
    | nx σ'' => exact loopF_inv I hw step done is σ'' h' z
    | rt v => exact z
    | ex c fs σ => exact z
theorem lcF_inv {w : Walk} {t : Tg} {c : Sl → Heap → Res Bool} {e : Sl → Heap → Res Val} {σ : Sl} {Q : RQ (List Val)} {E : RE} (I : List It → List Val → Heap → Prop)
    (hw : ∀ r a h, I r a h → w.ok h = true) (ha : ∀ i r a h, I (i :: r) a h → a.length < SL)
    (step : ∀ i r a h, I (i :: r) a h → ∃ σ', tgV t (yieldI i h).1 σ (yieldI i h).2 = some σ' ∧ (c σ' (yieldI i h).2).sat (fun b h1 => if b then (e σ' h1).sat (fun v h2 => I r (a ++ [v]) h2) nox else I r a h1) nox)
    (done : ∀ a h, I [] a h → Q a h) : ∀ (is : List It) (a : List Val) (h : Heap), I is a h → (lcF w t c e σ is a h).sat Q E
  | [], a, h, i => by
    unfold lcF
    rw [if_pos (hw _ _ _ i)]
    exact done _ _ i
  | x :: is, a, h, i => by
    unfold lcF
    rw [if_pos (hw _ _ _ i)]
    have hl := ha _ _ _ _ i
    obtain ⟨σ', e1, s⟩ := step _ _ _ _ i
    rw [e1]
    dsimp only
    generalize c σ' (yieldI x h).2 = rc at s
    match rc, s with
    | .ok true h1, s =>
      have s : (e σ' h1).sat (fun v h2 => I is (a ++ [v]) h2) nox := s
      dsimp only
      generalize e σ' h1 = re at s
      match re, s with
      | .ok v h2, s => dsimp only; rw [if_pos hl]; exact lcF_inv I hw ha step done is _ h2 s
    | .ok false h1, s => exact lcF_inv I hw ha step done is a h1 s
theorem loopW_inv {c : Sl → Heap → Res Bool} {b : Sl → Heap → Res Fl} {Q : RQ Fl} {E : RE} (I : Nat → Sl → Heap → Prop)
    (step : ∀ n σ h, I n σ h → (c σ h).sat (fun t h1 => if t then ∃ m, n = m + 1 ∧ (b σ h1).sat (fun f h' => (match f with | .nx σ'' => I m σ'' h' | .rt v => Q (.rt v) h' | .ex c fs σ => Q (.ex c fs σ) h')) E else Q (.nx σ) h1) (fun c fs h => Q (.ex c fs σ) h)) :
    ∀ (k n : Nat) (σ : Sl) (h : Heap), n < k → I n σ h → (loopW c b k σ h).sat Q E
  | 0, n, _, _, hk, _ => by omega
  | k + 1, n, σ, h, hk, i => by
    unfold loopW
    rw [sat_sb]
    refine (step _ _ _ i).imp (fun t h1 z => ?_) fun _ _ _ z => z
    cases t with
    | false => exact z
    | true =>
      obtain ⟨m, e, s⟩ := z
      rw [if_pos rfl, sat_bind]
      refine s.imp (fun f h' z => ?_) fun _ _ _ z => z
      cases f with
      | nx σ'' => exact loopW_inv I step k m σ'' h' (by omega) z
      | rt v => exact z
      | ex c fs σ => exact z

/-! ## texts -/
theorem len_tl (x : Str) : x.length = (TL.tl x).length := by simp [Str.length, TL.tl]
theorem len_cat (a b : Str) : (a ++ b).length = a.length + b.length := by rw [len_tl, TL.tl_append, List.length_append, ← len_tl, ← len_tl]
theorem len_cut (z : Str) (lo hi : Option Int) : (L2.cutS z lo hi).length ≤ z.length := by
  rw [len_tl, len_tl]
  show (List.take _ (List.drop _ _)).length ≤ _
  rw [List.length_take, List.length_drop]
  exact Nat.le_trans (Nat.min_le_right _ _) (Nat.sub_le _ _)
theorem joinL_nil : ∀ l : List (List Nat), TL.joinL [] l = l.flatten
  | [] => rfl
  | [p] => by simp [TL.joinL]
  | p :: q :: r => by
    show p ++ ([] ++ TL.joinL [] (q :: r)) = _
    rw [joinL_nil (q :: r)]
    simp
theorem tl_join0 {a : Str} (ha : TL.tl a = []) (ys : List Str) : TL.tl (PySem.Txt.join a ys) = (ys.map TL.tl).flatten := by
  rw [TL.join_eq, TL.tl_join, ha]
  exact joinL_nil _
theorem len_join0 {k : Nat} {a : Str} (ha : TL.tl a = []) : ∀ {ys : List Str}, (∀ y ∈ ys, y.length ≤ k) → (PySem.Txt.join a ys).length ≤ ys.length * k := by
  intro ys
  rw [len_tl, tl_join0 ha]
  induction ys with
  | nil => intro _; simp
  | cons y r ih =>
    intro h
    have h1 := ih fun z hz => h z (List.mem_cons_of_mem _ hz)
    have h2 := h y (List.mem_cons_self ..)
    rw [len_tl] at h2
    simp only [List.map_cons, List.flatten_cons, List.length_append, List.length_cons, Nat.succ_mul]
    omega
/-- its signs are signs -/
def Okt (x : Str) : Prop := ∀ c ∈ TL.tl x, c < 1114112
theorem Okt.cat {x y : Str} (a : Okt x) (b : Okt y) : Okt (x ++ y) := fun c hc => by
  rw [TL.tl_append] at hc
  rcases List.mem_append.mp hc with z | z
  · exact a c z
  · exact b c z
theorem Okt.one {c : Nat} (h : c < 1114112) : Okt ⟨#[c]⟩ := fun d hd => by
  simp [TL.tl] at hd
  subst hd
  exact h
theorem Okt.cut {z : Str} (a : Okt z) {lo hi : Option Int} : Okt (L2.cutS z lo hi) := fun c hc => a c (List.mem_of_mem_drop (List.mem_of_mem_take (show c ∈ List.take _ (List.drop _ z.cps.toList) from hc)))
theorem Okt.join0 {a : Str} (ha : TL.tl a = []) {ys : List Str} (h : ∀ y ∈ ys, Okt y) : Okt (PySem.Txt.join a ys) := fun c hc => by
  rw [tl_join0 ha] at hc
  obtain ⟨l, hl, h2⟩ := List.mem_flatten.mp hc
  obtain ⟨y, hy, rfl⟩ := List.mem_map.mp hl
  exact h y hy c h2
theorem okt_of {x : Str} (h : (x.cps.all fun c => decide (c < 1114112)) = true) : Okt x := fun c hc => by
  rw [← Array.all_toList] at h
  exact of_decide_eq_true (List.all_eq_true.mp h c hc)
@[simp] theorem len_one {c : Nat} : (⟨#[c]⟩ : Str).length = 1 := nrfl rfl
theorem sum_len {k : Nat} : ∀ {ys : List Str}, (∀ y ∈ ys, y.length ≤ k) → (ys.map (·.length)).sum ≤ ys.length * k
  | [], _ => by simp
  | y :: r, h => by
    have h1 := sum_len fun z hz => h z (List.mem_cons_of_mem _ hz)
    have h2 := h y (List.mem_cons_self ..)
    simp only [List.map_cons, List.sum_cons, List.length_cons, Nat.succ_mul]
    omega
theorem strsO_map : ∀ ys : List Str, strsO (ys.map .str) = some ys
  | [] => rfl
  | y :: r => by show (strsO (r.map .str)).map _ = _; rw [strsO_map r]; rfl
theorem blsO_map : ∀ ys : List Bool, blsO (ys.map .bl) = some ys
  | [] => rfl
  | y :: r => by show (blsO (r.map .bl)).map _ = _; rw [blsO_map r]; rfl
theorem intsO_map : ∀ ys : List Int, intsO (ys.map .int) = some ys
  | [] => rfl
  | y :: r => by show (intsO (r.map .int)).map _ = _; rw [intsO_map r]; rfl
@[simp] theorem pri_repr_bl {g : G} {b : Bool} {h : Heap} : Mi.pri g .repr [.bl b] h = .ok (.str (PyData.shown (.bool b))) h := by cases b <;> rfl
theorem pri_all {g : G} {n : Nat} {bs : List Bool} {h : Heap} (e : h[n]? = some (.lst (bs.map .bl))) : Mi.pri g .all [.ref n] h = .ok (.bl (bs.all id)) h := by
  simp [pri, lstO, e, blsO_map]
theorem pri_any {g : G} {n : Nat} {bs : List Bool} {h : Heap} (e : h[n]? = some (.lst (bs.map .bl))) : Mi.pri g .any [.ref n] h = .ok (.bl (bs.any id)) h := by
  simp [pri, lstO, e, blsO_map]
theorem pri_sum {g : G} {n : Nat} {bs : List Int} {h : Heap} (e : h[n]? = some (.lst (bs.map .int))) : Mi.pri g .sum [.ref n] h = .ok (.int bs.sum) h := by
  simp [pri, seqO, e, intsO_map]
theorem met_join {n : Nat} {a : Str} {ys : List Str} {h : Heap} (e : h[n]? = some (.lst (ys.map .str))) (hl : (ys.map (·.length)).sum + ys.length * a.length ≤ SL) : met .join (.str a) [.ref n] h = .ok (.str (PySem.Txt.join a ys)) h := by
  unfold met
  simp only [seqO, e, Option.bind_some, strsO_map]
  rw [if_pos hl]
theorem ok_lst (w : Walk) (h : Heap) {n : Nat} {o : Ob} (hw : w.stands = [(n, o)]) (e : h[n]? = some o) : w.ok h = true := by
  unfold Walk.ok
  rw [hw]
  simp [e]
theorem ok_nil (w : Walk) (h : Heap) (hw : w.stands = []) : w.ok h = true := by
  unfold Walk.ok
  rw [hw]
  rfl

/-- a comprehension that changes nothing -/
theorem lcF_pure {β : Type} {k : β → Val} {w : Walk} {t : Tg} {c : Sl → Heap → Res Bool} {e : Sl → Heap → Res Val} {σ : Sl} {h : Heap} {p : β → Bool} {f : β → Val} (hw : w.ok h = true) :
    ∀ {xs : List β} {acc : List Val}, (∀ x ∈ xs, ∃ σ', tgV t (k x) σ h = some σ' ∧ c σ' h = .ok (p x) h ∧ (p x = true → e σ' h = .ok (f x) h)) → acc.length + xs.length ≤ SL →
      lcF w t c e σ (xs.map fun x => .v (k x)) acc h = .ok (acc ++ (xs.filter p).map f) h
  | [], acc, _, _ => by
    show lcF w t c e σ [] acc h = _
    unfold lcF
    rw [if_pos hw]
    simp
  | x :: xs, acc, hs, hl => by
    show lcF w t c e σ (.v (k x) :: xs.map fun x => .v (k x)) acc h = _
    unfold lcF
    rw [if_pos hw]
    obtain ⟨σ', h1, h2, h3⟩ := hs x (List.mem_cons_self ..)
    have hs' := fun y hy => hs y (List.mem_cons_of_mem _ hy)
    simp only [List.length_cons] at hl
    rw [show (yieldI (.v (k x)) h).1 = k x from rfl, show (yieldI (.v (k x)) h).2 = h from rfl, h1]
    dsimp only
    rw [h2]
    cases hp : p x with
    | false =>
      dsimp only
      rw [lcF_pure hw hs' (by omega), List.filter_cons_of_neg (by simp [hp])]
    | true =>
      dsimp only
      rw [h3 hp]
      dsimp only
      rw [if_pos (by omega), lcF_pure hw hs' (by simp only [List.length_append, List.length_singleton]; omega), List.filter_cons_of_pos hp]
      simp
theorem lcF_map {β : Type} {k : β → Val} {w : Walk} {t : Tg} {c : Sl → Heap → Res Bool} {e : Sl → Heap → Res Val} {σ : Sl} {h : Heap} {f : β → Val} (hw : w.ok h = true)
    {xs : List β} {acc : List Val} (hs : ∀ x ∈ xs, ∃ σ', tgV t (k x) σ h = some σ' ∧ c σ' h = .ok true h ∧ e σ' h = .ok (f x) h) (hl : acc.length + xs.length ≤ SL) :
      lcF w t c e σ (xs.map fun x => .v (k x)) acc h = .ok (acc ++ xs.map f) h := by
  rw [lcF_pure (p := fun _ => true) hw (fun x hx => by obtain ⟨σ', h1, h2, h3⟩ := hs x hx; exact ⟨σ', h1, h2, fun _ => h3⟩) hl, List.filter_eq_self.mpr fun _ _ => rfl]
theorem filt_all {β : Type} (q : β → Bool) : ∀ l : List β, (l.filter fun c => !q c).isEmpty = l.all q
  | [] => rfl
  | x :: r => by
    cases hq : q x <;> simp [hq, filt_all q r]
@[simp] theorem sat_rng1 {j : Int} {h : Heap} {Q : RQ Walk} {E : RE} : (srcR .rng1 [.int j] h).sat Q E = ((-4611686018427387904 ≤ j ∧ j < 4611686018427387904) ∧ Q ⟨intItems 0 j.toNat, []⟩ h) := by
  unfold srcR srcV
  by_cases c : -4611686018427387904 ≤ j ∧ j < 4611686018427387904
  · simp only [show (-(2 ^ 62) ≤ j ∧ j < 2 ^ 62) = (-4611686018427387904 ≤ j ∧ j < 4611686018427387904) from rfl, if_pos c, c, true_and, sat_ok, and_self, if_true]
  · simp only [show (-(2 ^ 62) ≤ j ∧ j < 2 ^ 62) = (-4611686018427387904 ≤ j ∧ j < 4611686018427387904) from rfl, if_neg c, c, false_and, sat_bad, if_false]
@[simp] theorem sat_rng2 {i j : Int} {h : Heap} {Q : RQ Walk} {E : RE} : (srcR .rng2 [.int i, .int j] h).sat Q E = ((-4611686018427387904 ≤ i ∧ i < 4611686018427387904 ∧ -4611686018427387904 ≤ j ∧ j < 4611686018427387904) ∧ Q ⟨intItems i (j - i).toNat, []⟩ h) := by
  unfold srcR srcV
  by_cases c : -4611686018427387904 ≤ i ∧ i < 4611686018427387904 ∧ -4611686018427387904 ≤ j ∧ j < 4611686018427387904
  · simp only [show (-(2 ^ 62) ≤ i ∧ i < 2 ^ 62 ∧ -(2 ^ 62) ≤ j ∧ j < 2 ^ 62) = (-4611686018427387904 ≤ i ∧ i < 4611686018427387904 ∧ -4611686018427387904 ≤ j ∧ j < 4611686018427387904) from rfl, if_pos c, c, true_and, sat_ok, and_self, if_true]
  · simp only [show (-(2 ^ 62) ≤ i ∧ i < 2 ^ 62 ∧ -(2 ^ 62) ≤ j ∧ j < 2 ^ 62) = (-4611686018427387904 ≤ i ∧ i < 4611686018427387904 ∧ -4611686018427387904 ≤ j ∧ j < 4611686018427387904) from rfl, if_neg c, c, false_and, sat_bad, if_false]
theorem srcR_lst {n : Nat} {xs : List Val} {h : Heap} (e : h[n]? = some (.lst xs)) : srcR .val [.ref n] h = .ok ⟨xs.map .v, [(n, .lst xs)]⟩ h := by
  unfold srcR srcV walkV
  simp [e]
theorem srcR_tup {n : Nat} {xs : List Val} {h : Heap} (e : h[n]? = some (.tup xs)) : srcR .val [.ref n] h = .ok ⟨xs.map .v, [(n, .tup xs)]⟩ h := by
  unfold srcR srcV walkV
  simp [e]
@[simp] theorem srcR_str {z : Str} {h : Heap} : srcR .val [.str z] h = .ok ⟨z.cps.toList.map fun c => .v (.str ⟨#[c]⟩), []⟩ h := nrfl rfl
@[simp] theorem yield_v {x : Val} {h : Heap} : yieldI (.v x) h = (x, h) := nrfl rfl
@[simp] theorem yield_pr {x y : Val} {h : Heap} : yieldI (.pr x y) h = (.ref h.length, h ++ [.tup [x, y]]) := nrfl rfl
/-- a loop over numbers -/
theorem loopF_rng {w : Walk} {t : Tg} {b : Sl → Heap → Res Fl} {Q : RQ Fl} {E : RE} {lo : Int} {N : Nat} (I : Nat → Sl → Heap → Prop) (hw : w.stands = [])
    (step : ∀ k σ h, k < N → I k σ h → ∃ σ', tgV t (.int (lo + k)) σ h = some σ' ∧ (b σ' h).sat (fun f h' => (match f with | .nx σ'' => I (k + 1) σ'' h' | .rt v => Q (.rt v) h' | .ex c fs σ => Q (.ex c fs σ) h')) E)
    (done : ∀ σ h, I N σ h → Q (.nx σ) h) {σ : Sl} {h : Heap} (start : I 0 σ h) : (loopF w t b (intItems lo N) σ h).sat Q E := by
  refine loopF_inv (fun r σ h => ∃ k, k ≤ N ∧ r = intItems (lo + k) (N - k) ∧ I k σ h) (fun _ _ h _ => ok_nil w h hw) ?_ ?_ _ _ _ ⟨0, by omega, by simp, start⟩
  · rintro i r σ h ⟨k, hk, er, hi⟩
    obtain ⟨m, hm⟩ | hm : (∃ m, N - k = m + 1) ∨ N - k = 0 := by
      rcases Nat.eq_zero_or_pos (N - k) with z | z
      · exact .inr z
      · exact .inl ⟨N - k - 1, by omega⟩
    · rw [hm] at er
      unfold intItems at er
      cases er
      obtain ⟨σ', h1, h2⟩ := step k σ h (by omega) hi
      refine ⟨σ', h1, h2.imp (fun f h' z => ?_) fun _ _ _ z => z⟩
      cases f with
      | nx σ'' => exact ⟨k + 1, by omega, by rw [show N - (k + 1) = m by omega]; congr 1; omega, z⟩
      | rt v => exact z
      | ex c fs σ => exact z
    · rw [hm] at er
      unfold intItems at er
      cases er
  · rintro σ h ⟨k, hk, er, hi⟩
    obtain rfl : k = N := by
      rcases Nat.eq_zero_or_pos (N - k) with z | z
      · omega
      · rw [show N - k = (N - k - 1) + 1 by omega] at er
        unfold intItems at er
        cases er
    exact done σ h hi
theorem lcF_rng {w : Walk} {t : Tg} {c : Sl → Heap → Res Bool} {e : Sl → Heap → Res Val} {σ : Sl} {Q : RQ (List Val)} {E : RE} {lo : Int} {N : Nat} (I : Nat → List Val → Heap → Prop) (hw : w.stands = [])
    (ha : ∀ k a h, k < N → I k a h → a.length < SL)
    (step : ∀ k a h, k < N → I k a h → ∃ σ', tgV t (.int (lo + k)) σ h = some σ' ∧ (c σ' h).sat (fun b h1 => if b then (e σ' h1).sat (fun v h2 => I (k + 1) (a ++ [v]) h2) nox else I (k + 1) a h1) nox)
    (done : ∀ a h, I N a h → Q a h) {h : Heap} (start : I 0 [] h) : (lcF w t c e σ (intItems lo N) [] h).sat Q E := by
  refine lcF_inv (fun r a h => ∃ k, k ≤ N ∧ r = intItems (lo + k) (N - k) ∧ I k a h) (fun _ _ h _ => ok_nil w h hw) ?_ ?_ ?_ _ _ _ ⟨0, by omega, by simp, start⟩
  · rintro i r a h ⟨k, hk, er, hi⟩
    refine ha k a h ?_ hi
    rcases Nat.lt_or_ge k N with z | z
    · exact z
    · rw [show N - k = 0 by omega] at er
      unfold intItems at er
      cases er
  · rintro i r a h ⟨k, hk, er, hi⟩
    obtain ⟨m, hm⟩ | hm : (∃ m, N - k = m + 1) ∨ N - k = 0 := by
      rcases Nat.eq_zero_or_pos (N - k) with z | z
      · exact .inr z
      · exact .inl ⟨N - k - 1, by omega⟩
    · rw [hm] at er
      unfold intItems at er
      cases er
      obtain ⟨σ', h1, h2⟩ := step k a h (by omega) hi
      have nx : ∀ a h, I (k + 1) a h → ∃ k', k' ≤ N ∧ intItems (lo + k + 1) m = intItems (lo + k') (N - k') ∧ I k' a h := fun a h z => ⟨k + 1, by omega, by rw [show N - (k + 1) = m by omega]; congr 1; omega, z⟩
      refine ⟨σ', h1, h2.imp (fun b h' z => ?_) fun _ _ _ z => z⟩
      cases b with
      | false => exact nx _ _ z
      | true => exact Res.sat.imp z (fun v h2 y => nx _ _ y) fun _ _ _ z => z
    · rw [hm] at er
      unfold intItems at er
      cases er
  · rintro a h ⟨k, hk, er, hi⟩
    obtain rfl : k = N := by
      rcases Nat.eq_zero_or_pos (N - k) with z | z
      · omega
      · rw [show N - k = (N - k - 1) + 1 by omega] at er
        unfold intItems at er
        cases er
    exact done a h hi
/-- a loop over values, each made of something -/
theorem loopF_each {β : Type} {k : β → Val} {w : Walk} {t : Tg} {b : Sl → Heap → Res Fl} {Q : RQ Fl} {E : RE} (I : List β → Sl → Heap → Prop) (hw : ∀ r σ h, I r σ h → w.ok h = true)
    (step : ∀ x r σ h, I (x :: r) σ h → ∃ σ', tgV t (k x) σ h = some σ' ∧ (b σ' h).sat (fun f h' => (match f with | .nx σ'' => I r σ'' h' | .rt v => Q (.rt v) h' | .ex c fs σ => Q (.ex c fs σ) h')) E)
    (done : ∀ σ h, I [] σ h → Q (.nx σ) h) {xs : List β} {σ : Sl} {h : Heap} (start : I xs σ h) : (loopF w t b (xs.map fun x => .v (k x)) σ h).sat Q E := by
  refine loopF_inv (fun r σ h => ∃ ys : List β, r = ys.map (fun x => It.v (k x)) ∧ I ys σ h) (fun _ _ h z => by obtain ⟨ys, _, z⟩ := z; exact hw _ _ _ z) ?_ ?_ _ _ _ ⟨xs, rfl, start⟩
  · rintro i r σ h ⟨ys, er, hi⟩
    cases ys with
    | nil => cases er
    | cons x ys =>
      cases er
      obtain ⟨σ', h1, h2⟩ := step x ys σ h hi
      refine ⟨σ', h1, h2.imp (fun f h' z => ?_) fun _ _ _ z => z⟩
      cases f with
      | nx σ'' => exact ⟨ys, rfl, z⟩
      | rt v => exact z
      | ex c fs σ => exact z
  · rintro σ h ⟨ys, er, hi⟩
    cases ys with
    | nil => exact done σ h hi
    | cons x ys => cases er
/-- a loop over values -/
theorem loopF_vals {w : Walk} {t : Tg} {b : Sl → Heap → Res Fl} {Q : RQ Fl} {E : RE} (I : List Val → Sl → Heap → Prop) (hw : ∀ r σ h, I r σ h → w.ok h = true)
    (step : ∀ x r σ h, I (x :: r) σ h → ∃ σ', tgV t x σ h = some σ' ∧ (b σ' h).sat (fun f h' => (match f with | .nx σ'' => I r σ'' h' | .rt v => Q (.rt v) h' | .ex c fs σ => Q (.ex c fs σ) h')) E)
    (done : ∀ σ h, I [] σ h → Q (.nx σ) h) {xs : List Val} {σ : Sl} {h : Heap} (start : I xs σ h) : (loopF w t b (xs.map .v) σ h).sat Q E := by
  refine loopF_inv (fun r σ h => ∃ ys, r = ys.map .v ∧ I ys σ h) (fun _ _ h z => by obtain ⟨ys, _, z⟩ := z; exact hw _ _ _ z) ?_ ?_ _ _ _ ⟨xs, rfl, start⟩
  · rintro i r σ h ⟨ys, er, hi⟩
    cases ys with
    | nil => cases er
    | cons x ys =>
      cases er
      obtain ⟨σ', h1, h2⟩ := step x ys σ h hi
      refine ⟨σ', h1, h2.imp (fun f h' z => ?_) fun _ _ _ z => z⟩
      cases f with
      | nx σ'' => exact ⟨ys, rfl, z⟩
      | rt v => exact z
      | ex c fs σ => exact z
  · rintro σ h ⟨ys, er, hi⟩
    cases ys with
    | nil => exact done σ h hi
    | cons x ys => cases er
/-- a list of texts, read -/
theorem mapO_str (n : Nat) (h : Heap) : ∀ ys : List Str, mapO (rd n h) (ys.map .str) = some (ys.map PyData.str)
  | [] => rfl
  | y :: r => by
    rw [List.map_cons, mapO, mapO_str n h r]
    cases n <;> simp [rd]
theorem lay_strs : ∀ {ys : List Str}, (∀ y ∈ ys, Okt y) → PyData.canLayAll0 (ys.map PyData.str) = true
  | [], _ => rfl
  | y :: r, hy => by
    show (PyData.canLay0 (.str y) && PyData.canLayAll0 (r.map PyData.str)) = true
    rw [lay_strs fun z hz => hy z (List.mem_cons_of_mem _ hz), Bool.and_true]
    show PyData.strOk y = true
    unfold PyData.strOk
    rw [← Array.all_toList, List.all_eq_true]
    exact fun c hc => decide_eq_true (hy y (List.mem_cons_self ..) c hc)
theorem depth_strs : ∀ ys : List Str, PyData.depthAll (ys.map PyData.str) = 0
  | [] => rfl
  | y :: r => by
    show max (PyData.depth (.str y)) (PyData.depthAll (r.map PyData.str)) = 0
    rw [depth_strs r]
    rfl
/-- a list of texts against [] -/
theorem eq_none {h : Heap} {p q : Nat} {ys : List Str} (e1 : h[p]? = some (.lst (ys.map .str))) (e2 : h[q]? = some (.lst [])) (hy : ∀ y ∈ ys, Okt y) : bop .eq (.ref p) (.ref q) h = .ok (.bl ys.isEmpty) h := by
  show ofB (eqO h (.ref p) (.ref q)) h = _
  have h1 : rd 60 h (.ref p) = some (.list (ys.map PyData.str)) := by
    unfold rd
    rw [e1]
    dsimp only
    rw [mapO_str]
    rfl
  have h2 : rd 60 h (.ref q) = some (.list []) := by
    unfold rd
    rw [e2]
    rfl
  unfold eqO
  rw [h1, h2]
  dsimp only
  rw [if_pos]
  · cases ys <;> rfl
  · refine ⟨?_, by decide⟩
    unfold PySem.SeqAt.shaped
    rw [show PyData.canLay0 (.list (ys.map PyData.str)) = true from lay_strs hy, show PyData.depth (.list (ys.map PyData.str)) = 1 by (show PyData.depthAll _ + 1 = 1; rw [depth_strs])]
    decide

/-! ## the numbers that the script gives -/
def cellB (p q : Int) : Sts := .cons (.ite (.bin .lt (.var 1) (.pri .len (.cons (.var 0) (.nil)))) (.cons (.ret (.idx (.var 0) (.var 1))) (.nil)) (.nil)) (.cons (.ret (.bin .add (.bin .mul (.cst (.int p)) (.var 1)) (.cst (.int q)))) (.nil))
def boxB : Sts := .cons (.ret (.lst (.cons (.pri .max (.cons (.cst (.int 0)) (.cons (.bin .sub (.var 0) (.bin .pow (.cst (.int 10)) (.cst (.int 18)))) (.nil)))) (.cons (.bin .mod (.var 0) (.cst (.int 2147483629))) (.cons (.cst (.int 0)) (.nil)))))) (.nil)
def takeB (p q r : Int) : Sts := .cons (.ite (.bin .gt (.idx (.var 0) (.cst (.int 0))) (.cst (.int 0))) (.cons (.asg (.nm 2) (.bin .mod (.idx (.var 0) (.cst (.int 0))) (.var 1))) (.cons (.sti (.var 0) (.cst (.int 0)) (.bin .fdiv (.idx (.var 0) (.cst (.int 0))) (.var 1))) (.cons (.ret (.var 2)) (.nil)))) (.nil)) (.cons (.sti (.var 0) (.cst (.int 2)) (.bin .add (.idx (.var 0) (.cst (.int 2))) (.cst (.int 1)))) (.cons (.asg (.nm 3) (.bin .mod (.bin .pow (.bin .add (.bin .add (.idx (.var 0) (.cst (.int 1))) (.bin .mul (.cst (.int p)) (.idx (.var 0) (.cst (.int 2))))) (.cst (.int q))) (.cst (.int 5))) (.cst (.int 2147483647)))) (.cons (.asg (.nm 3) (.bin .mod (.bin .pow (.bin .add (.var 3) (.bin .mul (.cst (.int r)) (.idx (.var 0) (.cst (.int 2))))) (.cst (.int 3))) (.cst (.int 2147483587)))) (.cons (.ret (.bin .mod (.bin .fdiv (.var 3) (.cst (.int 16))) (.var 1))) (.nil)))))
/-- n is a box, after at most c takes -/
def Bx (n : Nat) (c : Nat) (h : Heap) : Prop := ∃ x y z : Int, h[n]? = some (.lst [.int x, .int y, .int z]) ∧ 0 ≤ x ∧ 0 ≤ y ∧ y < 2147483629 ∧ 0 ≤ z ∧ z ≤ c
theorem Bx.lt {n c : Nat} {h : Heap} (b : Bx n c h) : n < h.length := by obtain ⟨x, y, z, e, _⟩ := b; exact lt_of_get e
theorem Bx.fr {n c : Nat} {h h' : Heap} (b : Bx n c h) (f : Fr h h') : Bx n c h' := by obtain ⟨x, y, z, e, r⟩ := b; exact ⟨x, y, z, f.at e, r⟩
theorem Bx.up {n c d : Nat} {h : Heap} (b : Bx n c h) (l : c ≤ d) : Bx n d h := by obtain ⟨x, y, z, e, r⟩ := b; exact ⟨x, y, z, e, r.1, r.2.1, r.2.2.1, r.2.2.2.1, by omega⟩
theorem atI_of {α : Type} {xs : List α} {k : Int} (h0 : 0 ≤ k) (h1 : k < xs.length) : ∃ x, L2.atI xs k = some x ∧ x ∈ xs ∧ xs[k.toNat]? = some x := by
  have hn : k.toNat < xs.length := by omega
  refine ⟨xs[k.toNat], ?_, List.getElem_mem _, by simp [hn]⟩
  unfold L2.atI L2.ixN
  rw [if_pos h0, if_pos h1]
  simp [hn]
theorem sat_at {xs : List Val} {k : Int} {h : Heap} {Q : RQ Val} {E : RE} (h0 : 0 ≤ k) (h1 : k < xs.length) (hq : ∀ v ∈ xs, xs[k.toNat]? = some v → Q v h) : (lstAt xs k h).sat Q E := by
  obtain ⟨x, e, m, e2⟩ := atI_of h0 h1
  unfold lstAt
  rw [e]
  exact hq x m e2
theorem sat_atL {g : G} {n : Nat} {xs : List Val} {k : Int} {h : Heap} {Q : RQ Val} {E : RE} (e : h[n]? = some (.lst xs)) (h0 : 0 ≤ k) (h1 : k < xs.length) (hq : ∀ v ∈ xs, xs[k.toNat]? = some v → Q v h) : (idxV g (.ref n) (.int k) h).sat Q E := by
  rw [ix_lst e]
  exact sat_at h0 h1 hq
theorem sat_atT {g : G} {n : Nat} {xs : List Val} {k : Int} {h : Heap} {Q : RQ Val} {E : RE} (e : h[n]? = some (.tup xs)) (h0 : 0 ≤ k) (h1 : k < xs.length) (hq : ∀ v ∈ xs, xs[k.toNat]? = some v → Q v h) : (idxV g (.ref n) (.int k) h).sat Q E := by
  rw [ix_tup e]
  exact sat_at h0 h1 hq
theorem sat_atS {g : G} {z : Str} {k : Int} {h : Heap} {Q : RQ Val} {E : RE} (hz : z.length ≤ SL) (h0 : 0 ≤ k) (h1 : k < z.length) (hq : ∀ c ∈ z.cps.toList, z.cps.toList[k.toNat]? = some c → Q (.str ⟨#[c]⟩) h) : (idxV g (.str z) (.int k) h).sat Q E := by
  obtain ⟨x, e, m, e2⟩ := atI_of (xs := z.cps.toList) h0 (by simpa [Str.length] using h1)
  unfold idxV
  dsimp only
  rw [if_pos hz, e]
  exact hq x m e2
def isI : Val → Bool
  | .int _ => true
  | _ => false
def isS : Val → Bool
  | .str _ => true
  | _ => false
theorem sat_atI {g : G} {n : Nat} {xs : List Val} {k : Int} {h : Heap} {Q : RQ Val} {E : RE} (e : h[n]? = some (.lst xs)) (h0 : 0 ≤ k) (h1 : k < xs.length) (hi : xs.all isI = true) (hq : ∀ i : Int, Val.int i ∈ xs → Q (.int i) h) : (idxV g (.ref n) (.int k) h).sat Q E := by
  refine sat_atL e h0 h1 fun v hv _ => ?_
  have := List.all_eq_true.mp hi v hv
  cases v <;> first | exact hq _ hv | cases this
theorem sat_atSt {g : G} {n : Nat} {xs : List Val} {k : Int} {h : Heap} {Q : RQ Val} {E : RE} (e : h[n]? = some (.lst xs)) (h0 : 0 ≤ k) (h1 : k < xs.length) (hi : xs.all isS = true) (hq : ∀ i : Str, Val.str i ∈ xs → Q (.str i) h) : (idxV g (.ref n) (.int k) h).sat Q E := by
  refine sat_atL e h0 h1 fun v hv _ => ?_
  have := List.all_eq_true.mp hi v hv
  cases v <;> first | exact hq _ hv | cases this
theorem Fx1.fr {n : Nat} {h h' h'' : Heap} (a : Fx1 n h h') (b : Fr h' h'') : Fx1 n h h'' := a.trans (b.one n)
theorem Fr.fx {n : Nat} {h h' h'' : Heap} (a : Fr h h') (b : Fx1 n h' h'') : Fx1 n h h'' := (a.one n).trans b
theorem ok_cell {p q : Int} {g : G} {k : Int} {h : Heap} {d : Def} {Q : RQ Val} {E : RE} (hb : d.body = cellB p q) (hp : d.params = 2) (hs : d.slots = 2) (hq : -1000000 < p ∧ p < 1000000) (h0 : 0 ≤ k) (h1 : k < 1000) (Z : ∀ c : Int, Q (.int c) h) :
    (runDef g d [.scr, .int k] h).sat Q E := by
  unfold runDef startV cellB at *
  rw [hb, hp, hs]
  simp
  refine sat_ite (fun c => ?_) fun c => ?_
  · obtain ⟨x, e, _⟩ := atI_of (xs := g.scr) h0 (by simpa using c)
    simp [idxV, e]
    exact Z _
  · simp
    exact ⟨by omega, Z _⟩
theorem ok_box {g : G} {c : Int} {h : Heap} {d : Def} {Q : RQ Val} {E : RE} (hb : d.body = boxB) (hp : d.params = 1) (hs : d.slots = 1) (Z : ∀ (n : Nat) (h' : Heap), n = h.length → Bx n 0 h' → Fr h h' → h'.length = h.length + 1 → Q (.ref n) h') :
    (runDef g d [.int c] h).sat Q E := by
  unfold runDef startV boxB at *
  rw [hb, hp, hs]
  simp
  refine sat_new fun n h' e l e2 f => Z n h' l ⟨_, _, _, e, ?_⟩ f e2
  omega
theorem ok_take {p q r : Int} {g : G} {n c : Nat} {m : Int} {h : Heap} {d : Def} {Q : RQ Val} {E : RE} (hb : d.body = takeB p q r) (hp : d.params = 2) (hs : d.slots = 4) (hpq : 0 ≤ p ∧ p < 100000 ∧ 0 ≤ q ∧ q < 1000 ∧ 0 ≤ r ∧ r < 100000000) (B : Bx n c h) (hc : c < 100000000) (hm : 0 < m ∧ m < 1073741824)
    (Z : ∀ (x : Int) (h' : Heap), 0 ≤ x → x < m → Bx n (c + 1) h' → Fx1 n h h' → h'.length = h.length → Q (.int x) h') :
    (runDef g d [.ref n, .int m] h).sat Q E := by
  obtain ⟨x, y, z, e, hx, hy0, hy, hz0, hz⟩ := B
  unfold runDef startV takeB at *
  rw [hb, hp, hs]
  simp [ix_lst e, lstAt, L2.atI, L2.ixN]
  refine sat_ite (fun c => ?_) fun c => ?_
  · simp [ix_lst e, lstAt, L2.atI, L2.ixN, hm]
    refine sat_set e rfl fun h' e' l' f => ?_
    try simp at e'
    try simp
    exact Z _ _ (Int.emod_nonneg _ (by omega)) (Int.emod_lt_of_pos _ hm.1) ⟨_, _, _, e', Int.ediv_nonneg hx (by omega), hy0, hy, hz0, by omega⟩ f l'
  · simp [ix_lst e, lstAt, L2.atI, L2.ixN, hm]
    refine sat_set e rfl fun h' e' l' f => ?_
    try simp at e'
    simp [ix_lst e', lstAt, L2.atI, L2.ixN, hm]
    have h1 : 0 ≤ p * (z + 1) := Int.mul_nonneg hpq.1 (by omega)
    have h2 : p * (z + 1) ≤ 100000 * 100000001 := Int.mul_le_mul (by omega) (by omega) (by omega) (by omega)
    have h3 : 0 ≤ r * (z + 1) := Int.mul_nonneg hpq.2.2.2.2.1 (by omega)
    have h4 : r * (z + 1) ≤ 100000000 * 100000001 := Int.mul_le_mul (by omega) (by omega) (by omega) (by omega)
    generalize p * (z + 1) = u at *
    generalize r * (z + 1) = v at *
    have h5 : 0 ≤ (y + u + q) ^ 5 % 2147483647 := Int.emod_nonneg _ (by omega)
    have h6 : (y + u + q) ^ 5 % 2147483647 < 2147483647 := Int.emod_lt_of_pos _ (by omega)
    generalize (y + u + q) ^ 5 % 2147483647 = s at *
    refine ⟨by omega, by omega, by omega, by omega, ?_⟩
    exact Z _ _ (Int.emod_nonneg _ (by omega)) (Int.emod_lt_of_pos _ hm.1) ⟨_, _, _, e', hx, hy0, hy, by omega, by omega⟩ f l'
theorem law_of {r : Res Val} (s : r.sat (fun v _ => v = .bl true) nox) : ∃ h', r = .ok (.bl true) h' := by
  cases r with
  | ok v h => cases (show v = .bl true from s); exact ⟨h, rfl⟩
  | exc => exact s.elim
  | bad => exact s.elim
theorem mul_lst {m : Nat} {xs : List Val} {h : Heap} {k : Int} (e : h[m]? = some (.lst xs)) : bop .mul (.ref m) (.int k) h = if -9223372036854775808 ≤ k ∧ k < 9223372036854775808 ∧ xs.length * k.toNat ≤ SL then new (.lst (List.replicate k.toNat xs).flatten) h else .bad := by
  show mulV (.ref m) (.int k) h = _
  unfold mulV
  simp [e]
theorem add_lst {m n : Nat} {xs ys : List Val} {h : Heap} (e : h[m]? = some (.lst xs)) (e2 : h[n]? = some (.lst ys)) : bop .add (.ref m) (.ref n) h = if xs.length + ys.length ≤ SL then new (.lst (xs ++ ys)) h else .bad := by
  show addV (.ref m) (.ref n) h = _
  unfold addV
  simp [e, e2]
@[simp] theorem mul_str {a : Str} {k : Int} {h : Heap} : bop .mul (.str a) (.int k) h = if -9223372036854775808 ≤ k ∧ k < 9223372036854775808 ∧ a.length * k.toNat ≤ SL then .ok (.str (repS a k)) h else .bad := nrfl rfl
theorem repS_len (a : Str) (k : Int) : (repS a k).length = k.toNat * a.length := by simp [repS, Str.length]
theorem tg_pair {i j p : Nat} {x y : Val} {σ : Sl} {h : Heap} (e : h[p]? = some (.tup [x, y])) : tgV (.tp [i, j]) (.ref p) σ h = some ((σ.set i (some x)).set j (some y)) := by
  unfold tgV
  simp [e, setAll]
theorem tg_three {i j k p : Nat} {x y z : Val} {σ : Sl} {h : Heap} (e : h[p]? = some (.tup [x, y, z])) : tgV (.tp [i, j, k]) (.ref p) σ h = some (((σ.set i (some x)).set j (some y)).set k (some z)) := by
  unfold tgV
  simp [e, setAll]
theorem set_two {i j p : Nat} {x y : Val} {σ : Sl} {h : Heap} (e : h[p]? = some (.tup [x, y])) : setT (.tp [i, j]) (.ref p) σ h = .ok (.nx ((σ.set i (some x)).set j (some y))) h := by
  unfold setT tgV
  simp [e, setAll]
theorem set_twoL {i j p : Nat} {x y : Val} {σ : Sl} {h : Heap} (e : h[p]? = some (.lst [x, y])) : setT (.tp [i, j]) (.ref p) σ h = .ok (.nx ((σ.set i (some x)).set j (some y))) h := by
  unfold setT tgV
  simp [e, setAll]
theorem set_three {i j k p : Nat} {x y z : Val} {σ : Sl} {h : Heap} (e : h[p]? = some (.tup [x, y, z])) : setT (.tp [i, j, k]) (.ref p) σ h = .ok (.nx (((σ.set i (some x)).set j (some y)).set k (some z))) h := by
  unfold setT tgV
  simp [e, setAll]
theorem set_threeL {i j k p : Nat} {x y z : Val} {σ : Sl} {h : Heap} (e : h[p]? = some (.lst [x, y, z])) : setT (.tp [i, j, k]) (.ref p) σ h = .ok (.nx (((σ.set i (some x)).set j (some y)).set k (some z))) h := by
  unfold setT tgV
  simp [e, setAll]
theorem set_four {i j k l p : Nat} {x y z u : Val} {σ : Sl} {h : Heap} (e : h[p]? = some (.tup [x, y, z, u])) : setT (.tp [i, j, k, l]) (.ref p) σ h = .ok (.nx ((((σ.set i (some x)).set j (some y)).set k (some z)).set l (some u))) h := by
  unfold setT tgV
  simp [e, setAll]
theorem set_fourL {i j k l p : Nat} {x y z u : Val} {σ : Sl} {h : Heap} (e : h[p]? = some (.lst [x, y, z, u])) : setT (.tp [i, j, k, l]) (.ref p) σ h = .ok (.nx ((((σ.set i (some x)).set j (some y)).set k (some z)).set l (some u))) h := by
  unfold setT tgV
  simp [e, setAll]
@[simp] theorem bop_isnot_bl {a b : Bool} {h : Heap} : bop .isnot (.bl a) (.bl b) h = .ok (.bl (!decide (a = b))) h := nrfl rfl
@[simp] theorem bop_is_bl {a b : Bool} {h : Heap} : bop .is (.bl a) (.bl b) h = .ok (.bl (decide (a = b))) h := nrfl rfl
theorem rc_ext {h : Heap} {n : Nat} {xs : List Val} (e : h[n]? = some (.lst xs)) : rcv .extend (.ref n) h = true := by
  unfold rcv lstO
  simp [e]
theorem sat_ext {h : Heap} {n m : Nat} {xs ys : List Val} {Q : RQ Val} {E : RE} (hn : h[n]? = some (.lst xs)) (hm : h[m]? = some (.lst ys)) (hl : xs.length + ys.length ≤ SL)
    (hp : ∀ h', h'[n]? = some (.lst (xs ++ ys)) → h'.length = h.length → Fx1 n h h' → Q .non h') : (met .extend (.ref n) [.ref m] h).sat Q E := by
  unfold met
  dsimp only
  rw [hn, hm]
  dsimp only
  rw [if_pos hl]
  exact hp _ (by simp [lt_of_get hn]) (by simp) (Fx1.put h n _)
theorem rc_ins {h : Heap} {n : Nat} {xs : List Val} (e : h[n]? = some (.lst xs)) : rcv .insert (.ref n) h = true := by
  unfold rcv lstO
  simp [e]
theorem rep_one {α : Type} (x : α) : ∀ k : Nat, (List.replicate k [x]).flatten = List.replicate k x
  | 0 => rfl
  | k + 1 => by rw [List.replicate_succ, List.flatten_cons, rep_one x k]; rfl
theorem mul_tup {m : Nat} {xs : List Val} {h : Heap} {k : Int} (e : h[m]? = some (.tup xs)) : bop .mul (.ref m) (.int k) h = if xs ≠ [] ∧ 2 ≤ k ∧ k ≤ 1000 ∧ xs.length ≤ 1000 then new (.tup (List.replicate k.toNat xs).flatten) h else .bad := by
  show mulV (.ref m) (.int k) h = _
  unfold mulV
  simp [e]
end Mi


/-! # Mi10: data in a heap (trees), what stands though some addresses change -/
namespace Mi
open PySem (Str PyData)

/-- outside X nothing that was there changes -/
structure Fo (X : List Nat) (h h' : Heap) : Prop where
  len : h.length ≤ h'.length
  get : ∀ m : Nat, m < h.length → m ∉ X → h'[m]? = h[m]?
theorem Fo.refl (X : List Nat) (h : Heap) : Fo X h h := ⟨Nat.le_refl _, fun _ _ _ => rfl⟩
theorem Fo.trans {X : List Nat} {h h' h'' : Heap} (a : Fo X h h') (b : Fo X h' h'') : Fo X h h'' := ⟨Nat.le_trans a.len b.len, fun m hm z => (b.get m (Nat.lt_of_lt_of_le hm a.len) z).trans (a.get m hm z)⟩
theorem Fo.of {X : List Nat} {h h' : Heap} (a : Fr h h') : Fo X h h' := ⟨a.len, fun m hm _ => a.get m hm⟩
theorem Fo.one {n : Nat} {X : List Nat} {h h' : Heap} (a : Fx1 n h h') (hn : n ∈ X) : Fo X h h' := ⟨a.len, fun m hm z => a.get m hm fun e => z (e ▸ hn)⟩
theorem Fo.sub {X Y : List Nat} {h h' : Heap} (a : Fo X h h') (s : ∀ n ∈ X, n ∈ Y) : Fo Y h h' := ⟨a.len, fun m hm z => a.get m hm fun e => z (s m e)⟩
theorem Fo.fr {h h' : Heap} (a : Fo [] h h') : Fr h h' := ⟨a.len, fun m hm => a.get m hm (by simp)⟩
theorem Fo.fx {n : Nat} {h h' : Heap} (a : Fo [n] h h') : Fx1 n h h' := ⟨a.len, fun m hm z => a.get m hm (by simpa using z)⟩
/-- what is not yet there may change -/
theorem Fo.drop {n : Nat} {X : List Nat} {h h' : Heap} (a : Fo (n :: X) h h') (hn : h.length ≤ n) : Fo X h h' := ⟨a.len, fun m hm z => a.get m hm fun e => by
  rcases List.mem_cons.mp e with rfl | e
  · omega
  · exact z e⟩
theorem Fo.at {X : List Nat} {h h' : Heap} (a : Fo X h h') {n : Nat} {o : Ob} (e : h[n]? = some o) (hn : n ∉ X) : h'[n]? = some o := (a.get n (lt_of_get e) hn).trans e

mutual
/-- the value v is the data d; nothing in X is read -/
def Is (X : List Nat) (h : Heap) : PyData → Val → Prop
  | .none, v => v = .non
  | .bool b, v => v = .bl b
  | .int i, v => v = .int i
  | .str x, v => v = .str x
  | .list ds, v => ∃ p xs, v = .ref p ∧ p ∉ X ∧ h[p]? = some (.lst xs) ∧ IsAll X h ds xs
  | .tuple ds, v => ∃ p xs, v = .ref p ∧ p ∉ X ∧ h[p]? = some (.tup xs) ∧ IsAll X h ds xs
  | .dict kvs, v => ∃ p xs, v = .ref p ∧ p ∉ X ∧ h[p]? = some (.dic xs) ∧ IsKv X h kvs xs
def IsAll (X : List Nat) (h : Heap) : List PyData → List Val → Prop
  | [], xs => xs = []
  | d :: ds, xs => ∃ y ys, xs = y :: ys ∧ Is X h d y ∧ IsAll X h ds ys
def IsKv (X : List Nat) (h : Heap) : List (PyData × PyData) → List (Key × Val) → Prop
  | [], xs => xs = []
  | (k, d) :: ds, xs => ∃ q y ys, xs = (q, y) :: ys ∧ k = keyD q ∧ Is X h d y ∧ IsKv X h ds ys
end
mutual
theorem Is.mono {X Y : List Nat} {h h' : Heap} (f : ∀ n o, n ∉ X → h[n]? = some o → n ∉ Y ∧ h'[n]? = some o) : ∀ {d : PyData} {v : Val}, Is X h d v → Is Y h' d v
  | .none, v, i => by unfold Is at *; exact i
  | .bool b, v, i => by unfold Is at *; exact i
  | .int b, v, i => by unfold Is at *; exact i
  | .str b, v, i => by unfold Is at *; exact i
  | .list ds, v, i => by unfold Is at *; obtain ⟨p, xs, e, n, g, a⟩ := i; exact ⟨p, xs, e, (f _ _ n g).1, (f _ _ n g).2, IsAll.mono f a⟩
  | .tuple ds, v, i => by unfold Is at *; obtain ⟨p, xs, e, n, g, a⟩ := i; exact ⟨p, xs, e, (f _ _ n g).1, (f _ _ n g).2, IsAll.mono f a⟩
  | .dict ds, v, i => by unfold Is at *; obtain ⟨p, xs, e, n, g, a⟩ := i; exact ⟨p, xs, e, (f _ _ n g).1, (f _ _ n g).2, IsKv.mono f a⟩
theorem IsAll.mono {X Y : List Nat} {h h' : Heap} (f : ∀ n o, n ∉ X → h[n]? = some o → n ∉ Y ∧ h'[n]? = some o) : ∀ {ds : List PyData} {v : List Val}, IsAll X h ds v → IsAll Y h' ds v
  | [], v, i => by unfold IsAll at *; exact i
  | d :: ds, v, i => by unfold IsAll at *; obtain ⟨y, ys, e, a, b⟩ := i; exact ⟨y, ys, e, Is.mono f a, IsAll.mono f b⟩
theorem IsKv.mono {X Y : List Nat} {h h' : Heap} (f : ∀ n o, n ∉ X → h[n]? = some o → n ∉ Y ∧ h'[n]? = some o) : ∀ {ds : List (PyData × PyData)} {v : List (Key × Val)}, IsKv X h ds v → IsKv Y h' ds v
  | [], v, i => by unfold IsKv at *; exact i
  | (k, d) :: ds, v, i => by unfold IsKv at *; obtain ⟨q, y, ys, e, z, a, b⟩ := i; exact ⟨q, y, ys, e, z, Is.mono f a, IsKv.mono f b⟩
end
theorem Is.fo {X : List Nat} {h h' : Heap} {d : PyData} {v : Val} (i : Is X h d v) (f : Fo X h h') : Is X h' d v := i.mono fun n o hn e => ⟨hn, f.at e hn⟩
theorem Is.fr {X : List Nat} {h h' : Heap} {d : PyData} {v : Val} (i : Is X h d v) (f : Fr h h') : Is X h' d v := i.fo (Fo.of f)
theorem Is.fx {n : Nat} {h h' : Heap} {d : PyData} {v : Val} (i : Is [n] h d v) (f : Fx1 n h h') : Is [n] h' d v := i.fo (Fo.one f (by simp))
theorem Is.sub {X Y : List Nat} {h : Heap} {d : PyData} {v : Val} (i : Is X h d v) (s : ∀ n ∈ Y, n ∈ X) : Is Y h d v := i.mono fun n o hn e => ⟨fun z => hn (s n z), e⟩
theorem IsAll.fo {X : List Nat} {h h' : Heap} {d : List PyData} {v : List Val} (i : IsAll X h d v) (f : Fo X h h') : IsAll X h' d v := i.mono fun n o hn e => ⟨hn, f.at e hn⟩
theorem IsAll.fr {X : List Nat} {h h' : Heap} {d : List PyData} {v : List Val} (i : IsAll X h d v) (f : Fr h h') : IsAll X h' d v := i.fo (Fo.of f)
theorem IsAll.sub {X Y : List Nat} {h : Heap} {d : List PyData} {v : List Val} (i : IsAll X h d v) (s : ∀ n ∈ Y, n ∈ X) : IsAll Y h d v := i.mono fun n o hn e => ⟨fun z => hn (s n z), e⟩
/-- what is new may be in X as well -/
theorem Is.more {X : List Nat} {m : Nat} {h : Heap} {d : PyData} {v : Val} (i : Is X h d v) (hm : h.length ≤ m) : Is (m :: X) h d v := i.mono fun n o hn e => ⟨fun z => by
  have := lt_of_get e
  rcases List.mem_cons.mp z with rfl | z
  · omega
  · exact hn z, e⟩
theorem IsAll.more {X : List Nat} {m : Nat} {h : Heap} {d : List PyData} {v : List Val} (i : IsAll X h d v) (hm : h.length ≤ m) : IsAll (m :: X) h d v := i.mono fun n o hn e => ⟨fun z => by
  have := lt_of_get e
  rcases List.mem_cons.mp z with rfl | z
  · omega
  · exact hn z, e⟩
section
variable {X : List Nat} {h : Heap}
theorem is_lst {p : Nat} {xs : List Val} {ds : List PyData} (hp : p ∉ X) (e : h[p]? = some (.lst xs)) (a : IsAll X h ds xs) : Is X h (.list ds) (.ref p) := by unfold Is; exact ⟨p, xs, rfl, hp, e, a⟩
theorem is_tup {p : Nat} {xs : List Val} {ds : List PyData} (hp : p ∉ X) (e : h[p]? = some (.tup xs)) (a : IsAll X h ds xs) : Is X h (.tuple ds) (.ref p) := by unfold Is; exact ⟨p, xs, rfl, hp, e, a⟩
theorem Is.lst {v : Val} {ds : List PyData} (i : Is X h (.list ds) v) : ∃ p xs, v = .ref p ∧ p ∉ X ∧ h[p]? = some (.lst xs) ∧ IsAll X h ds xs := by unfold Is at i; exact i
theorem Is.tup {v : Val} {ds : List PyData} (i : Is X h (.tuple ds) v) : ∃ p xs, v = .ref p ∧ p ∉ X ∧ h[p]? = some (.tup xs) ∧ IsAll X h ds xs := by unfold Is at i; exact i
theorem Is.int {v : Val} {n : Int} (i : Is X h (.int n) v) : v = .int n := by unfold Is at i; exact i
theorem Is.str {v : Val} {n : Str} (i : Is X h (.str n) v) : v = .str n := by unfold Is at i; exact i
theorem Is.bl {v : Val} {n : Bool} (i : Is X h (.bool n) v) : v = .bl n := by unfold Is at i; exact i
@[simp] theorem is_int {n : Int} : Is X h (.int n) (.int n) := by unfold Is; rfl
@[simp] theorem is_str {n : Str} : Is X h (.str n) (.str n) := by unfold Is; rfl
@[simp] theorem is_bl {n : Bool} : Is X h (.bool n) (.bl n) := by unfold Is; rfl
@[simp] theorem is_non : Is X h .none .non := by unfold Is; rfl
@[simp] theorem isall_nil : IsAll X h [] [] := by unfold IsAll; rfl
theorem IsAll.nil {xs : List Val} (i : IsAll X h [] xs) : xs = [] := by unfold IsAll at i; exact i
theorem IsAll.cons {d : PyData} {ds : List PyData} {xs : List Val} (i : IsAll X h (d :: ds) xs) : ∃ y ys, xs = y :: ys ∧ Is X h d y ∧ IsAll X h ds ys := by unfold IsAll at i; exact i
theorem isall_cons {d : PyData} {ds : List PyData} {x : Val} {xs : List Val} (a : Is X h d x) (b : IsAll X h ds xs) : IsAll X h (d :: ds) (x :: xs) := by unfold IsAll; exact ⟨x, xs, rfl, a, b⟩
@[simp] theorem isall_cc {d : PyData} {ds : List PyData} {x : Val} {xs : List Val} : IsAll X h (d :: ds) (x :: xs) = (Is X h d x ∧ IsAll X h ds xs) := by
  apply propext
  constructor
  · intro i
    obtain ⟨y, ys, e, a, b⟩ := i.cons
    cases e
    exact ⟨a, b⟩
  · exact fun ⟨a, b⟩ => isall_cons a b
theorem IsAll.length : ∀ {ds : List PyData} {xs : List Val}, IsAll X h ds xs → xs.length = ds.length
  | [], xs, i => by rw [i.nil]; rfl
  | d :: ds, xs, i => by
    obtain ⟨y, ys, e, a, b⟩ := i.cons
    rw [e, List.length_cons, List.length_cons, IsAll.length b]
theorem IsAll.app : ∀ {ds es : List PyData} {xs ys : List Val}, IsAll X h ds xs → IsAll X h es ys → IsAll X h (ds ++ es) (xs ++ ys)
  | [], es, xs, ys, i, j => by rw [i.nil]; exact j
  | d :: ds, es, xs, ys, i, j => by
    obtain ⟨y, zs, e, a, b⟩ := i.cons
    rw [e]
    exact isall_cons a (IsAll.app b j)
theorem isall_map {α : Type} {k : α → PyData} {f : α → Val} (hk : ∀ a, Is X h (k a) (f a)) : ∀ l : List α, IsAll X h (l.map k) (l.map f)
  | [] => isall_nil
  | a :: l => isall_cons (hk a) (isall_map hk l)
theorem IsAll.of_map {α : Type} {k : α → PyData} {f : α → Val} (hk : ∀ a v, Is X h (k a) v → v = f a) : ∀ {l : List α} {xs : List Val}, IsAll X h (l.map k) xs → xs = l.map f
  | [], xs, i => i.nil
  | a :: l, xs, i => by
    obtain ⟨y, ys, e, b, c⟩ := IsAll.cons i
    rw [e, hk _ _ b, IsAll.of_map hk c]
    rfl
theorem isall_ints {ws : List Int} {xs : List Val} : IsAll X h (ws.map PyData.int) xs ↔ xs = ws.map Val.int := ⟨fun i => i.of_map (fun _ _ z => z.int), fun e => e ▸ isall_map (fun _ => is_int) ws⟩
theorem IsAll.get : ∀ {ds : List PyData} {xs : List Val} {k : Nat} {x : Val}, IsAll X h ds xs → xs[k]? = some x → ∃ d, ds[k]? = some d ∧ Is X h d x
  | [], xs, k, x, i, e => by rw [i.nil] at e; simp at e
  | d :: ds, xs, k, x, i, e => by
    obtain ⟨y, ys, e2, a, b⟩ := i.cons
    rw [e2] at e
    cases k with
    | zero => simp at e; subst e; exact ⟨d, rfl, a⟩
    | succ k => simp at e; obtain ⟨d', h1, h2⟩ := IsAll.get b e; exact ⟨d', by simpa using h1, h2⟩
end
/-! ## reading -/
theorem mapO_len {α β : Type} {f : α → Option β} : ∀ {l : List α} {r : List β}, mapO f l = some r → r.length = l.length
  | [], r, e => by cases e; rfl
  | x :: l, r, e => by
    unfold mapO at e
    split at e
    · rename_i y ys h1 h2
      cases e
      rw [List.length_cons, List.length_cons, mapO_len h2]
    · cases e
mutual
theorem Is.rd {X : List Nat} {h : Heap} : ∀ {d : PyData} {v : Val} {k : Nat}, Is X h d v → d.depth ≤ k → Mi.rd k h v = some d
  | .none, v, k, i, hd => by unfold Is at i; subst i; cases k <;> rfl
  | .bool b, v, k, i, hd => by unfold Is at i; subst i; cases k <;> rfl
  | .int b, v, k, i, hd => by unfold Is at i; subst i; cases k <;> rfl
  | .str b, v, k, i, hd => by unfold Is at i; subst i; cases k <;> rfl
  | .list ds, v, k, i, hd => by
    obtain ⟨p, xs, rfl, _, e, a⟩ := i.lst
    have hd : PyData.depthAll ds + 1 ≤ k := hd
    obtain ⟨k, rfl⟩ : ∃ j, k = j + 1 := ⟨k - 1, by omega⟩
    unfold Mi.rd
    rw [e]
    dsimp only
    rw [IsAll.rd a (by omega)]
    rfl
  | .tuple ds, v, k, i, hd => by
    obtain ⟨p, xs, rfl, _, e, a⟩ := i.tup
    have hd : PyData.depthAll ds + 1 ≤ k := hd
    obtain ⟨k, rfl⟩ : ∃ j, k = j + 1 := ⟨k - 1, by omega⟩
    unfold Mi.rd
    rw [e]
    dsimp only
    rw [IsAll.rd a (by omega)]
    rfl
  | .dict ds, v, k, i, hd => by
    unfold Is at i
    obtain ⟨p, xs, rfl, _, e, a⟩ := i
    have hd : PyData.depthKv ds + 1 ≤ k := hd
    obtain ⟨k, rfl⟩ : ∃ j, k = j + 1 := ⟨k - 1, by omega⟩
    unfold Mi.rd
    rw [e]
    dsimp only
    rw [IsKv.rd a (by omega)]
    rfl
theorem IsAll.rd {X : List Nat} {h : Heap} : ∀ {ds : List PyData} {xs : List Val} {k : Nat}, IsAll X h ds xs → PyData.depthAll ds ≤ k → mapO (Mi.rd k h) xs = some ds
  | [], xs, k, i, hd => by rw [i.nil]; rfl
  | d :: ds, xs, k, i, hd => by
    obtain ⟨y, ys, rfl, a, b⟩ := i.cons
    have hd : max (PyData.depth d) (PyData.depthAll ds) ≤ k := hd
    unfold mapO
    rw [Is.rd a (by omega), IsAll.rd b (by omega)]
theorem IsKv.rd {X : List Nat} {h : Heap} : ∀ {ds : List (PyData × PyData)} {xs : List (Key × Val)} {k : Nat}, IsKv X h ds xs → PyData.depthKv ds ≤ k → mapO (fun p : Key × Val => (Mi.rd k h p.2).map fun d => (keyD p.1, d)) xs = some ds
  | [], xs, k, i, hd => by unfold IsKv at i; rw [i]; rfl
  | (q, d) :: ds, xs, k, i, hd => by
    unfold IsKv at i
    obtain ⟨q', y, ys, rfl, rfl, a, b⟩ := i
    have hd : max (max (PyData.depth (keyD q')) (PyData.depth d)) (PyData.depthKv ds) ≤ k := hd
    unfold mapO
    rw [Is.rd a (by omega), IsKv.rd b (by omega)]
    rfl
end
/-! ## repr, == -/
structure Okd (d : PyData) (n w : Nat) : Prop where
  lay : d.canLay0 = true
  shb : d.showable = true
  dep : d.depth ≤ n
  len : d.shown.length ≤ w
theorem Okd.up {d : PyData} {n w m v : Nat} (o : Okd d n w) (h1 : n ≤ m) (h2 : w ≤ v) : Okd d m v := ⟨o.lay, o.shb, Nat.le_trans o.dep h1, Nat.le_trans o.len h2⟩
theorem okd_non : Okd .none 0 5 := ⟨rfl, rfl, Nat.le_refl _, by decide +kernel⟩
theorem okd_bl (b : Bool) : Okd (.bool b) 0 5 := ⟨rfl, rfl, Nat.le_refl _, by cases b <;> decide +kernel⟩
theorem okd_int {i : Int} {k : Nat} (hk : 0 < k) (h : i.natAbs < 10 ^ k) (h2 : k ≤ 500) : Okd (.int i) 0 (k + 1) := by
  refine ⟨rfl, ?_, Nat.le_refl _, ?_⟩
  · show decide (i.natAbs.log2 < 1920) = true
    refine decide_eq_true ?_
    by_cases z : i.natAbs = 0
    · rw [z]; decide
    · rw [Nat.log2_lt z]
      refine Nat.lt_of_lt_of_le h (Nat.le_trans (Nat.pow_le_pow_right (by decide) h2) ?_)
      decide +kernel
  · show (Str.ofString (toString i)).length ≤ k + 1
    rw [PySem.ofString_length]
    exact PySem.int_text_length_le10 hk h
theorem piled_le {b : Nat} : ∀ {ts : List Str}, (∀ t ∈ ts, t.length ≤ b) → PySem.piled ts ≤ ts.length * (b + 2)
  | [], _ => by simp [PySem.piled]
  | t :: r, h => by
    have h1 := piled_le fun z hz => h z (List.mem_cons_of_mem _ hz)
    have h2 := h t (List.mem_cons_self ..)
    simp only [PySem.piled_cons, List.length_cons, Nat.succ_mul] at *
    omega
theorem listText_le : ∀ ts : List Str, (PySem.listText ts).length ≤ PySem.piled ts + 2
  | [] => by decide +kernel
  | t :: r => by
    unfold PySem.listText
    rw [len_cat]
    have e : (PySem.textFrom 0 "[" (t :: r)).length = (PySem.textFrom 1 (("[" : Str) ++ (if 0 > 0 then ", " else "" : String) ++ t) r).length := rfl
    rw [e, PySem.textFrom_length_pos _ _ _ (by decide), len_cat, len_cat, PySem.piled_cons]
    have e1 : ("[" : Str).length = 1 := by decide +kernel
    have e2 : ("]" : Str).length = 1 := by decide +kernel
    have e3 : (((if 0 > 0 then ", " else "" : String) : Str)).length = 0 := by decide +kernel
    omega
theorem tupleText_le : ∀ ts : List Str, (PySem.tupleText ts).length ≤ PySem.piled ts + 3
  | [] => by decide +kernel
  | t :: r => by
    unfold PySem.tupleText
    rw [len_cat, len_cat]
    have := PySem.join_length_add (t :: r) (by simp)
    have e1 : ("(" : Str).length = 1 := by decide +kernel
    have e2 : (((if (t :: r).length == 1 then ",)" else ")" : String) : Str)).length ≤ 2 := by split <;> decide +kernel
    omega
theorem shownAll_map : ∀ ds : List PyData, PyData.shownAll ds = ds.map PyData.shown
  | [] => rfl
  | d :: ds => by rw [PyData.shownAll, shownAll_map ds]; rfl
theorem canLayAll_of : ∀ {ds : List PyData}, (∀ d ∈ ds, d.canLay0 = true) → PyData.canLayAll0 ds = true
  | [], _ => rfl
  | d :: ds, h => by rw [PyData.canLayAll0, h d (List.mem_cons_self ..), canLayAll_of fun z hz => h z (List.mem_cons_of_mem _ hz)]; rfl
theorem showableAll_of : ∀ {ds : List PyData}, (∀ d ∈ ds, d.showable = true) → PyData.showableAll ds = true
  | [], _ => rfl
  | d :: ds, h => by rw [PyData.showableAll, h d (List.mem_cons_self ..), showableAll_of fun z hz => h z (List.mem_cons_of_mem _ hz)]; rfl
theorem depthAll_of {n : Nat} : ∀ {ds : List PyData}, (∀ d ∈ ds, d.depth ≤ n) → PyData.depthAll ds ≤ n
  | [], _ => Nat.zero_le _
  | d :: ds, h => by
    have h1 := h d (List.mem_cons_self ..)
    have h2 := depthAll_of fun z hz => h z (List.mem_cons_of_mem _ hz)
    show max (PyData.depth d) (PyData.depthAll ds) ≤ n
    omega
theorem okd_list {ds : List PyData} {n w : Nat} (h : ∀ d ∈ ds, Okd d n w) : Okd (.list ds) (n + 1) (ds.length * (w + 2) + 2) := by
  refine ⟨canLayAll_of fun d hd => (h d hd).lay, showableAll_of fun d hd => (h d hd).shb, Nat.succ_le_succ (depthAll_of fun d hd => (h d hd).dep), ?_⟩
  show (PySem.listText (PyData.shownAll ds)).length ≤ _
  rw [shownAll_map]
  have h1 := listText_le (ds.map PyData.shown)
  have h2 : PySem.piled (ds.map PyData.shown) ≤ (ds.map PyData.shown).length * (w + 2) := piled_le fun t ht => by
    obtain ⟨d, hd, rfl⟩ := List.mem_map.mp ht
    exact (h d hd).len
  rw [List.length_map] at h2
  omega
theorem okd_tuple {ds : List PyData} {n w : Nat} (h : ∀ d ∈ ds, Okd d n w) : Okd (.tuple ds) (n + 1) (ds.length * (w + 2) + 3) := by
  refine ⟨canLayAll_of fun d hd => (h d hd).lay, showableAll_of fun d hd => (h d hd).shb, Nat.succ_le_succ (depthAll_of fun d hd => (h d hd).dep), ?_⟩
  show (PySem.tupleText (PyData.shownAll ds)).length ≤ _
  rw [shownAll_map]
  have h1 := tupleText_le (ds.map PyData.shown)
  have h2 : PySem.piled (ds.map PyData.shown) ≤ (ds.map PyData.shown).length * (w + 2) := piled_le fun t ht => by
    obtain ⟨d, hd, rfl⟩ := List.mem_map.mp ht
    exact (h d hd).len
  rw [List.length_map] at h2
  omega
/-- data that repr can show, dicts too -/
structure Okr (d : PyData) (n w : Nat) : Prop where
  shb : d.showable = true
  dep : d.depth ≤ n
  len : d.shown.length ≤ w
theorem Okd.r {d : PyData} {n w : Nat} (o : Okd d n w) : Okr d n w := ⟨o.shb, o.dep, o.len⟩
theorem Okr.up {d : PyData} {n w m v : Nat} (o : Okr d n w) (h1 : n ≤ m) (h2 : w ≤ v) : Okr d m v := ⟨o.shb, Nat.le_trans o.dep h1, Nat.le_trans o.len h2⟩
theorem okr_list {ds : List PyData} {n w : Nat} (h : ∀ d ∈ ds, Okr d n w) : Okr (.list ds) (n + 1) (ds.length * (w + 2) + 2) := by
  refine ⟨showableAll_of fun d hd => (h d hd).shb, Nat.succ_le_succ (depthAll_of fun d hd => (h d hd).dep), ?_⟩
  show (PySem.listText (PyData.shownAll ds)).length ≤ _
  rw [shownAll_map]
  have h1 := listText_le (ds.map PyData.shown)
  have h2 : PySem.piled (ds.map PyData.shown) ≤ (ds.map PyData.shown).length * (w + 2) := piled_le fun t ht => by
    obtain ⟨d, hd, rfl⟩ := List.mem_map.mp ht
    exact (h d hd).len
  rw [List.length_map] at h2
  omega
theorem okr_tuple {ds : List PyData} {n w : Nat} (h : ∀ d ∈ ds, Okr d n w) : Okr (.tuple ds) (n + 1) (ds.length * (w + 2) + 3) := by
  refine ⟨showableAll_of fun d hd => (h d hd).shb, Nat.succ_le_succ (depthAll_of fun d hd => (h d hd).dep), ?_⟩
  show (PySem.tupleText (PyData.shownAll ds)).length ≤ _
  rw [shownAll_map]
  have h1 := tupleText_le (ds.map PyData.shown)
  have h2 : PySem.piled (ds.map PyData.shown) ≤ (ds.map PyData.shown).length * (w + 2) := piled_le fun t ht => by
    obtain ⟨d, hd, rfl⟩ := List.mem_map.mp ht
    exact (h d hd).len
  rw [List.length_map] at h2
  omega
theorem okr_dnew : Okr (.dict []) 1 2 := ⟨rfl, by decide, by decide +kernel⟩
theorem sat_reprR {g : G} {X : List Nat} {h : Heap} {d : PyData} {v : Val} {n w : Nat} (i : Is X h d v) (o : Okr d n w) (hn : n ≤ 60) (hw : w ≤ 16777216) : Mi.pri g .repr [v] h = .ok (.str d.shown) h := by
  unfold pri
  dsimp only
  rw [i.rd (Nat.le_trans o.dep hn)]
  dsimp only
  rw [if_pos ⟨o.shb, Nat.le_trans o.dep hn, Nat.le_trans o.len hw⟩]
theorem sat_repr {g : G} {X : List Nat} {h : Heap} {d : PyData} {v : Val} {n w : Nat} (i : Is X h d v) (o : Okd d n w) (hn : n ≤ 60) (hw : w ≤ 16777216) : Mi.pri g .repr [v] h = .ok (.str d.shown) h := by
  unfold pri
  dsimp only
  rw [i.rd (Nat.le_trans o.dep hn)]
  dsimp only
  rw [if_pos ⟨o.shb, Nat.le_trans o.dep hn, Nat.le_trans o.len hw⟩]
theorem Okd.shaped {d : PyData} {n w : Nat} (o : Okd d n w) (hn : n ≤ 60) : PySem.SeqAt.shaped d = true := by
  unfold PySem.SeqAt.shaped
  rw [o.lay, Bool.true_and]
  exact decide_eq_true (Nat.le_trans (Nat.le_trans o.dep hn) (by decide))
theorem eqO_is {X Y : List Nat} {h : Heap} {d e : PyData} {x y : Val} {n w m v : Nat} (i : Is X h d x) (j : Is Y h e y) (o : Okd d n w) (o' : Okd e m v) (hn : n ≤ 60) (hm : m ≤ 60) : eqO h x y = some (PyData.eqv d e) := by
  have r1 := i.rd (Nat.le_trans o.dep hn)
  have r2 := j.rd (Nat.le_trans o'.dep hm)
  have hs := And.intro (o.shaped hn) (o'.shaped hm)
  unfold eqO
  split
  · cases r1; cases r2; simp [PyData.eqv]; rw [Bool.eq_iff_iff]; simp
  · cases r1; cases r2; simp [PyData.eqv]; rw [Bool.eq_iff_iff]; simp
  · cases r1; cases r2; simp [PyData.eqv]; rw [Bool.eq_iff_iff]; simp
  · rw [r1, r2]
    dsimp only
    rw [if_pos hs]
theorem bop_eq_is {X Y : List Nat} {h : Heap} {d e : PyData} {x y : Val} {n w m v : Nat} (i : Is X h d x) (j : Is Y h e y) (o : Okd d n w) (o' : Okd e m v) (hn : n ≤ 60) (hm : m ≤ 60) : bop .eq x y h = .ok (.bl (PyData.eqv d e)) h := by
  show ofB (eqO h x y) h = _
  rw [eqO_is i j o o' hn hm]
  rfl
theorem bop_ne_is {X Y : List Nat} {h : Heap} {d e : PyData} {x y : Val} {n w m v : Nat} (i : Is X h d x) (j : Is Y h e y) (o : Okd d n w) (o' : Okd e m v) (hn : n ≤ 60) (hm : m ≤ 60) : bop .ne x y h = .ok (.bl (!PyData.eqv d e)) h := by
  show ofB ((eqO h x y).map (!·)) h = _
  rw [eqO_is i j o o' hn hm]
  rfl
mutual
theorem eqv_refl : ∀ {d : PyData}, d.canLay0 = true → PyData.eqv d d = true
  | .none, _ => rfl
  | .bool b, _ => by simp [PyData.eqv]
  | .int b, _ => by simp [PyData.eqv]
  | .str b, _ => by simp [PyData.eqv]
  | .list ds, h => by
    have h : PyData.canLayAll0 ds = true := h
    show PyData.eqvAll ds ds = true
    exact eqvAll_refl h
  | .tuple ds, h => by
    have h : PyData.canLayAll0 ds = true := h
    show PyData.eqvAll ds ds = true
    exact eqvAll_refl h
  | .dict ds, h => by cases h
theorem eqvAll_refl : ∀ {ds : List PyData}, PyData.canLayAll0 ds = true → PyData.eqvAll ds ds = true
  | [], _ => rfl
  | d :: ds, h => by
    have h : (PyData.canLay0 d && PyData.canLayAll0 ds) = true := h
    rw [Bool.and_eq_true] at h
    show (PyData.eqv d d && PyData.eqvAll ds ds) = true
    rw [eqv_refl h.1, eqvAll_refl h.2]
    rfl
end
theorem eqv_ints {a b : List Int} : PyData.eqv (.list (a.map .int)) (.list (b.map .int)) = decide (a = b) := by
  show PyData.eqvAll (a.map .int) (b.map .int) = _
  induction a generalizing b with
  | nil => cases b <;> rfl
  | cons x r ih =>
    cases b with
    | nil => rfl
    | cons y q =>
      show (PyData.eqv (.int x) (.int y) && PyData.eqvAll (r.map .int) (q.map .int)) = _
      rw [ih]
      simp [PyData.eqv]
      rw [Bool.eq_iff_iff]; simp
end Mi


/-! # Mi11: lists and tuples of ints -/
namespace Mi
open PySem (Str PyData)
/-- v is a list or a tuple of these ints -/
def Sq (h : Heap) (v : Val) (ns : List Int) : Prop := ∃ p o, v = .ref p ∧ h[p]? = some o ∧ (o = .lst (ns.map .int) ∨ o = .tup (ns.map .int))
/-- the number at i -/
def nth (ns : List Int) (i : Nat) : Int := ns.getD i 0
theorem nth_get {ns : List Int} {i : Nat} (hi : i < ns.length) : nth ns i = ns[i] := by simp [nth, List.getD, List.getElem?_eq_getElem hi]
theorem Sq.fr {h h' : Heap} {v : Val} {ns : List Int} (s : Sq h v ns) (f : Fr h h') : Sq h' v ns := by
  obtain ⟨p, o, e, g, z⟩ := s
  exact ⟨p, o, e, f.at g, z⟩
theorem Sq.fx {n : Nat} {h h' : Heap} {v : Val} {ns : List Int} (s : Sq h v ns) (f : Fx1 n h h') (hn : v ≠ .ref n) : Sq h' v ns := by
  obtain ⟨p, o, e, g, z⟩ := s
  exact ⟨p, o, e, f.at g (fun y => hn (by rw [e, y])), z⟩
theorem Sq.fo {X : List Nat} {h h' : Heap} {v : Val} {ns : List Int} (s : Sq h v ns) (f : Fo X h h') (hn : ∀ n ∈ X, v ≠ .ref n) : Sq h' v ns := by
  obtain ⟨p, o, e, g, z⟩ := s
  exact ⟨p, o, e, f.at g (fun y => hn p y e), z⟩
theorem Sq.lt {h : Heap} {v : Val} {ns : List Int} (s : Sq h v ns) {n : Nat} (hn : h.length ≤ n) : v ≠ .ref n := by
  obtain ⟨p, o, e, g, z⟩ := s
  intro y
  rw [e] at y
  cases y
  have := lt_of_get g
  omega
theorem sq_lst {h : Heap} {p : Nat} {ns : List Int} (e : h[p]? = some (.lst (ns.map .int))) : Sq h (.ref p) ns := ⟨p, _, rfl, e, .inl rfl⟩
theorem sq_tup {h : Heap} {p : Nat} {ns : List Int} (e : h[p]? = some (.tup (ns.map .int))) : Sq h (.ref p) ns := ⟨p, _, rfl, e, .inr rfl⟩
section
variable {g : G} {h : Heap} {v : Val} {ns : List Int} {Q : RQ Val} {E : RE}
theorem Sq.len (s : Sq h v ns) : Mi.pri g .len [v] h = .ok (.int ns.length) h := by
  obtain ⟨p, o, rfl, e, rfl | rfl⟩ := s
  · rw [len_lst e, List.length_map]
  · rw [len_tup e, List.length_map]
theorem Sq.sum (s : Sq h v ns) : Mi.pri g .sum [v] h = .ok (.int ns.sum) h := by
  obtain ⟨p, o, rfl, e, rfl | rfl⟩ := s <;> simp [pri, seqO, e, intsO_map]
theorem Sq.ix (s : Sq h v ns) {i : Int} (h0 : 0 ≤ i) (h1 : i < ns.length) : idxV g v (.int i) h = .ok (.int (nth ns i.toNat)) h := by
  have key : lstAt (ns.map Val.int) i h = .ok (.int (nth ns i.toNat)) h := by
    obtain ⟨x, e, _, e2⟩ := atI_of (xs := ns.map Val.int) h0 (by simpa using h1)
    unfold lstAt
    rw [e]
    rw [List.getElem?_map] at e2
    have hn : i.toNat < ns.length := by omega
    rw [List.getElem?_eq_getElem hn] at e2
    simp at e2
    simp [nth, List.getD, List.getElem?_eq_getElem hn, e2]
  obtain ⟨p, o, rfl, e, rfl | rfl⟩ := s
  · rw [ix_lst e, key]
  · rw [ix_tup e, key]
theorem Sq.src (s : Sq h v ns) : ∃ st, (∀ h', Fr h h' → srcR .val [v] h' = .ok ⟨ns.map (fun n => .v (.int n)), st⟩ h') ∧ ∀ h' its, Fr h h' → Walk.ok ⟨its, st⟩ h' = true := by
  obtain ⟨p, o, rfl, e, rfl | rfl⟩ := s
  · exact ⟨_, fun h' F => by rw [srcR_lst (F.at e), List.map_map]; rfl, fun h' its F => ok_lst _ _ rfl (F.at e)⟩
  · exact ⟨_, fun h' F => by rw [srcR_tup (F.at e), List.map_map]; rfl, fun h' its F => ok_lst _ _ rfl (F.at e)⟩
theorem last_ix {q : Nat} (e : h[q]? = some (.lst (ns.map .int))) (hn : 0 < ns.length) : idxV g (.ref q) (.int (-1)) h = .ok (.int (nth ns (ns.length - 1))) h := by
  rw [ix_lst e]
  unfold lstAt L2.atI L2.ixN
  rw [if_neg (by decide), List.length_map, if_pos (by omega)]
  have e2 : ((-1 : Int) + (ns.length : Int)).toNat = ns.length - 1 := by omega
  rw [nth_get (by omega)]
  simp only [Option.bind_some, e2, List.getElem?_map, List.getElem?_eq_getElem (show ns.length - 1 < ns.length by omega), Option.map_some]
theorem Sq.tru (s : Sq h v ns) : truB v h = .ok (!ns.isEmpty) h := by
  obtain ⟨p, o, rfl, e, rfl | rfl⟩ := s <;> simp [truB, Mi.tru, e]
/-- ns[lo:hi] -/
def cutL (ns : List Int) (lo hi : Option Int) : List Int := (ns.drop (HT.sIx ns.length 0 lo)).take (HT.sIx ns.length ns.length hi - HT.sIx ns.length 0 lo)
theorem Sq.slc (s : Sq h v ns) {lo hi : Option Int} (Z : ∀ v' h', Sq h' v' (cutL ns lo hi) → Fr h h' → Q v' h') : (slcV v lo hi h).sat Q E := by
  have em : ((ns.map Val.int).drop (HT.sIx ns.length 0 lo)).take (HT.sIx ns.length ns.length hi - HT.sIx ns.length 0 lo) = (cutL ns lo hi).map .int := by
    unfold cutL
    rw [List.map_take, List.map_drop]
  obtain ⟨p, o, rfl, e, rfl | rfl⟩ := s
  · unfold slcV
    simp only [e, List.length_map]
    rw [em]
    exact sat_new fun n h' e' _ _ F => Z _ _ (sq_lst e') F
  · unfold slcV
    simp only [e, List.length_map]
    split
    · rename_i c
      refine Z _ _ ?_ (Fr.refl _)
      have : cutL ns lo hi = ns := by
        unfold cutL
        rw [c.1, c.2]
        simp
      rw [this]
      exact sq_tup e
    · rw [em]
      exact sat_new fun n h' e' _ _ F => Z _ _ (sq_tup e') F
theorem six_nat (n d k : Nat) : HT.sIx n d (some (k : Int)) = min k n := by
  show (if (k : Int) < 0 then ((k : Int) + n).toNat else min (k : Int).toNat n) = _
  rw [if_neg (by omega)]
  simp
theorem cutL_0 (ns : List Int) (k : Nat) : cutL ns none (some (k : Int)) = ns.take k := by
  unfold cutL
  rw [six_nat]
  show List.take (min k ns.length - 0) (List.drop 0 ns) = _
  rw [List.drop_zero, List.take_eq_take_iff]
  omega
theorem cutL_b {ns : List Int} {i j : Nat} (hi : i ≤ ns.length) : cutL ns (some (i : Int)) (some (j : Int)) = (ns.drop i).take (j - i) := by
  unfold cutL
  rw [six_nat, six_nat, Nat.min_eq_left hi, List.take_eq_take_iff, List.length_drop]
  omega
theorem cutL_1 {ns : List Int} {i : Nat} (hi : i ≤ ns.length) : cutL ns (some (i : Int)) none = ns.drop i := by
  unfold cutL
  rw [six_nat, Nat.min_eq_left hi]
  show List.take (ns.length - i) _ = _
  rw [List.take_of_length_le (by rw [List.length_drop]; omega)]
theorem Sq.isseq (s : Sq h v ns) {t : Nat} (e : h[t]? = some (.tup [.ty "list", .ty "tuple"])) : Mi.pri g .isinst [v, .ref t] h = .ok (.bl true) h := by
  obtain ⟨p, o, rfl, e', rfl | rfl⟩ := s <;> simp [pri, tyO, e, e', tysO, okTy, isTy]
theorem Sq.list (s : Sq h v ns) (Z : ∀ (p : Nat) h', h'[p]? = some (.lst (ns.map .int)) → p = h.length → h'.length = h.length + 1 → Fr h h' → Q (.ref p) h') : (Mi.pri g .list [v] h).sat Q E := by
  obtain ⟨p, o, rfl, e, rfl | rfl⟩ := s <;>
  · simp only [pri, seqO, e]
    exact sat_new fun n h' e' l l' F => Z _ _ e' l l' F
theorem lst_tuple {q : Nat} {xs : List Val} (e : h[q]? = some (.lst xs)) (Z : ∀ (p : Nat) h', h'[p]? = some (.tup xs) → p = h.length → h'.length = h.length + 1 → Fr h h' → Q (.ref p) h') : (Mi.pri g .tuple [.ref q] h).sat Q E := by
  simp only [pri, e]
  exact sat_new fun n h' e' l l' F => Z _ _ e' l l' F
theorem lst_list {q : Nat} {xs : List Val} (e : h[q]? = some (.lst xs)) (Z : ∀ (p : Nat) h', h'[p]? = some (.lst xs) → p = h.length → h'.length = h.length + 1 → Fr h h' → Q (.ref p) h') : (Mi.pri g .list [.ref q] h).sat Q E := by
  simp only [pri, seqO, e]
  exact sat_new fun n h' e' l l' F => Z _ _ e' l l' F
end
/-- ints, read as data -/
theorem is_ints {X : List Nat} {h : Heap} {p : Nat} {ns : List Int} (hp : p ∉ X) (e : h[p]? = some (.lst (ns.map .int))) : Is X h (.list (ns.map .int)) (.ref p) := is_lst hp e (isall_ints.mpr rfl)
theorem okd_ints {ns : List Int} {k m : Nat} (hk : 0 < k) (h2 : k ≤ 500) (hl : ns.length ≤ m) (h : ∀ n ∈ ns, n.natAbs < 10 ^ k) : Okd (.list (ns.map .int)) 1 (m * (k + 3) + 2) := by
  have := okd_list (ds := ns.map PyData.int) (n := 0) (w := k + 1) fun d hd => by
    obtain ⟨n, hn, rfl⟩ := List.mem_map.mp hd
    exact okd_int hk (h n hn) h2
  refine this.up (by decide) ?_
  rw [List.length_map]
  have := Nat.mul_le_mul_right (k + 3) hl
  show ns.length * (k + 3) + 2 ≤ _
  omega
end Mi


/-! # Mi12: rows of rows; loops over pairs -/
namespace Mi
open PySem (Str PyData)
/-- a comprehension over items of a kind -/
theorem lcF_each {β : Type} {k : β → Val} {w : Walk} {t : Tg} {c : Sl → Heap → Res Bool} {e : Sl → Heap → Res Val} {σ : Sl} {Q : RQ (List Val)} {E : RE} (I : List β → List Val → Heap → Prop)
    (hw : ∀ r a h, I r a h → w.ok h = true) (ha : ∀ i r a h, I (i :: r) a h → a.length < SL)
    (step : ∀ x r a h, I (x :: r) a h → ∃ σ', tgV t (k x) σ h = some σ' ∧ (c σ' h).sat (fun b h1 => if b then (e σ' h1).sat (fun v h2 => I r (a ++ [v]) h2) nox else I r a h1) nox)
    (done : ∀ a h, I [] a h → Q a h) {xs : List β} {a : List Val} {h : Heap} (start : I xs a h) : (lcF w t c e σ (xs.map fun x => .v (k x)) a h).sat Q E := by
  refine lcF_inv (fun r a h => ∃ ys : List β, r = ys.map (fun x => It.v (k x)) ∧ I ys a h) (fun _ _ h z => by obtain ⟨ys, _, z⟩ := z; exact hw _ _ _ z) ?_ ?_ ?_ _ _ _ ⟨xs, rfl, start⟩
  · rintro i r a h ⟨ys, er, hi⟩
    cases ys with
    | nil => cases er
    | cons x ys => exact ha _ _ _ _ hi
  · rintro i r a h ⟨ys, er, hi⟩
    cases ys with
    | nil => cases er
    | cons x ys =>
      cases er
      obtain ⟨σ', h1, h2⟩ := step x ys a h hi
      refine ⟨σ', h1, h2.imp (fun b h' z => ?_) fun _ _ _ z => z⟩
      cases b with
      | true => exact Res.sat.imp z (fun v h2 q => ⟨ys, rfl, q⟩) fun _ _ _ z => z
      | false => exact ⟨ys, rfl, z⟩
  · rintro a h ⟨ys, er, hi⟩
    cases ys with
    | nil => exact done a h hi
    | cons x ys => cases er
/-- a comprehension over pairs -/
theorem lcF_pairs {β : Type} {k1 k2 : β → Val} {w : Walk} {i j : Nat} {c : Sl → Heap → Res Bool} {e : Sl → Heap → Res Val} {σ : Sl} {Q : RQ (List Val)} {E : RE} (I : List β → List Val → Heap → Prop)
    (hw : ∀ r a h, I r a h → w.ok h = true) (ha : ∀ i r a h, I (i :: r) a h → a.length < SL)
    (step : ∀ x r a h h0, I (x :: r) a h → Fr h h0 → h0.length = h.length + 1 → (c ((σ.set i (some (k1 x))).set j (some (k2 x))) h0).sat (fun b h1 => if b then (e ((σ.set i (some (k1 x))).set j (some (k2 x))) h1).sat (fun v h2 => I r (a ++ [v]) h2) nox else I r a h1) nox)
    (done : ∀ a h, I [] a h → Q a h) {xs : List β} {a : List Val} {h : Heap} (start : I xs a h) : (lcF w (.tp [i, j]) c e σ (xs.map fun x => .pr (k1 x) (k2 x)) a h).sat Q E := by
  refine lcF_inv (fun r a h => ∃ ys : List β, r = ys.map (fun x => It.pr (k1 x) (k2 x)) ∧ I ys a h) (fun _ _ h z => by obtain ⟨ys, _, z⟩ := z; exact hw _ _ _ z) ?_ ?_ ?_ _ _ _ ⟨xs, rfl, start⟩
  · rintro i r a h ⟨ys, er, hi⟩
    cases ys with
    | nil => cases er
    | cons x ys => exact ha _ _ _ _ hi
  · rintro it r a h ⟨ys, er, hi⟩
    cases ys with
    | nil => cases er
    | cons x ys =>
      cases er
      rw [yield_pr]
      refine ⟨_, tg_pair (x := k1 x) (y := k2 x) (by simp), (step x ys a h _ hi (Fr.push _ _) (by simp)).imp (fun b h' z => ?_) fun _ _ _ z => z⟩
      cases b with
      | true => exact Res.sat.imp z (fun v h2 q => ⟨ys, rfl, q⟩) fun _ _ _ z => z
      | false => exact ⟨ys, rfl, z⟩
  · rintro a h ⟨ys, er, hi⟩
    cases ys with
    | nil => exact done a h hi
    | cons x ys => cases er
/-- a loop over pairs -/
theorem loopF_pairs {β : Type} {k1 k2 : β → Val} {w : Walk} {i j : Nat} {b : Sl → Heap → Res Fl} {Q : RQ Fl} {E : RE} (I : List β → Sl → Heap → Prop) (hw : ∀ r σ h, I r σ h → w.ok h = true)
    (step : ∀ x r σ h h0, I (x :: r) σ h → Fr h h0 → h0.length = h.length + 1 → (b ((σ.set i (some (k1 x))).set j (some (k2 x))) h0).sat (fun f h' => (match f with | .nx σ'' => I r σ'' h' | .rt v => Q (.rt v) h' | .ex c fs σ => Q (.ex c fs σ) h')) E)
    (done : ∀ σ h, I [] σ h → Q (.nx σ) h) {xs : List β} {σ : Sl} {h : Heap} (start : I xs σ h) : (loopF w (.tp [i, j]) b (xs.map fun x => .pr (k1 x) (k2 x)) σ h).sat Q E := by
  refine loopF_inv (fun r σ h => ∃ ys : List β, r = ys.map (fun x => It.pr (k1 x) (k2 x)) ∧ I ys σ h) (fun _ _ h z => by obtain ⟨ys, _, z⟩ := z; exact hw _ _ _ z) ?_ ?_ _ _ _ ⟨xs, rfl, start⟩
  · rintro it r σ h ⟨ys, er, hi⟩
    cases ys with
    | nil => cases er
    | cons x ys =>
      cases er
      rw [yield_pr]
      refine ⟨_, tg_pair (x := k1 x) (y := k2 x) (by simp), (step x ys σ h _ hi (Fr.push _ _) (by simp)).imp (fun f h' z => ?_) fun _ _ _ z => z⟩
      cases f with
      | nx σ'' => exact ⟨ys, rfl, z⟩
      | rt v => exact z
      | ex c fs σ => exact z
  · rintro σ h ⟨ys, er, hi⟩
    cases ys with
    | nil => exact done σ h hi
    | cons x ys => cases er
theorem pairI_zip : ∀ xs ys : List Val, pairI xs ys = (xs.zip ys).map fun p => .pr p.1 p.2
  | [], ys => by cases ys <;> rfl
  | x :: xs, [] => rfl
  | x :: xs, y :: ys => by
    show It.pr x y :: pairI xs ys = _
    rw [pairI_zip xs ys]
    rfl
theorem enumI_idx : ∀ (k : Nat) (xs : List Val), enumI k xs = (xs.zipIdx k).map fun p => .pr (.int p.2) p.1
  | k, [] => rfl
  | k, x :: xs => by
    show It.pr (.int k) x :: enumI (k + 1) xs = _
    rw [enumI_idx (k + 1) xs]
    rfl
theorem zip_maps {α β γ : Type} (f : α → β) (g : α → γ) : ∀ l : List α, (l.map f).zip (l.map g) = l.map fun a => (f a, g a)
  | [] => rfl
  | a :: l => by simp [zip_maps f g l]
theorem srcR_enum {n : Nat} {xs : List Val} {h : Heap} (e : h[n]? = some (.lst xs)) : srcR .enum [.ref n] h = .ok ⟨(xs.zipIdx 0).map fun p => .pr (.int p.2) p.1, [(n, .lst xs)]⟩ h := by
  unfold srcR srcV
  simp [e, enumI_idx]
/-- a list or a tuple, with its items -/
def Sv (h : Heap) (v : Val) (xs : List Val) : Prop := ∃ p o, v = .ref p ∧ h[p]? = some o ∧ (o = .lst xs ∨ o = .tup xs)
theorem Sv.fr {h h' : Heap} {v : Val} {xs : List Val} (s : Sv h v xs) (f : Fr h h') : Sv h' v xs := by
  obtain ⟨p, o, e, e1, z⟩ := s
  exact ⟨p, o, e, f.at e1, z⟩
theorem sv_lst {h : Heap} {p : Nat} {xs : List Val} (e : h[p]? = some (.lst xs)) : Sv h (.ref p) xs := ⟨p, _, rfl, e, .inl rfl⟩
theorem sv_tup {h : Heap} {p : Nat} {xs : List Val} (e : h[p]? = some (.tup xs)) : Sv h (.ref p) xs := ⟨p, _, rfl, e, .inr rfl⟩
theorem Sv.src {h : Heap} {v : Val} {xs : List Val} (s : Sv h v xs) : ∃ st, (∀ h', Fr h h' → srcR .val [v] h' = .ok ⟨xs.map (fun x => .v x), st⟩ h') ∧ ∀ h' its, Fr h h' → Walk.ok ⟨its, st⟩ h' = true := by
  obtain ⟨p, o, rfl, e, z⟩ := s
  rcases z with rfl | rfl
  · exact ⟨_, fun h' F => srcR_lst (F.at e), fun h' its F => ok_lst _ _ rfl (F.at e)⟩
  · exact ⟨_, fun h' F => srcR_tup (F.at e), fun h' its F => ok_lst _ _ rfl (F.at e)⟩
theorem Sv.zip {h : Heap} {v v' : Val} {xs ys : List Val} (s : Sv h v xs) (s' : Sv h v' ys) : ∃ st, (∀ h', Fr h h' → srcR .zip [v, v'] h' = .ok ⟨(xs.zip ys).map (fun p => .pr p.1 p.2), st⟩ h') ∧ ∀ h' its, Fr h h' → Walk.ok ⟨its, st⟩ h' = true := by
  obtain ⟨p, o, rfl, e, z⟩ := s
  obtain ⟨p', o', rfl, e', z'⟩ := s'
  refine ⟨[(p, o), (p', o')], fun h' F => ?_, fun h' its F => ?_⟩
  · have f := F.at e
    have f' := F.at e'
    unfold srcR srcV obO
    rcases z with rfl | rfl <;> rcases z' with rfl | rfl <;> simp [f, f', pairI_zip]
  · unfold Walk.ok
    simp [F.at e, F.at e']
theorem Sv.len {g : G} {h : Heap} {v : Val} {xs : List Val} (s : Sv h v xs) : Mi.pri g .len [v] h = .ok (.int xs.length) h := by
  obtain ⟨p, o, rfl, e, z⟩ := s
  rcases z with rfl | rfl
  · exact len_lst e
  · exact len_tup e
theorem Sv.ix {g : G} {h : Heap} {v : Val} {xs : List Val} (s : Sv h v xs) (i : Int) : idxV g v (.int i) h = lstAt xs i h := by
  obtain ⟨p, o, rfl, e, z⟩ := s
  rcases z with rfl | rfl
  · exact ix_lst e g i
  · exact ix_tup e g i
theorem Sv.isseq {g : G} {h : Heap} {v : Val} {xs : List Val} (s : Sv h v xs) {t : Nat} (e : h[t]? = some (.tup [.ty "list", .ty "tuple"])) : Mi.pri g .isinst [v, .ref t] h = .ok (.bl true) h := by
  obtain ⟨p, o, rfl, e1, z⟩ := s
  rcases z with rfl | rfl <;> simp [Mi.pri, tyO, e, e1, tysO, okTy, isTy]
theorem Sq.sv {h : Heap} {v : Val} {ns : List Int} (s : Sq h v ns) : Sv h v (ns.map .int) := s
/-- a list or a tuple of rows of ints -/
def Gs (h : Heap) (v : Val) (rs : List (List Int)) : Prop := ∃ prs : List (Val × List Int), Sv h v (prs.map (·.1)) ∧ rs = prs.map (·.2) ∧ ∀ q ∈ prs, Sq h q.1 q.2
theorem Gs.fr {h h' : Heap} {v : Val} {rs : List (List Int)} (s : Gs h v rs) (f : Fr h h') : Gs h' v rs := by
  obtain ⟨prs, s1, e, q⟩ := s
  exact ⟨prs, s1.fr f, e, fun x hx => (q x hx).fr f⟩
abbrev LL (rs : List (List Int)) : PyData := .list (rs.map fun r => .list (r.map .int))
theorem isall_rows {X : List Nat} {h : Heap} : ∀ {rs : List (List Int)} {xs : List Val}, IsAll X h (rs.map fun r => PyData.list (r.map .int)) xs → ∃ prs : List (Val × List Int), xs = prs.map (·.1) ∧ rs = prs.map (·.2) ∧ ∀ q ∈ prs, Sq h q.1 q.2
  | [], xs, i => ⟨[], i.nil, rfl, fun _ hq => by cases hq⟩
  | r :: rs, xs, i => by
    obtain ⟨y, ys, rfl, i1, i2⟩ := i.cons
    obtain ⟨prs, rfl, rfl, hq⟩ := isall_rows i2
    obtain ⟨p, zs, rfl, _, e, i3⟩ := i1.lst
    rw [isall_ints] at i3
    subst i3
    refine ⟨(.ref p, r) :: prs, rfl, rfl, fun q hm => ?_⟩
    rcases List.mem_cons.mp hm with rfl | hm
    · exact sq_lst e
    · exact hq q hm
theorem Is.gs {X : List Nat} {h : Heap} {rs : List (List Int)} {v : Val} (i : Is X h (LL rs) v) : Gs h v rs := by
  obtain ⟨p, xs, rfl, _, e, i2⟩ := i.lst
  obtain ⟨prs, rfl, e2, hq⟩ := isall_rows i2
  exact ⟨prs, sv_lst e, e2, hq⟩
/-- a new list of new lists: they stand from b on, each by itself -/
structure Nst (b : Nat) (h : Heap) (p : Nat) (prs : List (Nat × List Int)) : Prop where
  at_ : h[p]? = some (.lst (prs.map fun q => .ref q.1))
  bp : b ≤ p
  own : ∀ q ∈ prs, q.1 ≠ p
  nd : (prs.map (·.1)).Nodup
  lo : ∀ q ∈ prs, b ≤ q.1
  row : ∀ q ∈ prs, h[q.1]? = some (.lst (q.2.map .int))
theorem Nst.fr {b : Nat} {h h' : Heap} {p : Nat} {prs : List (Nat × List Int)} (s : Nst b h p prs) (f : Fr h h') : Nst b h' p prs := ⟨f.at s.at_, s.bp, s.own, s.nd, s.lo, fun q hq => f.at (s.row q hq)⟩
theorem isall_nst {h : Heap} : ∀ {prs : List (Nat × List Int)}, (∀ q ∈ prs, h[q.1]? = some (.lst (q.2.map .int))) → IsAll [] h (prs.map fun q => PyData.list (q.2.map .int)) (prs.map fun q => .ref q.1)
  | [], _ => isall_nil
  | q :: prs, hr => isall_cons (is_ints (by simp) (hr q (List.mem_cons_self ..))) (isall_nst fun x hx => hr x (List.mem_cons_of_mem _ hx))
theorem Nst.is {b : Nat} {h : Heap} {p : Nat} {prs : List (Nat × List Int)} (s : Nst b h p prs) : Is [] h (LL (prs.map (·.2))) (.ref p) := by
  have := isall_nst s.row
  refine is_lst (by simp) s.at_ ?_
  rw [List.map_map]
  exact this
/-- one of the rows is written -/
theorem Nst.put {b : Nat} {h h' : Heap} {p m : Nat} {prs : List (Nat × List Int)} {r : List Int} (s : Nst b h p prs) (f : Fx1 m h h') (hm : m ≠ p) (e : h'[m]? = some (.lst (r.map .int))) :
    Nst b h' p (prs.map fun q => if q.1 = m then (q.1, r) else q) := by
  have k1 : (prs.map fun q => if q.1 = m then (q.1, r) else q).map (·.1) = prs.map (·.1) := by
    rw [List.map_map]
    refine List.map_congr_left fun q _ => ?_
    show (if q.1 = m then (q.1, r) else q).1 = q.1
    split <;> rfl
  have k2 : (prs.map fun q => if q.1 = m then (q.1, r) else q).map (fun q => Val.ref q.1) = prs.map fun q => Val.ref q.1 := by
    rw [List.map_map]
    refine List.map_congr_left fun q _ => ?_
    show Val.ref (if q.1 = m then (q.1, r) else q).1 = Val.ref q.1
    split <;> rfl
  have k3 : ∀ q ∈ prs.map (fun q => if q.1 = m then (q.1, r) else q), ∃ q0 ∈ prs, q.1 = q0.1 ∧ (if q0.1 = m then q.2 = r else q.2 = q0.2) := by
    intro q hq
    obtain ⟨q0, h0, rfl⟩ := List.mem_map.mp hq
    refine ⟨q0, h0, ?_, ?_⟩
    · split <;> rfl
    · by_cases z : q0.1 = m <;> simp [z]
  refine ⟨?_, s.bp, fun q hq => ?_, by rw [k1]; exact s.nd, fun q hq => ?_, fun q hq => ?_⟩
  · rw [k2]
    exact f.at s.at_ hm.symm
  · obtain ⟨q0, h0, e0, _⟩ := k3 q hq
    rw [e0]
    exact s.own q0 h0
  · obtain ⟨q0, h0, e0, _⟩ := k3 q hq
    rw [e0]
    exact s.lo q0 h0
  · obtain ⟨q0, h0, e0, e1⟩ := k3 q hq
    rw [e0]
    split at e1
    · rename_i z
      rw [z, e1]
      exact e
    · rename_i z
      rw [e1]
      exact f.at (s.row q0 h0) z
theorem okd_rows {rs : List (List Int)} {k m n : Nat} (hk : 0 < k) (h2 : k ≤ 500) (hl : ∀ r ∈ rs, r.length ≤ m) (hn : rs.length ≤ n) (h : ∀ r ∈ rs, ∀ x ∈ r, x.natAbs < 10 ^ k) : Okd (LL rs) 2 (n * (m * (k + 3) + 2 + 2) + 2) := by
  refine (okd_list (ds := rs.map fun r => .list (r.map .int)) (n := 1) (w := m * (k + 3) + 2) fun d hd => ?_).up (Nat.le_refl _) ?_
  · obtain ⟨r, hr, rfl⟩ := List.mem_map.mp hd
    exact okd_ints hk h2 (hl r hr) (h r hr)
  · rw [List.length_map]
    have := Nat.mul_le_mul_right (m * (k + 3) + 2 + 2) hn
    omega
end Mi


/-! # Mi13: lists of data of a kind -/
namespace Mi
open PySem (Str PyData)
/-- a list, its items data of a kind, nothing in X read -/
def Lo (X : List Nat) (h : Heap) (P : PyData → Prop) (v : Val) (xs : List Val) : Prop := ∃ p, v = .ref p ∧ p ∉ X ∧ h[p]? = some (.lst xs) ∧ ∀ x ∈ xs, ∃ d, P d ∧ Is X h d x
def Ab (X : List Nat) (h : Heap) : Prop := ∀ n ∈ X, n < h.length
section
variable {X : List Nat} {h h' : Heap} {P : PyData → Prop} {v w : Val} {xs ys : List Val} {Q : RQ Val} {E : RE}
theorem Ab.fr (a : Ab X h) (f : Fr h h') : Ab X h' := fun n hn => Nat.lt_of_lt_of_le (a n hn) f.len
theorem Ab.fo {Y : List Nat} (a : Ab X h) (f : Fo Y h h') : Ab X h' := fun n hn => Nat.lt_of_lt_of_le (a n hn) f.len
theorem Ab.no (a : Ab X h) {m : Nat} (hm : h.length ≤ m) : m ∉ X := fun z => by have := a m z; omega
theorem Lo.fo (l : Lo X h P v xs) (f : Fo X h h') : Lo X h' P v xs := by
  obtain ⟨p, e, hp, e1, hx⟩ := l
  exact ⟨p, e, hp, f.at e1 hp, fun x z => by obtain ⟨d, h1, h2⟩ := hx x z; exact ⟨d, h1, h2.fo f⟩⟩
theorem Lo.fr (l : Lo X h P v xs) (f : Fr h h') : Lo X h' P v xs := l.fo (Fo.of f)
theorem Lo.imp {P' : PyData → Prop} (l : Lo X h P v xs) (f : ∀ d, P d → P' d) : Lo X h P' v xs := by
  obtain ⟨p, e, hp, e1, hx⟩ := l
  exact ⟨p, e, hp, e1, fun x z => by obtain ⟨d, h1, h2⟩ := hx x z; exact ⟨d, f d h1, h2⟩⟩
theorem isall_some : ∀ {xs : List Val}, (∀ x ∈ xs, ∃ d, P d ∧ Is X h d x) → ∃ ds, IsAll X h ds xs ∧ ∀ d ∈ ds, P d
  | [], _ => ⟨[], isall_nil, by simp⟩
  | x :: xs, hx => by
    obtain ⟨d, h1, h2⟩ := hx x (List.mem_cons_self ..)
    obtain ⟨ds, h3, h4⟩ := isall_some (xs := xs) fun y z => hx y (List.mem_cons_of_mem _ z)
    refine ⟨d :: ds, isall_cons h2 h3, fun e he => ?_⟩
    rcases List.mem_cons.mp he with rfl | he
    · exact h1
    · exact h4 e he
theorem Lo.is (l : Lo X h P v xs) : ∃ ds, Is X h (.list ds) v ∧ ds.length = xs.length ∧ ∀ d ∈ ds, P d := by
  obtain ⟨p, rfl, hp, e1, hx⟩ := l
  obtain ⟨ds, h1, h2⟩ := isall_some hx
  exact ⟨ds, is_lst hp e1 h1, h1.length.symm, h2⟩
theorem lo_new (a : Ab X h) (hx : ∀ x ∈ xs, ∃ d, P d ∧ Is X h d x) (Z : ∀ p h', Lo X h' P (.ref p) xs → h'[p]? = some (.lst xs) → p = h.length → Fr h h' → Q (.ref p) h') : (new (.lst xs) h).sat Q E := by
  refine sat_new fun p h1 e1 el1 l1 F1 => Z p h1 ⟨p, rfl, a.no (by omega), e1, fun x z => ?_⟩ e1 el1 F1
  obtain ⟨d, h2, h3⟩ := hx x z
  exact ⟨d, h2, h3.fr F1⟩
theorem Lo.mem (l : Lo X h P v xs) {x : Val} (hx : x ∈ xs) : ∃ d, P d ∧ Is X h d x := by
  obtain ⟨p, _, _, _, h1⟩ := l
  exact h1 x hx
theorem Lo.slc (a : Ab X h) (l : Lo X h P v xs) {lo hi : Option Int} (Z : ∀ v' h', Lo X h' P v' ((xs.drop (HT.sIx xs.length 0 lo)).take (HT.sIx xs.length xs.length hi - HT.sIx xs.length 0 lo)) → Fr h h' → Q v' h') : (slcV v lo hi h).sat Q E := by
  have hm := fun x hx => l.mem (x := x) hx
  obtain ⟨p, rfl, hp, e1, hx⟩ := l
  unfold slcV
  dsimp only
  rw [e1]
  dsimp only
  exact lo_new a (fun x z => hm x (List.mem_of_mem_drop (List.mem_of_mem_take z))) fun p h' l' _ _ F => Z _ h' l' F
theorem Lo.add (a : Ab X h) (l : Lo X h P v xs) (l' : Lo X h P w ys) (hs : xs.length + ys.length ≤ 16777216) (Z : ∀ v' h', Lo X h' P v' (xs ++ ys) → Fr h h' → Q v' h') : (bop .add v w h).sat Q E := by
  have m1 := fun x hx => l.mem (x := x) hx
  have m2 := fun x hx => l'.mem (x := x) hx
  obtain ⟨p, rfl, hp, e1, hx⟩ := l
  obtain ⟨q, rfl, hq, e2, hy⟩ := l'
  rw [add_lst e1 e2, if_pos hs]
  refine lo_new a (fun x z => ?_) fun p h' l' _ _ F => Z _ h' l' F
  rcases List.mem_append.mp z with z | z
  · exact m1 x z
  · exact m2 x z
theorem Lo.len {g : G} (l : Lo X h P v xs) : Mi.pri g .len [v] h = .ok (.int xs.length) h := by
  obtain ⟨p, rfl, hp, e1, hx⟩ := l
  exact len_lst e1
theorem Lo.ix {g : G} {i : Int} (l : Lo X h P v xs) (h0 : 0 ≤ i) (h1 : i < xs.length) (Z : ∀ x d, x ∈ xs → xs[i.toNat]? = some x → P d → Is X h d x → Q x h) : (idxV g v (.int i) h).sat Q E := by
  have m1 := fun x hx => l.mem (x := x) hx
  obtain ⟨p, rfl, hp, e1, hx⟩ := l
  rw [ix_lst e1]
  refine sat_at h0 h1 fun x hx e => ?_
  obtain ⟨d, h2, h3⟩ := m1 x hx
  exact Z x d hx e h2 h3
theorem Lo.list {g : G} (a : Ab X h) (l : Lo X h P v xs) (Z : ∀ p h', Lo X h' P (.ref p) xs → h'[p]? = some (.lst xs) → p = h.length → Fr h h' → Q (.ref p) h') : (Mi.pri g .list [v] h).sat Q E := by
  have m1 := fun x hx => l.mem (x := x) hx
  obtain ⟨p, rfl, hp, e1, hx⟩ := l
  have : Mi.pri g .list [.ref p] h = new (.lst xs) h := by simp [Mi.pri, seqO, e1]
  rw [this]
  exact lo_new a m1 Z
theorem Lo.rev (a : Ab X h) (l : Lo X h P v xs) (Z : ∀ v' h', Lo X h' P v' xs.reverse → Fr h h' → Q v' h') : (revV v h).sat Q E := by
  have m1 := fun x hx => l.mem (x := x) hx
  obtain ⟨p, rfl, hp, e1, hx⟩ := l
  have : revV (.ref p) h = new (.lst xs.reverse) h := by simp [revV, lstO, e1]
  rw [this]
  exact lo_new a (fun x z => m1 x (List.mem_reverse.mp z)) fun p h' l' _ _ F => Z _ h' l' F
theorem Lo.tuple {g : G} (a : Ab X h) (l : Lo X h P v xs) (Z : ∀ v' h' ds, Is X h' (.tuple ds) v' → ds.length = xs.length → (∀ d ∈ ds, P d) → Fr h h' → Q v' h') : (Mi.pri g .tuple [v] h).sat Q E := by
  have m1 := fun x hx => l.mem (x := x) hx
  obtain ⟨p, rfl, hp, e1, hx⟩ := l
  refine lst_tuple e1 fun q h' e2 el l2 F => ?_
  obtain ⟨ds, h1, h2⟩ := isall_some m1
  exact Z _ h' ds (is_tup (a.no (by omega)) e2 (h1.fr F)) h1.length.symm h2 F
theorem eqv_nilD {ds : List PyData} : PyData.eqv (.list ds) (.list []) = ds.isEmpty := by cases ds <;> rfl
theorem Lo.isnil (l : Lo X h P v xs) {n w q : Nat} (hP : ∀ d, P d → Okd d n w) (hn : n ≤ 59) (e : h[q]? = some (.lst [])) : bop .eq v (.ref q) h = .ok (.bl xs.isEmpty) h := by
  obtain ⟨ds, i, hl, hd⟩ := l.is
  rw [bop_eq_is i (is_lst (X := []) (by simp) e isall_nil) (okd_list fun d z => hP d (hd d z)) (okd_list (ds := []) (n := 0) (w := 0) (by simp)) (by omega) (by decide), eqv_nilD]
  cases ds with
  | nil => cases xs with
    | nil => rfl
    | cons => cases hl
  | cons => cases xs with
    | nil => cases hl
    | cons => rfl
theorem Lo.nonil (l : Lo X h P v xs) {n w q : Nat} (hP : ∀ d, P d → Okd d n w) (hn : n ≤ 59) (e : h[q]? = some (.lst [])) : bop .ne v (.ref q) h = .ok (.bl (!xs.isEmpty)) h := by
  obtain ⟨ds, i, hl, hd⟩ := l.is
  rw [bop_ne_is i (is_lst (X := []) (by simp) e isall_nil) (okd_list fun d z => hP d (hd d z)) (okd_list (ds := []) (n := 0) (w := 0) (by simp)) (by omega) (by decide), eqv_nilD]
  cases ds with
  | nil => cases xs with
    | nil => rfl
    | cons => cases hl
  | cons => cases xs with
    | nil => cases hl
    | cons => rfl
theorem Nst.asLo {b p : Nat} {ps : List (Nat × List Int)} (s : Nst b h p ps) (hX : ∀ x ∈ X, x < b) (hP : ∀ q ∈ ps, P (.list (q.2.map .int))) : Lo X h P (.ref p) (ps.map fun q => .ref q.1) := by
  refine ⟨p, rfl, fun z => by have := hX p z; have := s.bp; omega, s.at_, fun x hx => ?_⟩
  obtain ⟨q, hq, rfl⟩ := List.mem_map.mp hx
  exact ⟨_, hP q hq, is_ints (fun z => by have := hX _ z; have := s.lo q hq; omega) (s.row q hq)⟩
/-- a swap of two items -/
theorem two_tup {p : Nat} {x y : Val} (e : h[p]? = some (.tup [x, y])) : twoV (.ref p) h = .ok (x, y) h := by simp [twoV, e]
end
end Mi


/-! # the defs of shelvesmoved_k32_whole_no_cutting_does_b in Mi, printed by gen.py -/
namespace Mi
open PySem PySem.Spec PyProof.Rows L2
def z0 : Str := "short"
def z1 : Str := "all"
def top (i : Nat) : Stmt := PySem.Challenge.pw_shelvesmoved_k32_whole_no_cutting_does_b.main.body.getD i (.Pass ⟨0, 0, 0, 0⟩)
/-- is_whole(thing, low, high); slots: thing=0 low=1 high=2 -/
abbrev s0 : Stmt := top 6
abbrev N0 : List Str := ["thing", "low", "high"]
def b0 : Sts := .cons (.ret (.and (.pri .isinst (.cons (.var 0) (.cons (.cst (.ty "int")) (.nil)))) (.and (.not (.pri .isinst (.cons (.var 0) (.cons (.cst (.ty "bool")) (.nil))))) (.chn .le .le (.var 1) (.var 0) (.var 2))))) (.nil)
def d0 : Def := ⟨3, 3, [], b0⟩
/-- need_list(thing, least, most, high); slots: thing=0 least=1 most=2 high=3 one=4 -/
abbrev s1 : Stmt := top 12
abbrev N1 : List Str := ["thing", "least", "most", "high", "one"]
def b1 : Sts := .cons (.ite (.or (.not (.pri .isinst (.cons (.var 0) (.cons (.tup (.cons (.cst (.ty "list")) (.cons (.cst (.ty "tuple")) (.nil)))) (.nil))))) (.not (.chn .le .le (.var 1) (.pri .len (.cons (.var 0) (.nil))) (.var 2)))) (.cons (.rse 0 ["found"] (.cons (.var 0) (.nil))) (.nil)) (.nil)) (.cons (.ite (.not (.pri .all (.cons (.lc (.cal 0 (.cons (.var 4) (.cons (.cst (.int 1)) (.cons (.var 3) (.nil))))) (.nm 4) .val (.cons (.var 0) .nil) [4] (.none)) (.nil)))) (.cons (.rse 0 ["found"] (.cons (.var 0) (.nil))) (.nil)) (.nil)) (.nil))
def d1 : Def := ⟨4, 5, [], b1⟩
-- DEFAULTS in need_both
/-- need_both(widths, lengths, least); slots: widths=0 lengths=1 least=2 -/
abbrev s2 : Stmt := top 13
abbrev N2 : List Str := ["widths", "lengths", "least"]
def b2 : Sts := .cons (.exp (.cal 1 (.cons (.var 0) (.cons (.cst (.int 0)) (.cons (.glb 0) (.cons (.glb 1) (.nil))))))) (.cons (.exp (.cal 1 (.cons (.var 1) (.cons (.var 2) (.cons (.glb 2) (.cons (.glb 3) (.nil))))))) (.nil))
def d2 : Def := ⟨3, 3, [.int (0)], b2⟩
/-- need_number(thing, high); slots: thing=0 high=1 -/
abbrev s3 : Stmt := top 14
abbrev N3 : List Str := ["thing", "high"]
def b3 : Sts := .cons (.ite (.not (.cal 0 (.cons (.var 0) (.cons (.cst (.int 0)) (.cons (.var 1) (.nil)))))) (.cons (.rse 1 ["found"] (.cons (.var 0) (.nil))) (.nil)) (.nil)) (.nil)
def d3 : Def := ⟨2, 2, [], b3⟩
/-- filled(widths, begun, room); slots: widths=0 begun=1 room=2 end=3 left=4 -/
abbrev s4 : Stmt := top 15
abbrev N4 : List Str := ["widths", "begun", "room", "end", "left"]
def b4 : Sts := .cons (.asg (.nm 3) (.var 1)) (.cons (.asg (.nm 4) (.var 2)) (.cons (.whl (.and (.bin .lt (.var 3) (.pri .len (.cons (.var 0) (.nil)))) (.bin .le (.idx (.var 0) (.var 3)) (.var 4))) (.cons (.aug .sub 4 (.idx (.var 0) (.var 3))) (.cons (.aug .add 3 (.cst (.int 1))) (.nil)))) (.cons (.ret (.var 3)) (.nil))))
def d4 : Def := ⟨3, 5, [], b4⟩
-- DEFAULTS in cut_fewest
/-- cut_fewest(widths, lengths, keep); slots: widths=0 lengths=1 keep=2 ends=3 end=4 length=5 -/
abbrev s5 : Stmt := top 16
abbrev N5 : List Str := ["widths", "lengths", "keep", "ends", "end", "length"]
def b5 : Sts := .cons (.exp (.cal 2 (.cons (.var 0) (.cons (.var 1) (.nil))))) (.cons (.exp (.cal 3 (.cons (.var 2) (.cons (.glb 3) (.nil))))) (.cons (.asg (.nm 3) (.lst (.nil))) (.cons (.asg (.nm 4) (.cst (.int 0))) (.cons (.frr (.nm 5) .val (.cons (.var 1) .nil) (.cons (.ite (.bin .lt (.var 4) (.pri .len (.cons (.var 0) (.nil)))) (.cons (.asg (.nm 4) (.cal 4 (.cons (.var 0) (.cons (.var 4) (.cons (.bin .sub (.var 5) (.var 2)) (.nil)))))) (.cons (.exp (.met .append (.var 3) (.cons (.var 4) (.nil)))) (.nil))) (.nil)) (.nil))) (.cons (.ite (.bin .eq (.var 4) (.pri .len (.cons (.var 0) (.nil)))) (.cons (.ret (.tup (.cons (.cst (.str z1)) (.cons (.var 3) (.nil))))) (.nil)) (.nil)) (.cons (.ret (.tup (.cons (.cst (.str z0)) (.cons (.var 3) (.nil))))) (.nil)))))))
def d5 : Def := ⟨3, 6, [.int (0)], b5⟩
/-- cut_spread(widths, lengths); slots: widths=0 lengths=1 word=2 ends=3 free=4 beyond=5 middle=6 -/
abbrev s6 : Stmt := top 17
abbrev N6 : List Str := ["widths", "lengths", "word", "ends", "free", "beyond", "middle"]
def b6 : Sts := .cons (.exp (.cal 2 (.cons (.var 0) (.cons (.var 1) (.cons (.cst (.int 1)) (.nil)))))) (.cons (.asg (.tp [2, 3]) (.cal 5 (.cons (.var 0) (.cons (.var 1) (.nil))))) (.cons (.ite (.bin .eq (.var 2) (.cst (.str z0))) (.cons (.rse 2 ["found"] (.cons (.idx (.var 3) (.neg (.cst (.int 1)))) (.nil))) (.nil)) (.nil)) (.cons (.asg (.nm 4) (.cst (.int 0))) (.cons (.asg (.nm 5) (.bin .add (.pri .min (.cons (.var 1) (.nil))) (.cst (.int 1)))) (.cons (.whl (.bin .gt (.bin .sub (.var 5) (.var 4)) (.cst (.int 1))) (.cons (.asg (.nm 6) (.bin .fdiv (.bin .add (.var 4) (.var 5)) (.cst (.int 2)))) (.cons (.ite (.bin .eq (.idx (.cal 5 (.cons (.var 0) (.cons (.var 1) (.cons (.var 6) (.nil))))) (.cst (.int 0))) (.cst (.str z1))) (.cons (.asg (.nm 4) (.var 6)) (.nil)) (.cons (.asg (.nm 5) (.var 6)) (.nil))) (.nil)))) (.cons (.asg (.nm 3) (.idx (.cal 5 (.cons (.var 0) (.cons (.var 1) (.cons (.var 4) (.nil))))) (.cst (.int 1)))) (.cons (.exp (.met .extend (.var 3) (.cons (.bin .mul (.lst (.cons (.pri .len (.cons (.var 0) (.nil))) (.nil))) (.bin .sub (.pri .len (.cons (.var 1) (.nil))) (.pri .len (.cons (.var 3) (.nil))))) (.nil)))) (.cons (.ite (.bin .eq (.var 4) (.pri .min (.cons (.var 1) (.nil)))) (.cons (.ret (.tup (.cons (.var 4) (.cons (.var 3) (.cons (.cst .non) (.nil)))))) (.nil)) (.nil)) (.cons (.ret (.tup (.cons (.var 4) (.cons (.var 3) (.cons (.idx (.cal 5 (.cons (.var 0) (.cons (.var 1) (.cons (.var 5) (.nil))))) (.cst (.int 1))) (.nil)))))) (.nil))))))))))
def d6 : Def := ⟨2, 7, [], b6⟩
/-- _law_cell(script, k); slots: script=0 k=1 -/
abbrev s7 : Stmt := top 19
abbrev N7 : List Str := ["script", "k"]
def b7 : Sts := .cons (.ite (.bin .lt (.var 1) (.pri .len (.cons (.var 0) (.nil)))) (.cons (.ret (.idx (.var 0) (.var 1))) (.nil)) (.nil)) (.cons (.ret (.bin .add (.bin .mul (.cst (.int 104729)) (.var 1)) (.cst (.int 71)))) (.nil))
def d7 : Def := ⟨2, 2, [], b7⟩
/-- _law_bag(cell); slots: cell=0 -/
abbrev s8 : Stmt := top 20
abbrev N8 : List Str := ["cell"]
def b8 : Sts := .cons (.ret (.lst (.cons (.pri .max (.cons (.cst (.int 0)) (.cons (.bin .sub (.var 0) (.bin .pow (.cst (.int 10)) (.cst (.int 18)))) (.nil)))) (.cons (.bin .mod (.var 0) (.cst (.int 2147483629))) (.cons (.cst (.int 0)) (.nil)))))) (.nil)
def d8 : Def := ⟨1, 1, [], b8⟩
/-- _law_take(bag, many); slots: bag=0 many=1 digit=2 number=3 -/
abbrev s9 : Stmt := top 21
abbrev N9 : List Str := ["bag", "many", "digit", "number"]
def b9 : Sts := .cons (.ite (.bin .gt (.idx (.var 0) (.cst (.int 0))) (.cst (.int 0))) (.cons (.asg (.nm 2) (.bin .mod (.idx (.var 0) (.cst (.int 0))) (.var 1))) (.cons (.sti (.var 0) (.cst (.int 0)) (.bin .fdiv (.idx (.var 0) (.cst (.int 0))) (.var 1))) (.cons (.ret (.var 2)) (.nil)))) (.nil)) (.cons (.sti (.var 0) (.cst (.int 2)) (.bin .add (.idx (.var 0) (.cst (.int 2))) (.cst (.int 1)))) (.cons (.asg (.nm 3) (.bin .mod (.bin .pow (.bin .add (.bin .add (.idx (.var 0) (.cst (.int 1))) (.bin .mul (.cst (.int 7919)) (.idx (.var 0) (.cst (.int 2))))) (.cst (.int 32))) (.cst (.int 5))) (.cst (.int 2147483647)))) (.cons (.asg (.nm 3) (.bin .mod (.bin .pow (.bin .add (.var 3) (.bin .mul (.cst (.int 15485863)) (.idx (.var 0) (.cst (.int 2))))) (.cst (.int 3))) (.cst (.int 2147483587)))) (.cons (.ret (.bin .mod (.bin .fdiv (.var 3) (.cst (.int 16))) (.var 1))) (.nil)))))
def d9 : Def := ⟨2, 4, [], b9⟩
/-- _law_row(bag); slots: bag=0 keep=1 wide=2 shelves=3 widths=4 k=5 lengths=6 at=7 to=8 length=9 -/
abbrev s10 : Stmt := top 22
abbrev N10 : List Str := ["bag", "keep", "wide", "shelves", "widths", "k", "lengths", "at", "to", "length"]
def b10 : Sts := .cons (.asg (.nm 1) (.idx (.lst (.cons (.cst (.int 0)) (.cons (.cst (.int 0)) (.cons (.cst (.int 0)) (.cons (.cst (.int 1)) (.cons (.cst (.int 5)) (.nil))))))) (.cal 9 (.cons (.var 0) (.cons (.cst (.int 5)) (.nil)))))) (.cons (.asg (.nm 2) (.cal 9 (.cons (.var 0) (.cons (.cst (.int 3)) (.nil))))) (.cons (.asg (.nm 3) (.bin .add (.cst (.int 1)) (.cal 9 (.cons (.var 0) (.cons (.cst (.int 4)) (.nil)))))) (.cons (.asg (.nm 4) (.lc (.bin .add (.idx (.lst (.cons (.cst (.int 1)) (.cons (.cst (.int 1)) (.cons (.cst (.int 95)) (.nil))))) (.var 2)) (.cal 9 (.cons (.var 0) (.cons (.idx (.lst (.cons (.cst (.int 3)) (.cons (.cst (.int 9)) (.cons (.cst (.int 5)) (.nil))))) (.var 2)) (.nil))))) (.nm 5) .rng1 (.cons (.cal 9 (.cons (.var 0) (.cons (.cst (.int 7)) (.nil)))) (.nil)) [5] (.none))) (.cons (.asg (.nm 6) (.lst (.nil))) (.cons (.frr (.nm 5) .rng1 (.cons (.var 3) (.nil)) (.cons (.asg (.nm 7) (.cal 9 (.cons (.var 0) (.cons (.bin .add (.pri .len (.cons (.var 4) (.nil))) (.cst (.int 1))) (.nil))))) (.cons (.asg (.nm 8) (.bin .add (.var 7) (.cal 9 (.cons (.var 0) (.cons (.cst (.int 5)) (.nil)))))) (.cons (.asg (.nm 9) (.bin .sub (.bin .add (.bin .add (.var 1) (.pri .sum (.cons (.slc (.var 4) (.some (.var 7)) (.some (.var 8))) (.nil)))) (.cal 9 (.cons (.var 0) (.cons (.cst (.int 3)) (.nil))))) (.cst (.int 1)))) (.cons (.ite (.bin .eq (.cal 9 (.cons (.var 0) (.cons (.cst (.int 4)) (.nil)))) (.cst (.int 0))) (.cons (.asg (.nm 9) (.bin .add (.cst (.int 1)) (.cal 9 (.cons (.var 0) (.cons (.cst (.int 30)) (.nil)))))) (.nil)) (.nil)) (.cons (.exp (.met .append (.var 6) (.cons (.pri .max (.cons (.cst (.int 1)) (.cons (.var 9) (.nil)))) (.nil)))) (.nil))))))) (.cons (.ret (.lst (.cons (.var 4) (.cons (.var 6) (.cons (.var 1) (.nil)))))) (.nil)))))))
def d10 : Def := ⟨1, 10, [], b10⟩
/-- _law_cuttings(many, shelves); slots: many=0 shelves=1 found=2 shelf=3 longer=4 row=5 begun=6 end=7 -/
abbrev s11 : Stmt := top 23
abbrev N11 : List Str := ["many", "shelves", "found", "shelf", "longer", "row", "begun", "end"]
def b11 : Sts := .cons (.asg (.nm 2) (.lst (.cons (.lst (.nil)) (.nil)))) (.cons (.frr (.nm 3) .rng1 (.cons (.var 1) (.nil)) (.cons (.asg (.nm 4) (.lst (.nil))) (.cons (.frr (.nm 5) .val (.cons (.var 2) .nil) (.cons (.asg (.nm 6) (.idx (.or (.var 5) (.lst (.cons (.cst (.int 0)) (.nil)))) (.neg (.cst (.int 1))))) (.cons (.exp (.met .extend (.var 4) (.cons (.lc (.bin .add (.var 5) (.lst (.cons (.var 7) (.nil)))) (.nm 7) .rng2 (.cons (.var 6) (.cons (.bin .add (.var 0) (.cst (.int 1))) (.nil))) [7] (.none)) (.nil)))) (.nil)))) (.cons (.asg (.nm 2) (.var 4)) (.nil))))) (.cons (.ret (.var 2)) (.nil)))
def d11 : Def := ⟨2, 8, [], b11⟩
/-- _law_free(widths, lengths, row); slots: widths=0 lengths=1 row=2 found=3 begun=4 length=5 end=6 -/
abbrev s12 : Stmt := top 24
abbrev N12 : List Str := ["widths", "lengths", "row", "found", "begun", "length", "end"]
def b12 : Sts := .cons (.asg (.nm 3) (.lst (.nil))) (.cons (.asg (.nm 4) (.cst (.int 0))) (.cons (.frr (.tp [5, 6]) .zip (.cons (.var 1) (.cons (.var 2) (.nil))) (.cons (.exp (.met .append (.var 3) (.cons (.ite (.bin .gt (.var 6) (.var 4)) (.bin .sub (.var 5) (.pri .sum (.cons (.slc (.var 0) (.some (.var 4)) (.some (.var 6))) (.nil)))) (.cst .non)) (.nil)))) (.cons (.asg (.nm 4) (.var 6)) (.nil)))) (.cons (.ret (.var 3)) (.nil))))
def d12 : Def := ⟨3, 7, [], b12⟩
/-- _law_fits(widths, lengths, keep, row); slots: widths=0 lengths=1 keep=2 row=3 free=4 -/
abbrev s13 : Stmt := top 25
abbrev N13 : List Str := ["widths", "lengths", "keep", "row", "free"]
def b13 : Sts := .cons (.ret (.bin .eq (.lc (.var 4) (.nm 4) .val (.cons (.cal 12 (.cons (.var 0) (.cons (.var 1) (.cons (.var 3) (.nil))))) .nil) [4] (.some (.and (.bin .isnot (.var 4) (.cst .non)) (.bin .lt (.var 4) (.var 2))))) (.lst (.nil)))) (.nil)
def d13 : Def := ⟨4, 5, [], b13⟩
/-- _law_least(widths, lengths, row); slots: widths=0 lengths=1 row=2 found=3 free=4 length=5 -/
abbrev s14 : Stmt := top 26
abbrev N14 : List Str := ["widths", "lengths", "row", "found", "free", "length"]
def b14 : Sts := .cons (.asg (.nm 3) (.cal 12 (.cons (.var 0) (.cons (.var 1) (.cons (.var 2) (.nil)))))) (.cons (.ret (.pri .min (.cons (.lc (.ite (.bin .is (.var 4) (.cst .non)) (.var 5) (.var 4)) (.tp [4, 5]) .zip (.cons (.var 3) (.cons (.var 1) (.nil))) [4, 5] (.none)) (.nil)))) (.nil))
def d14 : Def := ⟨3, 6, [], b14⟩
/-- _law_fewest_right(widths, lengths, keep, rows); slots: widths=0 lengths=1 keep=2 rows=3 word=4 ends=5 many=6 whole=7 good=8 row=9 over=10 k=11 end=12 full=13 -/
abbrev s15 : Stmt := top 27
abbrev N15 : List Str := ["widths", "lengths", "keep", "rows", "word", "ends", "many", "whole", "good", "row", "over", "k", "end", "full"]
def b15 : Sts := .cons (.asg (.tp [4, 5]) (.cal 5 (.cons (.var 0) (.cons (.var 1) (.cons (.var 2) (.nil)))))) (.cons (.asg (.nm 6) (.pri .len (.cons (.var 0) (.nil)))) (.cons (.asg (.nm 7) (.bin .add (.var 5) (.bin .mul (.lst (.cons (.var 6) (.nil))) (.bin .sub (.pri .len (.cons (.var 1) (.nil))) (.pri .len (.cons (.var 5) (.nil))))))) (.cons (.asg (.nm 8) (.lc (.var 9) (.nm 9) .val (.cons (.var 3) .nil) [9] (.some (.cal 13 (.cons (.var 0) (.cons (.var 1) (.cons (.var 2) (.cons (.var 9) (.nil))))))))) (.cons (.asg (.nm 10) (.lc (.var 9) (.nm 9) .val (.cons (.var 8) .nil) [9] (.some (.bin .ne (.lc (.var 11) (.tp [11, 12]) .enum (.cons (.var 9) (.nil)) [11, 12] (.some (.bin .gt (.var 12) (.idx (.var 7) (.var 11))))) (.lst (.nil)))))) (.cons (.asg (.nm 13) (.lc (.var 9) (.nm 9) .val (.cons (.var 8) .nil) [9] (.some (.bin .eq (.idx (.var 9) (.neg (.cst (.int 1)))) (.var 6))))) (.cons (.ite (.or (.bin .notin (.var 7) (.var 8)) (.bin .ne (.var 10) (.lst (.nil)))) (.cons (.ret (.cst (.bl false))) (.nil)) (.nil)) (.cons (.ite (.or (.bin .notin (.var 4) (.tup (.cons (.cst (.str z1)) (.cons (.cst (.str z0)) (.nil))))) (.bin .ne (.bin .eq (.var 4) (.cst (.str z1))) (.bin .ne (.var 13) (.lst (.nil))))) (.cons (.ret (.cst (.bl false))) (.nil)) (.nil)) (.cons (.ite (.bin .eq (.var 4) (.cst (.str z0))) (.cons (.ret (.bin .eq (.pri .len (.cons (.var 5) (.nil))) (.pri .len (.cons (.var 1) (.nil))))) (.nil)) (.nil)) (.cons (.ret (.and (.bin .eq (.lc (.var 12) (.nm 12) .val (.cons (.slc (.var 5) (.none) (.some (.neg (.cst (.int 1))))) .nil) [12] (.some (.bin .eq (.var 12) (.var 6)))) (.lst (.nil))) (.or (.bin .ne (.var 5) (.lst (.nil))) (.bin .eq (.var 6) (.cst (.int 0)))))) (.nil))))))))))
def d15 : Def := ⟨4, 14, [], b15⟩
/-- _law_spread_right(widths, lengths, rows); slots: widths=0 lengths=1 rows=2 told=3 e=4 good=5 row=6 full=7 most=8 -/
abbrev s16 : Stmt := top 28
abbrev N16 : List Str := ["widths", "lengths", "rows", "told", "e", "good", "row", "full", "most"]
def b16 : Sts := .cons (.asg (.nm 3) (.cst .non)) (.cons (.tri (.cons (.asg (.nm 3) (.cal 6 (.cons (.var 0) (.cons (.var 1) (.nil))))) (.nil)) (.cons [2] (some 4) (.cons (.asg (.nm 3) (.efl 4 "found")) (.nil)) (.nil))) (.cons (.asg (.nm 5) (.lc (.var 6) (.nm 6) .val (.cons (.var 2) .nil) [6] (.some (.cal 13 (.cons (.var 0) (.cons (.var 1) (.cons (.cst (.int 0)) (.cons (.var 6) (.nil))))))))) (.cons (.asg (.nm 7) (.lc (.var 6) (.nm 6) .val (.cons (.var 5) .nil) [6] (.some (.bin .eq (.idx (.var 6) (.neg (.cst (.int 1)))) (.pri .len (.cons (.var 0) (.nil))))))) (.cons (.ite (.bin .eq (.var 7) (.lst (.nil))) (.cons (.ret (.bin .eq (.pri .repr (.cons (.var 3) (.nil))) (.pri .repr (.cons (.pri .max (.cons (.lc (.idx (.var 6) (.neg (.cst (.int 1)))) (.nm 6) .val (.cons (.var 5) .nil) [6] (.none)) (.nil))) (.nil))))) (.nil)) (.nil)) (.cons (.ite (.or (.not (.pri .isinst (.cons (.var 3) (.cons (.cst (.ty "tuple")) (.nil))))) (.bin .notin (.idx (.var 3) (.cst (.int 1))) (.var 7))) (.cons (.ret (.cst (.bl false))) (.nil)) (.nil)) (.cons (.asg (.nm 8) (.pri .max (.cons (.lc (.cal 14 (.cons (.var 0) (.cons (.var 1) (.cons (.var 6) (.nil))))) (.nm 6) .val (.cons (.var 7) .nil) [6] (.none)) (.nil)))) (.cons (.ret (.and (.bin .eq (.pri .repr (.cons (.idx (.var 3) (.cst (.int 0))) (.nil))) (.pri .repr (.cons (.var 8) (.nil)))) (.bin .eq (.cal 14 (.cons (.var 0) (.cons (.var 1) (.cons (.idx (.var 3) (.cst (.int 1))) (.nil))))) (.var 8)))) (.nil))))))))
def d16 : Def := ⟨3, 9, [], b16⟩
/-- law(script); slots: script=0 k=1 bag=2 lap=3 widths=4 lengths=5 keep=6 rows=7 -/
abbrev s17 : Stmt := top 29
abbrev N17 : List Str := ["script", "k", "bag", "lap", "widths", "lengths", "keep", "rows"]
def b17 : Sts := .cons (.frr (.nm 1) .rng1 (.cons (.pri .max (.cons (.cst (.int 2)) (.cons (.pri .min (.cons (.cst (.int 5)) (.cons (.pri .len (.cons (.var 0) (.nil))) (.nil)))) (.nil)))) (.nil)) (.cons (.asg (.nm 2) (.cal 8 (.cons (.cal 7 (.cons (.var 0) (.cons (.var 1) (.nil)))) (.nil)))) (.cons (.frr (.nm 3) .rng1 (.cons (.cst (.int 2)) (.nil)) (.cons (.asg (.tp [4, 5, 6]) (.cal 10 (.cons (.var 2) (.nil)))) (.cons (.asg (.nm 7) (.cal 11 (.cons (.pri .len (.cons (.var 4) (.nil))) (.cons (.pri .len (.cons (.var 5) (.nil))) (.nil))))) (.cons (.ite (.or (.not (.cal 15 (.cons (.var 4) (.cons (.var 5) (.cons (.var 6) (.cons (.var 7) (.nil))))))) (.not (.cal 16 (.cons (.var 4) (.cons (.var 5) (.cons (.var 7) (.nil))))))) (.cons (.ret (.cst (.bl false))) (.nil)) (.nil)) (.nil))))) (.nil)))) (.cons (.ret (.cst (.bl true))) (.nil))
def d17 : Def := ⟨1, 8, [], b17⟩
def clsM : Stmt → Stmt
  | .ClassDef _ _ _ body _ _ _ _ _ _ _ => body.getD 0 (.Pass ⟨0, 0, 0, 0⟩)
  | _ => .Pass ⟨0, 0, 0, 0⟩
abbrev sI_ShelvesError : Stmt := clsM (top 1)
theorem scI_ShelvesError : FnScope ["self", "text"] ["self", "text"] (defScope sI_ShelvesError) := ⟨rfl, rfl, rfl, by decide +kernel, rfl, by decide +kernel, by decide +kernel⟩
abbrev sI_NoList : Stmt := clsM (top 3)
theorem scI_NoList : FnScope ["self", "found"] ["self", "found"] (defScope sI_NoList) := ⟨rfl, rfl, rfl, by decide +kernel, rfl, by decide +kernel, by decide +kernel⟩
abbrev sI_NoNumber : Stmt := clsM (top 2)
theorem scI_NoNumber : FnScope ["self", "found"] ["self", "found"] (defScope sI_NoNumber) := ⟨rfl, rfl, rfl, by decide +kernel, rfl, by decide +kernel, by decide +kernel⟩
abbrev sI_NoRoom : Stmt := clsM (top 4)
theorem scI_NoRoom : FnScope ["self", "found"] ["self", "found"] (defScope sI_NoRoom) := ⟨rfl, rfl, rfl, by decide +kernel, rfl, by decide +kernel, by decide +kernel⟩
def D : Nat → Option Def
  | 0 => some d0
  | 1 => some d1
  | 2 => some d2
  | 3 => some d3
  | 4 => some d4
  | 5 => some d5
  | 6 => some d6
  | 7 => some d7
  | 8 => some d8
  | 9 => some d9
  | 10 => some d10
  | 11 => some d11
  | 12 => some d12
  | 13 => some d13
  | 14 => some d14
  | 15 => some d15
  | 16 => some d16
  | 17 => some d17
  | _ => none
def gl : Nat → Option Val
  | 0 => some (.int 60)
  | 1 => some (.int 99)
  | 2 => some (.int 40)
  | 3 => some (.int 999)
  | _ => none
theorem sc0 : FnScope N0 ["thing", "low", "high"] (defScope s0) := ⟨rfl, rfl, rfl, by decide +kernel, rfl, by decide +kernel, by decide +kernel⟩
theorem sc1 : FnScope N1 ["thing", "least", "most", "high"] (defScope s1) := ⟨rfl, rfl, rfl, by decide +kernel, rfl, by decide +kernel, by decide +kernel⟩
theorem sc2 : FnScope N2 ["widths", "lengths", "least"] (defScope s2) := ⟨rfl, rfl, rfl, by decide +kernel, rfl, by decide +kernel, by decide +kernel⟩
theorem sc3 : FnScope N3 ["thing", "high"] (defScope s3) := ⟨rfl, rfl, rfl, by decide +kernel, rfl, by decide +kernel, by decide +kernel⟩
theorem sc4 : FnScope N4 ["widths", "begun", "room"] (defScope s4) := ⟨rfl, rfl, rfl, by decide +kernel, rfl, by decide +kernel, by decide +kernel⟩
theorem sc5 : FnScope N5 ["widths", "lengths", "keep"] (defScope s5) := ⟨rfl, rfl, rfl, by decide +kernel, rfl, by decide +kernel, by decide +kernel⟩
theorem sc6 : FnScope N6 ["widths", "lengths"] (defScope s6) := ⟨rfl, rfl, rfl, by decide +kernel, rfl, by decide +kernel, by decide +kernel⟩
theorem sc7 : FnScope N7 ["script", "k"] (defScope s7) := ⟨rfl, rfl, rfl, by decide +kernel, rfl, by decide +kernel, by decide +kernel⟩
theorem sc8 : FnScope N8 ["cell"] (defScope s8) := ⟨rfl, rfl, rfl, by decide +kernel, rfl, by decide +kernel, by decide +kernel⟩
theorem sc9 : FnScope N9 ["bag", "many"] (defScope s9) := ⟨rfl, rfl, rfl, by decide +kernel, rfl, by decide +kernel, by decide +kernel⟩
theorem sc10 : FnScope N10 ["bag"] (defScope s10) := ⟨rfl, rfl, rfl, by decide +kernel, rfl, by decide +kernel, by decide +kernel⟩
theorem sc11 : FnScope N11 ["many", "shelves"] (defScope s11) := ⟨rfl, rfl, rfl, by decide +kernel, rfl, by decide +kernel, by decide +kernel⟩
theorem sc12 : FnScope N12 ["widths", "lengths", "row"] (defScope s12) := ⟨rfl, rfl, rfl, by decide +kernel, rfl, by decide +kernel, by decide +kernel⟩
theorem sc13 : FnScope N13 ["widths", "lengths", "keep", "row"] (defScope s13) := ⟨rfl, rfl, rfl, by decide +kernel, rfl, by decide +kernel, by decide +kernel⟩
theorem sc14 : FnScope N14 ["widths", "lengths", "row"] (defScope s14) := ⟨rfl, rfl, rfl, by decide +kernel, rfl, by decide +kernel, by decide +kernel⟩
theorem sc15 : FnScope N15 ["widths", "lengths", "keep", "rows"] (defScope s15) := ⟨rfl, rfl, rfl, by decide +kernel, rfl, by decide +kernel, by decide +kernel⟩
theorem sc16 : FnScope N16 ["widths", "lengths", "rows"] (defScope s16) := ⟨rfl, rfl, rfl, by decide +kernel, rfl, by decide +kernel, by decide +kernel⟩
theorem sc17 : FnScope N17 ["script"] (defScope s17) := ⟨rfl, rfl, rfl, by decide +kernel, rfl, by decide +kernel, by decide +kernel⟩
/-- what stands fast for every def -/
structure Tx (P : Program) (w : World) (K : PySem.W.Frag) (mg : Str → Option Value) (base : PySem.Heap) (t : Th) (k : Nat) : Prop where
  sm : ∃ mm, base.Ns sysModules mm
  px : t.ex = none
  r_NoList : CE P w K mg base t "NoList" 0 ["found"]
  r_NoNumber : CE P w K mg base t "NoNumber" 1 ["found"]
  r_NoRoom : CE P w K mg base t "NoRoom" 2 ["found"]
  h_NoRoom : HE K mg t "NoRoom" [2]
  e_NoRoom_found : FE K t [2] "found"
  n_all : mg "all" = none
  n_bool : mg "bool" = none
  n_enumerate : mg "enumerate" = none
  n_int : mg "int" = none
  n_isinstance : mg "isinstance" = none
  n_len : mg "len" = none
  n_list : mg "list" = none
  n_max : mg "max" = none
  n_min : mg "min" = none
  n_range : mg "range" = none
  n_repr : mg "repr" = none
  n_sum : mg "sum" = none
  n_tuple : mg "tuple" = none
  n_zip : mg "zip" = none
  c_MOST_LENGTH : ∃ u, mg "MOST_LENGTH" = some (.int 999 u)
  c_MOST_SHELVES : ∃ u, mg "MOST_SHELVES" = some (.int 40 u)
  c_MOST_THINGS : ∃ u, mg "MOST_THINGS" = some (.int 60 u)
  c_MOST_WIDTH : ∃ u, mg "MOST_WIDTH" = some (.int 99 u)
  f_is_whole : CF P w K mg base t (k + 3) "is_whole" (mOf D gl t.S k d0)
  f_need_list : CF P w K mg base t (k + 3) "need_list" (mOf D gl t.S k d1)
  f_need_both : CFD P w K mg base t (k + 3) "need_both" d2.dflt (mOf D gl t.S k d2)
  f_need_number : CF P w K mg base t (k + 3) "need_number" (mOf D gl t.S k d3)
  f_filled : CF P w K mg base t (k + 3) "filled" (mOf D gl t.S k d4)
  f_cut_fewest : CFD P w K mg base t (k + 3) "cut_fewest" d5.dflt (mOf D gl t.S k d5)
  f_cut_spread : CF P w K mg base t (k + 3) "cut_spread" (mOf D gl t.S k d6)
  f__law_cell : CF P w K mg base t (k + 3) "_law_cell" (mOf D gl t.S k d7)
  f__law_bag : CF P w K mg base t (k + 3) "_law_bag" (mOf D gl t.S k d8)
  f__law_take : CF P w K mg base t (k + 3) "_law_take" (mOf D gl t.S k d9)
  f__law_row : CF P w K mg base t (k + 3) "_law_row" (mOf D gl t.S k d10)
  f__law_cuttings : CF P w K mg base t (k + 3) "_law_cuttings" (mOf D gl t.S k d11)
  f__law_free : CF P w K mg base t (k + 3) "_law_free" (mOf D gl t.S k d12)
  f__law_fits : CF P w K mg base t (k + 3) "_law_fits" (mOf D gl t.S k d13)
  f__law_least : CF P w K mg base t (k + 3) "_law_least" (mOf D gl t.S k d14)
  f__law_fewest_right : CF P w K mg base t (k + 3) "_law_fewest_right" (mOf D gl t.S k d15)
  f__law_spread_right : CF P w K mg base t (k + 3) "_law_spread_right" (mOf D gl t.S k d16)
  f_law : CF P w K mg base t (k + 3) "law" (mOf D gl t.S k d17)
section
variable {P : Program} {w : World} {K : PySem.W.Frag} {mg : Str → Option Value} {base : PySem.Heap} {t : Th} {k : Nat} {f : Addr} {cdv : Value} {A : Around} {outer : List Env} {s : Shared} {H : Hp} {E : XK}
theorem w0 (T : Tx P w K mg base t k) (O : OkC (cxOf (L2.CX P w) P w K mg base N0 "is_whole" (defScope s0) f cdv A outer s H E) t (WE E)) (hr : Room (k + 3) (A.deeper (envOfC "is_whole" (defScope s0) s.heap.objs.size f cdv))) :
    PSs (cxOf (L2.CX P w) P w K mg base N0 "is_whole" (defScope s0) f cdv A outer s H E) (defBody s0) (tS t (WE E) (exes ⟨calls D gl t.S k, gl, t.S, none⟩ b0)) :=
  ss_cons (s_ret (e_and O.ok (e_pri O.ok (cl_isinst O.hK) bt_isinstance T.n_isinstance (a_cons O.ok (e_var O.ok (i := 0)) (a_cons O.ok (e_ty O.ok rfl T.n_int bt_int) (a_nil O.ok)))) (e_and O.ok (e_not O.ok (e_pri O.ok (cl_isinst O.hK) bt_isinstance T.n_isinstance (a_cons O.ok (e_var O.ok (i := 0)) (a_cons O.ok (e_ty O.ok rfl T.n_bool bt_bool) (a_nil O.ok))))) (e_one O.ok (e_chn O.ok (q_le O.ok) (q_le O.ok) (fun _ _ _ => bB rfl) (e_var O.ok (i := 1)) (e_var O.ok (i := 0)) (e_var O.ok (i := 2))))))) (ss_nil)
theorem w1 (T : Tx P w K mg base t k) (O : OkC (cxOf (L2.CX P w) P w K mg base N1 "need_list" (defScope s1) f cdv A outer s H E) t (WE E)) (hr : Room (k + 3) (A.deeper (envOfC "need_list" (defScope s1) s.heap.objs.size f cdv))) :
    PSs (cxOf (L2.CX P w) P w K mg base N1 "need_list" (defScope s1) f cdv A outer s H E) (defBody s1) (tS t (WE E) (exes ⟨calls D gl t.S k, gl, t.S, none⟩ b1)) :=
  ss_cons (s_ite (PW.pt (w_or O.ok (t_not O.ok (t_plain O.ok (e_pri O.ok (cl_isinst O.hK) bt_isinstance T.n_isinstance (a_cons O.ok (e_var O.ok (i := 0)) (a_cons O.ok (e_tup O.ok (a_cons O.ok (e_ty O.ok rfl T.n_list bt_list) (a_cons O.ok (e_ty O.ok rfl T.n_tuple bt_tuple) (a_nil O.ok)))) (a_nil O.ok)))))) (w_or1 O.ok (t_not O.ok (t_chn O.ok (q_le O.ok) (q_le O.ok) (fun _ _ _ => bB rfl) (fun _ _ _ => bB rfl) (e_var O.ok (i := 1)) (e_pri O.ok (cl_len O.hK rfl) bt_len T.n_len (a_cons O.ok (e_var O.ok (i := 0)) (a_nil O.ok))) (e_var O.ok (i := 2))))))) (ss_cons (s_rse O T.r_NoList hr (a_cons O.ok (e_var O.ok (i := 0)) (a_nil O.ok))) (ss_nil)) (ss_nil)) (ss_cons (s_ite (t_not O.ok (t_plain O.ok (e_pri O.ok (cl_all O.hK O.calm) bt_all T.n_all (a_cons O.ok (e_lc O (own := [("one", 4)]) (i_val O (e_var O.ok (i := 0))) (blkOk_by (by first | (show blkC N1 (defScope s1) _ _ = true; decide +kernel) | rfl)) (by decide) (fun _ _ _ _ _ O => g_nm O.ok (j := 4)) (fun _ _ _ _ _ O => c_none) (fun _ _ _ _ _ O => e_cal O.ok (T.f_is_whole.n) hr (a_cons O.ok (e_var O.ok (i := 4)) (a_cons O.ok (e_int O.ok) (a_cons O.ok (e_var O.ok (i := 3)) (a_nil O.ok)))) (calls_eq rfl rfl))) (a_nil O.ok))))) (ss_cons (s_rse O T.r_NoList hr (a_cons O.ok (e_var O.ok (i := 0)) (a_nil O.ok))) (ss_nil)) (ss_nil)) (ss_nil))
theorem w2 (T : Tx P w K mg base t k) (O : OkC (cxOf (L2.CX P w) P w K mg base N2 "need_both" (defScope s2) f cdv A outer s H E) t (WE E)) (hr : Room (k + 3) (A.deeper (envOfC "need_both" (defScope s2) s.heap.objs.size f cdv))) :
    PSs (cxOf (L2.CX P w) P w K mg base N2 "need_both" (defScope s2) f cdv A outer s H E) (defBody s2) (tS t (WE E) (exes ⟨calls D gl t.S k, gl, t.S, none⟩ b2)) :=
  ss_cons (s_exp (e_cal O.ok (T.f_need_list.n) hr (a_cons O.ok (e_var O.ok (i := 0)) (a_cons O.ok (e_int O.ok) (a_cons O.ok (e_glbI O.ok rfl T.c_MOST_THINGS rfl) (a_cons O.ok (e_glbI O.ok rfl T.c_MOST_WIDTH rfl) (a_nil O.ok))))) (calls_eq rfl rfl))) (ss_cons (s_exp (e_cal O.ok (T.f_need_list.n) hr (a_cons O.ok (e_var O.ok (i := 1)) (a_cons O.ok (e_var O.ok (i := 2)) (a_cons O.ok (e_glbI O.ok rfl T.c_MOST_SHELVES rfl) (a_cons O.ok (e_glbI O.ok rfl T.c_MOST_LENGTH rfl) (a_nil O.ok))))) (calls_eq rfl rfl))) (ss_nil))
theorem w3 (T : Tx P w K mg base t k) (O : OkC (cxOf (L2.CX P w) P w K mg base N3 "need_number" (defScope s3) f cdv A outer s H E) t (WE E)) (hr : Room (k + 3) (A.deeper (envOfC "need_number" (defScope s3) s.heap.objs.size f cdv))) :
    PSs (cxOf (L2.CX P w) P w K mg base N3 "need_number" (defScope s3) f cdv A outer s H E) (defBody s3) (tS t (WE E) (exes ⟨calls D gl t.S k, gl, t.S, none⟩ b3)) :=
  ss_cons (s_ite (t_not O.ok (t_plain O.ok (e_cal O.ok (T.f_is_whole.n) hr (a_cons O.ok (e_var O.ok (i := 0)) (a_cons O.ok (e_int O.ok) (a_cons O.ok (e_var O.ok (i := 1)) (a_nil O.ok)))) (calls_eq rfl rfl)))) (ss_cons (s_rse O T.r_NoNumber hr (a_cons O.ok (e_var O.ok (i := 0)) (a_nil O.ok))) (ss_nil)) (ss_nil)) (ss_nil)
theorem w4 (T : Tx P w K mg base t k) (O : OkC (cxOf (L2.CX P w) P w K mg base N4 "filled" (defScope s4) f cdv A outer s H E) t (WE E)) (hr : Room (k + 3) (A.deeper (envOfC "filled" (defScope s4) s.heap.objs.size f cdv))) :
    PSs (cxOf (L2.CX P w) P w K mg base N4 "filled" (defScope s4) f cdv A outer s H E) (defBody s4) (tS t (WE E) (exes ⟨calls D gl t.S k, gl, t.S, none⟩ b4)) :=
  ss_cons (s_asg (e_var O.ok (i := 1)) (g_nm O.ok (j := 3))) (ss_cons (s_asg (e_var O.ok (i := 2)) (g_nm O.ok (j := 4))) (ss_cons (s_whl O.ok (PW.pt (w_and O.ok (t_cmp O.ok (q_lt O.ok) (fun _ _ _ => bB rfl) (e_var O.ok (i := 3)) (e_pri O.ok (cl_len O.hK rfl) bt_len T.n_len (a_cons O.ok (e_var O.ok (i := 0)) (a_nil O.ok))) (nomark _)) (w_and1 O.ok (t_cmp O.ok (q_le O.ok) (fun _ _ _ => bB rfl) (e_idx O.ok rfl (e_var O.ok (i := 0)) (e_var O.ok (i := 3))) (e_var O.ok (i := 4)) (nomark _))))) (ss_cons (s_aug (j := 4) O (ip_V (.inr ⟨rfl, rfl⟩)) (e_idx O.ok rfl (e_var O.ok (i := 0)) (e_var O.ok (i := 3)))) (ss_cons (s_aug (j := 3) O (ip_V (.inl ⟨rfl, rfl⟩)) (e_int O.ok)) (ss_nil)))) (ss_cons (s_ret (e_var O.ok (i := 3))) (ss_nil))))
theorem w5 (T : Tx P w K mg base t k) (O : OkC (cxOf (L2.CX P w) P w K mg base N5 "cut_fewest" (defScope s5) f cdv A outer s H E) t (WE E)) (hr : Room (k + 3) (A.deeper (envOfC "cut_fewest" (defScope s5) s.heap.objs.size f cdv))) :
    PSs (cxOf (L2.CX P w) P w K mg base N5 "cut_fewest" (defScope s5) f cdv A outer s H E) (defBody s5) (tS t (WE E) (exes ⟨calls D gl t.S k, gl, t.S, none⟩ b5)) :=
  ss_cons (s_exp (e_cal O.ok (T.f_need_both.n 0 (by decide)) hr (a_cons O.ok (e_var O.ok (i := 0)) (a_cons O.ok (e_var O.ok (i := 1)) (a_nil O.ok))) (calls_eq rfl rfl))) (ss_cons (s_exp (e_cal O.ok (T.f_need_number.n) hr (a_cons O.ok (e_var O.ok (i := 2)) (a_cons O.ok (e_glbI O.ok rfl T.c_MOST_LENGTH rfl) (a_nil O.ok))) (calls_eq rfl rfl))) (ss_cons (s_asg (e_lst O.ok (a_nil O.ok)) (g_nm O.ok (j := 3))) (ss_cons (s_asg (e_int O.ok) (g_nm O.ok (j := 4))) (ss_cons (s_frr O (i_val O (e_var O.ok (i := 1))) (g_nm O.ok (j := 5)) (ss_cons (s_ite (t_cmp O.ok (q_lt O.ok) (fun _ _ _ => bB rfl) (e_var O.ok (i := 4)) (e_pri O.ok (cl_len O.hK rfl) bt_len T.n_len (a_cons O.ok (e_var O.ok (i := 0)) (a_nil O.ok))) (nomark _)) (ss_cons (s_asg (e_cal O.ok (T.f_filled.n) hr (a_cons O.ok (e_var O.ok (i := 0)) (a_cons O.ok (e_var O.ok (i := 4)) (a_cons O.ok (e_bin O.ok (q_sub O.ok) (e_var O.ok (i := 5)) (e_var O.ok (i := 2))) (a_nil O.ok)))) (calls_eq rfl rfl)) (g_nm O.ok (j := 4))) (ss_cons (s_exp (e_met O.ok PySem.F.plainAttrs_list PySem.F.slot_list_append PySem.F.type_list_append mt_append' (e_var O.ok (i := 3)) (a_cons O.ok (e_var O.ok (i := 4)) (a_nil O.ok)))) (ss_nil))) (ss_nil)) (ss_nil))) (ss_cons (s_ite (t_cmp O.ok (q_eq O.ok) (fun _ _ _ => bB rfl) (e_var O.ok (i := 4)) (e_pri O.ok (cl_len O.hK rfl) bt_len T.n_len (a_cons O.ok (e_var O.ok (i := 0)) (a_nil O.ok))) (nomark _)) (ss_cons (s_ret (e_tup O.ok (a_cons O.ok (e_str O.ok) (a_cons O.ok (e_var O.ok (i := 3)) (a_nil O.ok))))) (ss_nil)) (ss_nil)) (ss_cons (s_ret (e_tup O.ok (a_cons O.ok (e_str O.ok) (a_cons O.ok (e_var O.ok (i := 3)) (a_nil O.ok))))) (ss_nil)))))))
theorem w6 (T : Tx P w K mg base t k) (O : OkC (cxOf (L2.CX P w) P w K mg base N6 "cut_spread" (defScope s6) f cdv A outer s H E) t (WE E)) (hr : Room (k + 3) (A.deeper (envOfC "cut_spread" (defScope s6) s.heap.objs.size f cdv))) :
    PSs (cxOf (L2.CX P w) P w K mg base N6 "cut_spread" (defScope s6) f cdv A outer s H E) (defBody s6) (tS t (WE E) (exes ⟨calls D gl t.S k, gl, t.S, none⟩ b6)) :=
  ss_cons (s_exp (e_cal O.ok (T.f_need_both.n 1 (by decide)) hr (a_cons O.ok (e_var O.ok (i := 0)) (a_cons O.ok (e_var O.ok (i := 1)) (a_cons O.ok (e_int O.ok) (a_nil O.ok)))) (calls_eq rfl rfl))) (ss_cons (s_asg (e_cal O.ok (T.f_cut_fewest.n 0 (by decide)) hr (a_cons O.ok (e_var O.ok (i := 0)) (a_cons O.ok (e_var O.ok (i := 1)) (a_nil O.ok))) (calls_eq rfl rfl)) (g_tp O (gs_cons O.ok (j := 2) (gs_cons O.ok (j := 3) (gs_nil))))) (ss_cons (s_ite (t_cmp O.ok (q_eq O.ok) (fun _ _ _ => bB rfl) (e_var O.ok (i := 2)) (e_str O.ok) (nomark _)) (ss_cons (s_rse O T.r_NoRoom hr (a_cons O.ok (e_idx O.ok rfl (e_var O.ok (i := 3)) (e_neg O.ok (e_int O.ok))) (a_nil O.ok))) (ss_nil)) (ss_nil)) (ss_cons (s_asg (e_int O.ok) (g_nm O.ok (j := 4))) (ss_cons (s_asg (e_bin O.ok (q_add O.ok) (e_pri O.ok (cl_min O.hK O.calm O.hu) bt_min T.n_min (a_cons O.ok (e_var O.ok (i := 1)) (a_nil O.ok))) (e_int O.ok)) (g_nm O.ok (j := 5))) (ss_cons (s_whl O.ok (t_cmp O.ok (q_gt O.ok) (fun _ _ _ => bB rfl) (e_bin O.ok (q_sub O.ok) (e_var O.ok (i := 5)) (e_var O.ok (i := 4))) (e_int O.ok) (nomark _)) (ss_cons (s_asg (e_bin O.ok (q_fdiv O.ok) (e_bin O.ok (q_add O.ok) (e_var O.ok (i := 4)) (e_var O.ok (i := 5))) (e_int O.ok)) (g_nm O.ok (j := 6))) (ss_cons (s_ite (t_cmp O.ok (q_eq O.ok) (fun _ _ _ => bB rfl) (e_idx O.ok rfl (e_cal O.ok (T.f_cut_fewest.n 1 (by decide)) hr (a_cons O.ok (e_var O.ok (i := 0)) (a_cons O.ok (e_var O.ok (i := 1)) (a_cons O.ok (e_var O.ok (i := 6)) (a_nil O.ok)))) (calls_eq rfl rfl)) (e_int O.ok)) (e_str O.ok) (nomark _)) (ss_cons (s_asg (e_var O.ok (i := 6)) (g_nm O.ok (j := 4))) (ss_nil)) (ss_cons (s_asg (e_var O.ok (i := 6)) (g_nm O.ok (j := 5))) (ss_nil))) (ss_nil)))) (ss_cons (s_asg (e_idx O.ok rfl (e_cal O.ok (T.f_cut_fewest.n 1 (by decide)) hr (a_cons O.ok (e_var O.ok (i := 0)) (a_cons O.ok (e_var O.ok (i := 1)) (a_cons O.ok (e_var O.ok (i := 4)) (a_nil O.ok)))) (calls_eq rfl rfl)) (e_int O.ok)) (g_nm O.ok (j := 3))) (ss_cons (s_exp (e_met O.ok PySem.F.plainAttrs_list PySem.F.slot_list_extend PySem.F.type_list_extend mt_extend' (e_var O.ok (i := 3)) (a_cons O.ok (e_bin O.ok (q_mul O.ok) (e_lst O.ok (a_cons O.ok (e_pri O.ok (cl_len O.hK rfl) bt_len T.n_len (a_cons O.ok (e_var O.ok (i := 0)) (a_nil O.ok))) (a_nil O.ok))) (e_bin O.ok (q_sub O.ok) (e_pri O.ok (cl_len O.hK rfl) bt_len T.n_len (a_cons O.ok (e_var O.ok (i := 1)) (a_nil O.ok))) (e_pri O.ok (cl_len O.hK rfl) bt_len T.n_len (a_cons O.ok (e_var O.ok (i := 3)) (a_nil O.ok))))) (a_nil O.ok)))) (ss_cons (s_ite (t_cmp O.ok (q_eq O.ok) (fun _ _ _ => bB rfl) (e_var O.ok (i := 4)) (e_pri O.ok (cl_min O.hK O.calm O.hu) bt_min T.n_min (a_cons O.ok (e_var O.ok (i := 1)) (a_nil O.ok))) (nomark _)) (ss_cons (s_ret (e_tup O.ok (a_cons O.ok (e_var O.ok (i := 4)) (a_cons O.ok (e_var O.ok (i := 3)) (a_cons O.ok (e_non O.ok) (a_nil O.ok)))))) (ss_nil)) (ss_nil)) (ss_cons (s_ret (e_tup O.ok (a_cons O.ok (e_var O.ok (i := 4)) (a_cons O.ok (e_var O.ok (i := 3)) (a_cons O.ok (e_idx O.ok rfl (e_cal O.ok (T.f_cut_fewest.n 1 (by decide)) hr (a_cons O.ok (e_var O.ok (i := 0)) (a_cons O.ok (e_var O.ok (i := 1)) (a_cons O.ok (e_var O.ok (i := 5)) (a_nil O.ok)))) (calls_eq rfl rfl)) (e_int O.ok)) (a_nil O.ok)))))) (ss_nil))))))))))
theorem w7 (T : Tx P w K mg base t k) (O : OkC (cxOf (L2.CX P w) P w K mg base N7 "_law_cell" (defScope s7) f cdv A outer s H E) t (WE E)) (hr : Room (k + 3) (A.deeper (envOfC "_law_cell" (defScope s7) s.heap.objs.size f cdv))) :
    PSs (cxOf (L2.CX P w) P w K mg base N7 "_law_cell" (defScope s7) f cdv A outer s H E) (defBody s7) (tS t (WE E) (exes ⟨calls D gl t.S k, gl, t.S, none⟩ b7)) :=
  ss_cons (s_ite (t_cmp O.ok (q_lt O.ok) (fun _ _ _ => bB rfl) (e_var O.ok (i := 1)) (e_pri O.ok (cl_len O.hK rfl) bt_len T.n_len (a_cons O.ok (e_var O.ok (i := 0)) (a_nil O.ok))) (nomark _)) (ss_cons (s_ret (e_idx O.ok rfl (e_var O.ok (i := 0)) (e_var O.ok (i := 1)))) (ss_nil)) (ss_nil)) (ss_cons (s_ret (e_bin O.ok (q_add O.ok) (e_bin O.ok (q_mul O.ok) (e_int O.ok) (e_var O.ok (i := 1))) (e_int O.ok))) (ss_nil))
theorem w8 (T : Tx P w K mg base t k) (O : OkC (cxOf (L2.CX P w) P w K mg base N8 "_law_bag" (defScope s8) f cdv A outer s H E) t (WE E)) (hr : Room (k + 3) (A.deeper (envOfC "_law_bag" (defScope s8) s.heap.objs.size f cdv))) :
    PSs (cxOf (L2.CX P w) P w K mg base N8 "_law_bag" (defScope s8) f cdv A outer s H E) (defBody s8) (tS t (WE E) (exes ⟨calls D gl t.S k, gl, t.S, none⟩ b8)) :=
  ss_cons (s_ret (e_lst O.ok (a_cons O.ok (e_pri O.ok (cl_max O.hK O.calm O.hu) bt_max T.n_max (a_cons O.ok (e_int O.ok) (a_cons O.ok (e_bin O.ok (q_sub O.ok) (e_var O.ok (i := 0)) (e_bin O.ok (q_pow O.ok) (e_int O.ok) (e_int O.ok))) (a_nil O.ok)))) (a_cons O.ok (e_bin O.ok (q_mod O.ok) (e_var O.ok (i := 0)) (e_int O.ok)) (a_cons O.ok (e_int O.ok) (a_nil O.ok)))))) (ss_nil)
theorem w9 (T : Tx P w K mg base t k) (O : OkC (cxOf (L2.CX P w) P w K mg base N9 "_law_take" (defScope s9) f cdv A outer s H E) t (WE E)) (hr : Room (k + 3) (A.deeper (envOfC "_law_take" (defScope s9) s.heap.objs.size f cdv))) :
    PSs (cxOf (L2.CX P w) P w K mg base N9 "_law_take" (defScope s9) f cdv A outer s H E) (defBody s9) (tS t (WE E) (exes ⟨calls D gl t.S k, gl, t.S, none⟩ b9)) :=
  ss_cons (s_ite (t_cmp O.ok (q_gt O.ok) (fun _ _ _ => bB rfl) (e_idx O.ok rfl (e_var O.ok (i := 0)) (e_int O.ok)) (e_int O.ok) (nomark _)) (ss_cons (s_asg (e_bin O.ok (q_mod O.ok) (e_idx O.ok rfl (e_var O.ok (i := 0)) (e_int O.ok)) (e_var O.ok (i := 1))) (g_nm O.ok (j := 2))) (ss_cons (s_sti O.ok (e_var O.ok (i := 0)) (e_int O.ok) (e_bin O.ok (q_fdiv O.ok) (e_idx O.ok rfl (e_var O.ok (i := 0)) (e_int O.ok)) (e_var O.ok (i := 1)))) (ss_cons (s_ret (e_var O.ok (i := 2))) (ss_nil)))) (ss_nil)) (ss_cons (s_sti O.ok (e_var O.ok (i := 0)) (e_int O.ok) (e_bin O.ok (q_add O.ok) (e_idx O.ok rfl (e_var O.ok (i := 0)) (e_int O.ok)) (e_int O.ok))) (ss_cons (s_asg (e_bin O.ok (q_mod O.ok) (e_bin O.ok (q_pow O.ok) (e_bin O.ok (q_add O.ok) (e_bin O.ok (q_add O.ok) (e_idx O.ok rfl (e_var O.ok (i := 0)) (e_int O.ok)) (e_bin O.ok (q_mul O.ok) (e_int O.ok) (e_idx O.ok rfl (e_var O.ok (i := 0)) (e_int O.ok)))) (e_int O.ok)) (e_int O.ok)) (e_int O.ok)) (g_nm O.ok (j := 3))) (ss_cons (s_asg (e_bin O.ok (q_mod O.ok) (e_bin O.ok (q_pow O.ok) (e_bin O.ok (q_add O.ok) (e_var O.ok (i := 3)) (e_bin O.ok (q_mul O.ok) (e_int O.ok) (e_idx O.ok rfl (e_var O.ok (i := 0)) (e_int O.ok)))) (e_int O.ok)) (e_int O.ok)) (g_nm O.ok (j := 3))) (ss_cons (s_ret (e_bin O.ok (q_mod O.ok) (e_bin O.ok (q_fdiv O.ok) (e_var O.ok (i := 3)) (e_int O.ok)) (e_var O.ok (i := 1)))) (ss_nil)))))
theorem w10 (T : Tx P w K mg base t k) (O : OkC (cxOf (L2.CX P w) P w K mg base N10 "_law_row" (defScope s10) f cdv A outer s H E) t (WE E)) (hr : Room (k + 3) (A.deeper (envOfC "_law_row" (defScope s10) s.heap.objs.size f cdv))) :
    PSs (cxOf (L2.CX P w) P w K mg base N10 "_law_row" (defScope s10) f cdv A outer s H E) (defBody s10) (tS t (WE E) (exes ⟨calls D gl t.S k, gl, t.S, none⟩ b10)) :=
  ss_cons (s_asg (e_idx O.ok rfl (e_lst O.ok (a_cons O.ok (e_int O.ok) (a_cons O.ok (e_int O.ok) (a_cons O.ok (e_int O.ok) (a_cons O.ok (e_int O.ok) (a_cons O.ok (e_int O.ok) (a_nil O.ok))))))) (e_cal O.ok (T.f__law_take.n) hr (a_cons O.ok (e_var O.ok (i := 0)) (a_cons O.ok (e_int O.ok) (a_nil O.ok))) (calls_eq rfl rfl))) (g_nm O.ok (j := 1))) (ss_cons (s_asg (e_cal O.ok (T.f__law_take.n) hr (a_cons O.ok (e_var O.ok (i := 0)) (a_cons O.ok (e_int O.ok) (a_nil O.ok))) (calls_eq rfl rfl)) (g_nm O.ok (j := 2))) (ss_cons (s_asg (e_bin O.ok (q_add O.ok) (e_int O.ok) (e_cal O.ok (T.f__law_take.n) hr (a_cons O.ok (e_var O.ok (i := 0)) (a_cons O.ok (e_int O.ok) (a_nil O.ok))) (calls_eq rfl rfl))) (g_nm O.ok (j := 3))) (ss_cons (s_asgLc (j := 4) O (own := [("k", 5)]) (i_rng1 T.n_range (a_cons O.ok (e_cal O.ok (T.f__law_take.n) hr (a_cons O.ok (e_var O.ok (i := 0)) (a_cons O.ok (e_int O.ok) (a_nil O.ok))) (calls_eq rfl rfl)) (a_nil O.ok))) (blkOk_by (by first | (show blkC N10 (defScope s10) _ _ = true; decide +kernel) | rfl)) (by decide) (fun _ _ _ _ _ O => g_nm O.ok (j := 5)) (fun _ _ _ _ _ O => c_none) (fun _ _ _ _ _ O => e_bin O.ok (q_add O.ok) (e_idx O.ok rfl (e_lst O.ok (a_cons O.ok (e_int O.ok) (a_cons O.ok (e_int O.ok) (a_cons O.ok (e_int O.ok) (a_nil O.ok))))) (e_var O.ok (i := 2))) (e_cal O.ok (T.f__law_take.n) hr (a_cons O.ok (e_var O.ok (i := 0)) (a_cons O.ok (e_idx O.ok rfl (e_lst O.ok (a_cons O.ok (e_int O.ok) (a_cons O.ok (e_int O.ok) (a_cons O.ok (e_int O.ok) (a_nil O.ok))))) (e_var O.ok (i := 2))) (a_nil O.ok))) (calls_eq rfl rfl))) (sw_true rfl rfl rfl (by decide +kernel))) (ss_cons (s_asg (e_lst O.ok (a_nil O.ok)) (g_nm O.ok (j := 6))) (ss_cons (s_frr O (i_rng1 T.n_range (a_cons O.ok (e_var O.ok (i := 3)) (a_nil O.ok))) (g_nm O.ok (j := 5)) (ss_cons (s_asg (e_cal O.ok (T.f__law_take.n) hr (a_cons O.ok (e_var O.ok (i := 0)) (a_cons O.ok (e_bin O.ok (q_add O.ok) (e_pri O.ok (cl_len O.hK rfl) bt_len T.n_len (a_cons O.ok (e_var O.ok (i := 4)) (a_nil O.ok))) (e_int O.ok)) (a_nil O.ok))) (calls_eq rfl rfl)) (g_nm O.ok (j := 7))) (ss_cons (s_asg (e_bin O.ok (q_add O.ok) (e_var O.ok (i := 7)) (e_cal O.ok (T.f__law_take.n) hr (a_cons O.ok (e_var O.ok (i := 0)) (a_cons O.ok (e_int O.ok) (a_nil O.ok))) (calls_eq rfl rfl))) (g_nm O.ok (j := 8))) (ss_cons (s_asg (e_bin O.ok (q_sub O.ok) (e_bin O.ok (q_add O.ok) (e_bin O.ok (q_add O.ok) (e_var O.ok (i := 1)) (e_pri O.ok (cl_sum O.hK O.calm) bt_sum T.n_sum (a_cons O.ok (e_slc O.ok (e_var O.ok (i := 4)) (o_some O.ok (e_var O.ok (i := 7))) (o_some O.ok (e_var O.ok (i := 8)))) (a_nil O.ok)))) (e_cal O.ok (T.f__law_take.n) hr (a_cons O.ok (e_var O.ok (i := 0)) (a_cons O.ok (e_int O.ok) (a_nil O.ok))) (calls_eq rfl rfl))) (e_int O.ok)) (g_nm O.ok (j := 9))) (ss_cons (s_ite (t_cmp O.ok (q_eq O.ok) (fun _ _ _ => bB rfl) (e_cal O.ok (T.f__law_take.n) hr (a_cons O.ok (e_var O.ok (i := 0)) (a_cons O.ok (e_int O.ok) (a_nil O.ok))) (calls_eq rfl rfl)) (e_int O.ok) (nomark _)) (ss_cons (s_asg (e_bin O.ok (q_add O.ok) (e_int O.ok) (e_cal O.ok (T.f__law_take.n) hr (a_cons O.ok (e_var O.ok (i := 0)) (a_cons O.ok (e_int O.ok) (a_nil O.ok))) (calls_eq rfl rfl))) (g_nm O.ok (j := 9))) (ss_nil)) (ss_nil)) (ss_cons (s_exp (e_met O.ok PySem.F.plainAttrs_list PySem.F.slot_list_append PySem.F.type_list_append mt_append' (e_var O.ok (i := 6)) (a_cons O.ok (e_pri O.ok (cl_max O.hK O.calm O.hu) bt_max T.n_max (a_cons O.ok (e_int O.ok) (a_cons O.ok (e_var O.ok (i := 9)) (a_nil O.ok)))) (a_nil O.ok)))) (ss_nil))))))) (ss_cons (s_ret (e_lst O.ok (a_cons O.ok (e_var O.ok (i := 4)) (a_cons O.ok (e_var O.ok (i := 6)) (a_cons O.ok (e_var O.ok (i := 1)) (a_nil O.ok)))))) (ss_nil)))))))
theorem w11 (T : Tx P w K mg base t k) (O : OkC (cxOf (L2.CX P w) P w K mg base N11 "_law_cuttings" (defScope s11) f cdv A outer s H E) t (WE E)) (hr : Room (k + 3) (A.deeper (envOfC "_law_cuttings" (defScope s11) s.heap.objs.size f cdv))) :
    PSs (cxOf (L2.CX P w) P w K mg base N11 "_law_cuttings" (defScope s11) f cdv A outer s H E) (defBody s11) (tS t (WE E) (exes ⟨calls D gl t.S k, gl, t.S, none⟩ b11)) :=
  ss_cons (s_asg (e_lst O.ok (a_cons O.ok (e_lst O.ok (a_nil O.ok)) (a_nil O.ok))) (g_nm O.ok (j := 2))) (ss_cons (s_frr O (i_rng1 T.n_range (a_cons O.ok (e_var O.ok (i := 1)) (a_nil O.ok))) (g_nm O.ok (j := 3)) (ss_cons (s_asg (e_lst O.ok (a_nil O.ok)) (g_nm O.ok (j := 4))) (ss_cons (s_frr O (i_val O (e_var O.ok (i := 2))) (g_nm O.ok (j := 5)) (ss_cons (s_asg (e_idx O.ok rfl (e_or O.ok (e_var O.ok (i := 5)) (e_one O.ok (e_lst O.ok (a_cons O.ok (e_int O.ok) (a_nil O.ok))))) (e_neg O.ok (e_int O.ok))) (g_nm O.ok (j := 6))) (ss_cons (s_exp (e_met O.ok PySem.F.plainAttrs_list PySem.F.slot_list_extend PySem.F.type_list_extend mt_extend' (e_var O.ok (i := 4)) (a_cons O.ok (e_lc O (own := [("end", 7)]) (i_rng2 T.n_range (a_cons O.ok (e_var O.ok (i := 6)) (a_cons O.ok (e_bin O.ok (q_add O.ok) (e_var O.ok (i := 0)) (e_int O.ok)) (a_nil O.ok)))) (blkOk_by (by first | (show blkC N11 (defScope s11) _ _ = true; decide +kernel) | rfl)) (by decide) (fun _ _ _ _ _ O => g_nm O.ok (j := 7)) (fun _ _ _ _ _ O => c_none) (fun _ _ _ _ _ O => e_bin O.ok (q_add O.ok) (e_var O.ok (i := 5)) (e_lst O.ok (a_cons O.ok (e_var O.ok (i := 7)) (a_nil O.ok))))) (a_nil O.ok)))) (ss_nil)))) (ss_cons (s_asg (e_var O.ok (i := 4)) (g_nm O.ok (j := 2))) (ss_nil))))) (ss_cons (s_ret (e_var O.ok (i := 2))) (ss_nil)))
theorem w12 (T : Tx P w K mg base t k) (O : OkC (cxOf (L2.CX P w) P w K mg base N12 "_law_free" (defScope s12) f cdv A outer s H E) t (WE E)) (hr : Room (k + 3) (A.deeper (envOfC "_law_free" (defScope s12) s.heap.objs.size f cdv))) :
    PSs (cxOf (L2.CX P w) P w K mg base N12 "_law_free" (defScope s12) f cdv A outer s H E) (defBody s12) (tS t (WE E) (exes ⟨calls D gl t.S k, gl, t.S, none⟩ b12)) :=
  ss_cons (s_asg (e_lst O.ok (a_nil O.ok)) (g_nm O.ok (j := 3))) (ss_cons (s_asg (e_int O.ok) (g_nm O.ok (j := 4))) (ss_cons (s_frr O (i_zip O T.n_zip (a_cons O.ok (e_var O.ok (i := 1)) (a_cons O.ok (e_var O.ok (i := 2)) (a_nil O.ok)))) (g_tp O (gs_cons O.ok (j := 5) (gs_cons O.ok (j := 6) (gs_nil)))) (ss_cons (s_exp (e_met O.ok PySem.F.plainAttrs_list PySem.F.slot_list_append PySem.F.type_list_append mt_append' (e_var O.ok (i := 3)) (a_cons O.ok (e_ite O.ok (t_cmp O.ok (q_gt O.ok) (fun _ _ _ => bB rfl) (e_var O.ok (i := 6)) (e_var O.ok (i := 4)) (nomark _)) (e_bin O.ok (q_sub O.ok) (e_var O.ok (i := 5)) (e_pri O.ok (cl_sum O.hK O.calm) bt_sum T.n_sum (a_cons O.ok (e_slc O.ok (e_var O.ok (i := 0)) (o_some O.ok (e_var O.ok (i := 4))) (o_some O.ok (e_var O.ok (i := 6)))) (a_nil O.ok)))) (e_non O.ok)) (a_nil O.ok)))) (ss_cons (s_asg (e_var O.ok (i := 6)) (g_nm O.ok (j := 4))) (ss_nil)))) (ss_cons (s_ret (e_var O.ok (i := 3))) (ss_nil))))
theorem w13 (T : Tx P w K mg base t k) (O : OkC (cxOf (L2.CX P w) P w K mg base N13 "_law_fits" (defScope s13) f cdv A outer s H E) t (WE E)) (hr : Room (k + 3) (A.deeper (envOfC "_law_fits" (defScope s13) s.heap.objs.size f cdv))) :
    PSs (cxOf (L2.CX P w) P w K mg base N13 "_law_fits" (defScope s13) f cdv A outer s H E) (defBody s13) (tS t (WE E) (exes ⟨calls D gl t.S k, gl, t.S, none⟩ b13)) :=
  ss_cons (s_ret (e_cmp O.ok (q_eq O.ok) (e_lc O (own := [("free", 4)]) (i_val O (e_cal O.ok (T.f__law_free.n) hr (a_cons O.ok (e_var O.ok (i := 0)) (a_cons O.ok (e_var O.ok (i := 1)) (a_cons O.ok (e_var O.ok (i := 3)) (a_nil O.ok)))) (calls_eq rfl rfl))) (blkOk_by (by first | (show blkC N13 (defScope s13) _ _ = true; decide +kernel) | rfl)) (by decide) (fun _ _ _ _ _ O => g_nm O.ok (j := 4)) (fun _ _ _ _ _ O => c_some (PW.pt (w_and O.ok (t_cmp O.ok (q_isnot O.ok) (fun _ _ _ => bB rfl) (e_var O.ok (i := 4)) (e_non O.ok) (nomark _)) (w_and1 O.ok (t_cmp O.ok (q_lt O.ok) (fun _ _ _ => bB rfl) (e_var O.ok (i := 4)) (e_var O.ok (i := 2)) (nomark _)))))) (fun _ _ _ _ _ O => e_var O.ok (i := 4))) (e_lst O.ok (a_nil O.ok)) (nomark _))) (ss_nil)
theorem w14 (T : Tx P w K mg base t k) (O : OkC (cxOf (L2.CX P w) P w K mg base N14 "_law_least" (defScope s14) f cdv A outer s H E) t (WE E)) (hr : Room (k + 3) (A.deeper (envOfC "_law_least" (defScope s14) s.heap.objs.size f cdv))) :
    PSs (cxOf (L2.CX P w) P w K mg base N14 "_law_least" (defScope s14) f cdv A outer s H E) (defBody s14) (tS t (WE E) (exes ⟨calls D gl t.S k, gl, t.S, none⟩ b14)) :=
  ss_cons (s_asg (e_cal O.ok (T.f__law_free.n) hr (a_cons O.ok (e_var O.ok (i := 0)) (a_cons O.ok (e_var O.ok (i := 1)) (a_cons O.ok (e_var O.ok (i := 2)) (a_nil O.ok)))) (calls_eq rfl rfl)) (g_nm O.ok (j := 3))) (ss_cons (s_ret (e_pri O.ok (cl_min O.hK O.calm O.hu) bt_min T.n_min (a_cons O.ok (e_lc O (own := [("free", 4), ("length", 5)]) (i_zip O T.n_zip (a_cons O.ok (e_var O.ok (i := 3)) (a_cons O.ok (e_var O.ok (i := 1)) (a_nil O.ok)))) (blkOk_by (by first | (show blkC N14 (defScope s14) _ _ = true; decide +kernel) | rfl)) (by decide) (fun _ _ _ _ _ O => g_tp O (gs_cons O.ok (j := 4) (gs_cons O.ok (j := 5) (gs_nil)))) (fun _ _ _ _ _ O => c_none) (fun _ _ _ _ _ O => e_ite O.ok (t_cmp O.ok (q_is O.ok) (fun _ _ _ => bB rfl) (e_var O.ok (i := 4)) (e_non O.ok) (nomark _)) (e_var O.ok (i := 5)) (e_var O.ok (i := 4)))) (a_nil O.ok)))) (ss_nil))
theorem w15 (T : Tx P w K mg base t k) (O : OkC (cxOf (L2.CX P w) P w K mg base N15 "_law_fewest_right" (defScope s15) f cdv A outer s H E) t (WE E)) (hr : Room (k + 3) (A.deeper (envOfC "_law_fewest_right" (defScope s15) s.heap.objs.size f cdv))) :
    PSs (cxOf (L2.CX P w) P w K mg base N15 "_law_fewest_right" (defScope s15) f cdv A outer s H E) (defBody s15) (tS t (WE E) (exes ⟨calls D gl t.S k, gl, t.S, none⟩ b15)) :=
  ss_cons (s_asg (e_cal O.ok (T.f_cut_fewest.n 1 (by decide)) hr (a_cons O.ok (e_var O.ok (i := 0)) (a_cons O.ok (e_var O.ok (i := 1)) (a_cons O.ok (e_var O.ok (i := 2)) (a_nil O.ok)))) (calls_eq rfl rfl)) (g_tp O (gs_cons O.ok (j := 4) (gs_cons O.ok (j := 5) (gs_nil))))) (ss_cons (s_asg (e_pri O.ok (cl_len O.hK rfl) bt_len T.n_len (a_cons O.ok (e_var O.ok (i := 0)) (a_nil O.ok))) (g_nm O.ok (j := 6))) (ss_cons (s_asg (e_bin O.ok (q_add O.ok) (e_var O.ok (i := 5)) (e_bin O.ok (q_mul O.ok) (e_lst O.ok (a_cons O.ok (e_var O.ok (i := 6)) (a_nil O.ok))) (e_bin O.ok (q_sub O.ok) (e_pri O.ok (cl_len O.hK rfl) bt_len T.n_len (a_cons O.ok (e_var O.ok (i := 1)) (a_nil O.ok))) (e_pri O.ok (cl_len O.hK rfl) bt_len T.n_len (a_cons O.ok (e_var O.ok (i := 5)) (a_nil O.ok)))))) (g_nm O.ok (j := 7))) (ss_cons (s_asgLc (j := 8) O (own := [("row", 9)]) (i_val O (e_var O.ok (i := 3))) (blkOk_by (by first | (show blkC N15 (defScope s15) _ _ = true; decide +kernel) | rfl)) (by decide) (fun _ _ _ _ _ O => g_nm O.ok (j := 9)) (fun _ _ _ _ _ O => c_some (t_plain O.ok (e_cal O.ok (T.f__law_fits.n) hr (a_cons O.ok (e_var O.ok (i := 0)) (a_cons O.ok (e_var O.ok (i := 1)) (a_cons O.ok (e_var O.ok (i := 2)) (a_cons O.ok (e_var O.ok (i := 9)) (a_nil O.ok))))) (calls_eq rfl rfl)))) (fun _ _ _ _ _ O => e_var O.ok (i := 9)) (sw_true rfl rfl rfl (by decide +kernel))) (ss_cons (s_asgLc (j := 10) O (own := [("row", 9)]) (i_val O (e_var O.ok (i := 8))) (blkOk_by (by first | (show blkC N15 (defScope s15) _ _ = true; decide +kernel) | rfl)) (by decide) (fun _ _ _ _ _ O => g_nm O.ok (j := 9)) (fun _ _ _ _ _ O => c_some (t_cmp O.ok (q_ne O.ok) (fun _ _ _ => bB rfl) (e_lc O (own := [("k", 11), ("end", 12)]) (i_enum O T.n_enumerate (a_cons O.ok (e_var O.ok (i := 9)) (a_nil O.ok))) (blkOk_by (by first | (show blkC N15 (defScope s15) _ _ = true; decide +kernel) | rfl)) (by decide) (fun _ _ _ _ _ O => g_tp O (gs_cons O.ok (j := 11) (gs_cons O.ok (j := 12) (gs_nil)))) (fun _ _ _ _ _ O => c_some (t_cmp O.ok (q_gt O.ok) (fun _ _ _ => bB rfl) (e_var O.ok (i := 12)) (e_idx O.ok rfl (e_var O.ok (i := 7)) (e_var O.ok (i := 11))) (nomark _))) (fun _ _ _ _ _ O => e_var O.ok (i := 11))) (e_lst O.ok (a_nil O.ok)) (nomark _))) (fun _ _ _ _ _ O => e_var O.ok (i := 9)) (sw_true rfl rfl rfl (by decide +kernel))) (ss_cons (s_asgLc (j := 13) O (own := [("row", 9)]) (i_val O (e_var O.ok (i := 8))) (blkOk_by (by first | (show blkC N15 (defScope s15) _ _ = true; decide +kernel) | rfl)) (by decide) (fun _ _ _ _ _ O => g_nm O.ok (j := 9)) (fun _ _ _ _ _ O => c_some (t_cmp O.ok (q_eq O.ok) (fun _ _ _ => bB rfl) (e_idx O.ok rfl (e_var O.ok (i := 9)) (e_neg O.ok (e_int O.ok))) (e_var O.ok (i := 6)) (nomark _))) (fun _ _ _ _ _ O => e_var O.ok (i := 9)) (sw_true rfl rfl rfl (by decide +kernel))) (ss_cons (s_ite (PW.pt (w_or O.ok (t_cmp O.ok (q_notin O.ok) (fun _ _ _ => bB rfl) (e_var O.ok (i := 7)) (e_var O.ok (i := 8)) (by rfl)) (w_or1 O.ok (t_cmp O.ok (q_ne O.ok) (fun _ _ _ => bB rfl) (e_var O.ok (i := 10)) (e_lst O.ok (a_nil O.ok)) (nomark _))))) (ss_cons (s_ret (e_bl O.ok)) (ss_nil)) (ss_nil)) (ss_cons (s_ite (PW.pt (w_or O.ok (t_cmp O.ok (q_notin O.ok) (fun _ _ _ => bB rfl) (e_var O.ok (i := 4)) (e_tup O.ok (a_cons O.ok (e_str O.ok) (a_cons O.ok (e_str O.ok) (a_nil O.ok)))) (by rfl)) (w_or1 O.ok (t_cmp O.ok (q_ne O.ok) (fun _ _ _ => bB rfl) (e_cmp O.ok (q_eq O.ok) (e_var O.ok (i := 4)) (e_str O.ok) (nomark _)) (e_cmp O.ok (q_ne O.ok) (e_var O.ok (i := 13)) (e_lst O.ok (a_nil O.ok)) (nomark _)) (nomark _))))) (ss_cons (s_ret (e_bl O.ok)) (ss_nil)) (ss_nil)) (ss_cons (s_ite (t_cmp O.ok (q_eq O.ok) (fun _ _ _ => bB rfl) (e_var O.ok (i := 4)) (e_str O.ok) (nomark _)) (ss_cons (s_ret (e_cmp O.ok (q_eq O.ok) (e_pri O.ok (cl_len O.hK rfl) bt_len T.n_len (a_cons O.ok (e_var O.ok (i := 5)) (a_nil O.ok))) (e_pri O.ok (cl_len O.hK rfl) bt_len T.n_len (a_cons O.ok (e_var O.ok (i := 1)) (a_nil O.ok))) (nomark _))) (ss_nil)) (ss_nil)) (ss_cons (s_ret (e_and O.ok (e_cmp O.ok (q_eq O.ok) (e_lc O (own := [("end", 12)]) (i_val O (e_slc O.ok (e_var O.ok (i := 5)) (o_none O.ok) (o_some O.ok (e_neg O.ok (e_int O.ok))))) (blkOk_by (by first | (show blkC N15 (defScope s15) _ _ = true; decide +kernel) | rfl)) (by decide) (fun _ _ _ _ _ O => g_nm O.ok (j := 12)) (fun _ _ _ _ _ O => c_some (t_cmp O.ok (q_eq O.ok) (fun _ _ _ => bB rfl) (e_var O.ok (i := 12)) (e_var O.ok (i := 6)) (nomark _))) (fun _ _ _ _ _ O => e_var O.ok (i := 12))) (e_lst O.ok (a_nil O.ok)) (nomark _)) (e_one O.ok (e_or O.ok (e_cmp O.ok (q_ne O.ok) (e_var O.ok (i := 5)) (e_lst O.ok (a_nil O.ok)) (nomark _)) (e_one O.ok (e_cmp O.ok (q_eq O.ok) (e_var O.ok (i := 6)) (e_int O.ok) (nomark _))))))) (ss_nil))))))))))
theorem w16 (T : Tx P w K mg base t k) (O : OkC (cxOf (L2.CX P w) P w K mg base N16 "_law_spread_right" (defScope s16) f cdv A outer s H E) t (WE E)) (hr : Room (k + 3) (A.deeper (envOfC "_law_spread_right" (defScope s16) s.heap.objs.size f cdv))) :
    PSs (cxOf (L2.CX P w) P w K mg base N16 "_law_spread_right" (defScope s16) f cdv A outer s H E) (defBody s16) (tS t (WE E) (exes ⟨calls D gl t.S k, gl, t.S, none⟩ b16)) :=
  ss_cons (s_asg (e_non O.ok) (g_nm O.ok (j := 3))) (ss_cons (s_tri O (fun W' pn xe O => ss_cons (s_asg (e_cal O.ok (T.f_cut_spread.n) hr (a_cons O.ok (e_var O.ok (i := 0)) (a_cons O.ok (e_var O.ok (i := 1)) (a_nil O.ok))) (calls_eq rfl rfl)) (g_nm O.ok (j := 3))) (ss_nil)) (.named (i := 4) T.h_NoRoom rfl (by decide) rfl rfl (fun a oe pn fs C d k hk hga z1 z2 O => ss_cons (s_asg (e_efl hk hga (FE.hot T.e_NoRoom_found) z1 z2 rfl rfl) (g_nm O.ok (j := 3))) (ss_nil)) (.nil))) (ss_cons (s_asgLc (j := 5) O (own := [("row", 6)]) (i_val O (e_var O.ok (i := 2))) (blkOk_by (by first | (show blkC N16 (defScope s16) _ _ = true; decide +kernel) | rfl)) (by decide) (fun _ _ _ _ _ O => g_nm O.ok (j := 6)) (fun _ _ _ _ _ O => c_some (t_plain O.ok (e_cal O.ok (T.f__law_fits.n) hr (a_cons O.ok (e_var O.ok (i := 0)) (a_cons O.ok (e_var O.ok (i := 1)) (a_cons O.ok (e_int O.ok) (a_cons O.ok (e_var O.ok (i := 6)) (a_nil O.ok))))) (calls_eq rfl rfl)))) (fun _ _ _ _ _ O => e_var O.ok (i := 6)) (sw_true rfl rfl rfl (by decide +kernel))) (ss_cons (s_asgLc (j := 7) O (own := [("row", 6)]) (i_val O (e_var O.ok (i := 5))) (blkOk_by (by first | (show blkC N16 (defScope s16) _ _ = true; decide +kernel) | rfl)) (by decide) (fun _ _ _ _ _ O => g_nm O.ok (j := 6)) (fun _ _ _ _ _ O => c_some (t_cmp O.ok (q_eq O.ok) (fun _ _ _ => bB rfl) (e_idx O.ok rfl (e_var O.ok (i := 6)) (e_neg O.ok (e_int O.ok))) (e_pri O.ok (cl_len O.hK rfl) bt_len T.n_len (a_cons O.ok (e_var O.ok (i := 0)) (a_nil O.ok))) (nomark _))) (fun _ _ _ _ _ O => e_var O.ok (i := 6)) (sw_true rfl rfl rfl (by decide +kernel))) (ss_cons (s_ite (t_cmp O.ok (q_eq O.ok) (fun _ _ _ => bB rfl) (e_var O.ok (i := 7)) (e_lst O.ok (a_nil O.ok)) (nomark _)) (ss_cons (s_ret (e_cmp O.ok (q_eq O.ok) (e_pri O.ok (cl_repr O.hK O.hu O.hg O.sm) bt_repr T.n_repr (a_cons O.ok (e_var O.ok (i := 3)) (a_nil O.ok))) (e_pri O.ok (cl_repr O.hK O.hu O.hg O.sm) bt_repr T.n_repr (a_cons O.ok (e_pri O.ok (cl_max O.hK O.calm O.hu) bt_max T.n_max (a_cons O.ok (e_lc O (own := [("row", 6)]) (i_val O (e_var O.ok (i := 5))) (blkOk_by (by first | (show blkC N16 (defScope s16) _ _ = true; decide +kernel) | rfl)) (by decide) (fun _ _ _ _ _ O => g_nm O.ok (j := 6)) (fun _ _ _ _ _ O => c_none) (fun _ _ _ _ _ O => e_idx O.ok rfl (e_var O.ok (i := 6)) (e_neg O.ok (e_int O.ok)))) (a_nil O.ok))) (a_nil O.ok))) (nomark _))) (ss_nil)) (ss_nil)) (ss_cons (s_ite (PW.pt (w_or O.ok (t_not O.ok (t_plain O.ok (e_pri O.ok (cl_isinst O.hK) bt_isinstance T.n_isinstance (a_cons O.ok (e_var O.ok (i := 3)) (a_cons O.ok (e_ty O.ok rfl T.n_tuple bt_tuple) (a_nil O.ok)))))) (w_or1 O.ok (t_cmp O.ok (q_notin O.ok) (fun _ _ _ => bB rfl) (e_idx O.ok rfl (e_var O.ok (i := 3)) (e_int O.ok)) (e_var O.ok (i := 7)) (by rfl))))) (ss_cons (s_ret (e_bl O.ok)) (ss_nil)) (ss_nil)) (ss_cons (s_asg (e_pri O.ok (cl_max O.hK O.calm O.hu) bt_max T.n_max (a_cons O.ok (e_lc O (own := [("row", 6)]) (i_val O (e_var O.ok (i := 7))) (blkOk_by (by first | (show blkC N16 (defScope s16) _ _ = true; decide +kernel) | rfl)) (by decide) (fun _ _ _ _ _ O => g_nm O.ok (j := 6)) (fun _ _ _ _ _ O => c_none) (fun _ _ _ _ _ O => e_cal O.ok (T.f__law_least.n) hr (a_cons O.ok (e_var O.ok (i := 0)) (a_cons O.ok (e_var O.ok (i := 1)) (a_cons O.ok (e_var O.ok (i := 6)) (a_nil O.ok)))) (calls_eq rfl rfl))) (a_nil O.ok))) (g_nm O.ok (j := 8))) (ss_cons (s_ret (e_and O.ok (e_cmp O.ok (q_eq O.ok) (e_pri O.ok (cl_repr O.hK O.hu O.hg O.sm) bt_repr T.n_repr (a_cons O.ok (e_idx O.ok rfl (e_var O.ok (i := 3)) (e_int O.ok)) (a_nil O.ok))) (e_pri O.ok (cl_repr O.hK O.hu O.hg O.sm) bt_repr T.n_repr (a_cons O.ok (e_var O.ok (i := 8)) (a_nil O.ok))) (nomark _)) (e_one O.ok (e_cmp O.ok (q_eq O.ok) (e_cal O.ok (T.f__law_least.n) hr (a_cons O.ok (e_var O.ok (i := 0)) (a_cons O.ok (e_var O.ok (i := 1)) (a_cons O.ok (e_idx O.ok rfl (e_var O.ok (i := 3)) (e_int O.ok)) (a_nil O.ok)))) (calls_eq rfl rfl)) (e_var O.ok (i := 8)) (nomark _))))) (ss_nil))))))))
theorem w17 (T : Tx P w K mg base t k) (O : OkC (cxOf (L2.CX P w) P w K mg base N17 "law" (defScope s17) f cdv A outer s H E) t (WE E)) (hr : Room (k + 3) (A.deeper (envOfC "law" (defScope s17) s.heap.objs.size f cdv))) :
    PSs (cxOf (L2.CX P w) P w K mg base N17 "law" (defScope s17) f cdv A outer s H E) (defBody s17) (tS t (WE E) (exes ⟨calls D gl t.S k, gl, t.S, none⟩ b17)) :=
  ss_cons (s_frr O (i_rng1 T.n_range (a_cons O.ok (e_pri O.ok (cl_max O.hK O.calm O.hu) bt_max T.n_max (a_cons O.ok (e_int O.ok) (a_cons O.ok (e_pri O.ok (cl_min O.hK O.calm O.hu) bt_min T.n_min (a_cons O.ok (e_int O.ok) (a_cons O.ok (e_pri O.ok (cl_len O.hK rfl) bt_len T.n_len (a_cons O.ok (e_var O.ok (i := 0)) (a_nil O.ok))) (a_nil O.ok)))) (a_nil O.ok)))) (a_nil O.ok))) (g_nm O.ok (j := 1)) (ss_cons (s_asg (e_cal O.ok (T.f__law_bag.n) hr (a_cons O.ok (e_cal O.ok (T.f__law_cell.n) hr (a_cons O.ok (e_var O.ok (i := 0)) (a_cons O.ok (e_var O.ok (i := 1)) (a_nil O.ok))) (calls_eq rfl rfl)) (a_nil O.ok)) (calls_eq rfl rfl)) (g_nm O.ok (j := 2))) (ss_cons (s_frr O (i_rng1 T.n_range (a_cons O.ok (e_int O.ok) (a_nil O.ok))) (g_nm O.ok (j := 3)) (ss_cons (s_asg (e_cal O.ok (T.f__law_row.n) hr (a_cons O.ok (e_var O.ok (i := 2)) (a_nil O.ok)) (calls_eq rfl rfl)) (g_tp O (gs_cons O.ok (j := 4) (gs_cons O.ok (j := 5) (gs_cons O.ok (j := 6) (gs_nil)))))) (ss_cons (s_asg (e_cal O.ok (T.f__law_cuttings.n) hr (a_cons O.ok (e_pri O.ok (cl_len O.hK rfl) bt_len T.n_len (a_cons O.ok (e_var O.ok (i := 4)) (a_nil O.ok))) (a_cons O.ok (e_pri O.ok (cl_len O.hK rfl) bt_len T.n_len (a_cons O.ok (e_var O.ok (i := 5)) (a_nil O.ok))) (a_nil O.ok))) (calls_eq rfl rfl)) (g_nm O.ok (j := 7))) (ss_cons (s_ite (PW.pt (w_or O.ok (t_not O.ok (t_plain O.ok (e_cal O.ok (T.f__law_fewest_right.n) hr (a_cons O.ok (e_var O.ok (i := 4)) (a_cons O.ok (e_var O.ok (i := 5)) (a_cons O.ok (e_var O.ok (i := 6)) (a_cons O.ok (e_var O.ok (i := 7)) (a_nil O.ok))))) (calls_eq rfl rfl)))) (w_or1 O.ok (t_not O.ok (t_plain O.ok (e_cal O.ok (T.f__law_spread_right.n) hr (a_cons O.ok (e_var O.ok (i := 4)) (a_cons O.ok (e_var O.ok (i := 5)) (a_cons O.ok (e_var O.ok (i := 7)) (a_nil O.ok)))) (calls_eq rfl rfl))))))) (ss_cons (s_ret (e_bl O.ok)) (ss_nil)) (ss_nil)) (ss_nil))))) (ss_nil)))) (ss_cons (s_ret (e_bl O.ok)) (ss_nil))
end
/-- what the top has left of a def -/
structure DF (K : PySem.W.Frag) (mg : Str → Option Value) (x : Str) (st : Stmt) (ps : List Str) : Prop where
  ex : ∃ (fa : Addr) (oc : Value) (od : Option Addr) (kV doc pm : Value) (an : Option Addr) (cdv ct : Value) (osl : Array (Option Value)), mg x = some (.ref fa) ∧ K.lookup fa = some ⟨oc, od, .func (PySem.W.fnOf x x (defArgs st) (defBody st) (defScope st) .none kV doc pm an cdv ct), osl⟩ ∧
    PySem.W.codeIn K cdv x = true ∧ PySem.W.keepIn K (.ref fa) = true ∧ Binds K (PySem.W.fnOf x x (defArgs st) (defBody st) (defScope st) .none kV doc pm an cdv ct) ps []
structure DFD (K : PySem.W.Frag) (mg : Str → Option Value) (x : Str) (st : Stmt) (ps : List Str) (dl : List Val) : Prop where
  ex : ∃ (fa : Addr) (oc : Value) (od : Option Addr) (dV kV doc pm : Value) (an : Option Addr) (cdv ct : Value) (osl : Array (Option Value)) (dvs : List V), mg x = some (.ref fa) ∧ K.lookup fa = some ⟨oc, od, .func (PySem.W.fnOf x x (defArgs st) (defBody st) (defScope st) dV kV doc pm an cdv ct), osl⟩ ∧
    PySem.W.codeIn K cdv x = true ∧ PySem.W.keepIn K (.ref fa) = true ∧ (∀ (t : Th) ρ, VRs t ρ dl dvs) ∧ (∀ j, j ≤ dvs.length → ∃ us, Vals (dvs.drop j) us ∧ Binds K (PySem.W.fnOf x x (defArgs st) (defBody st) (defScope st) dV kV doc pm an cdv ct) ps us)
/-- the root of the refusals -/
structure RT (K : PySem.W.Frag) (mg : Str → Option Value) : Prop where
  ex : ∃ (C fB : Addr) (fd : FuncData), ExB K mg "ShelvesError" C fB ∧ Fun K "__init__" "ShelvesError.__init__" sI_ShelvesError fB fd ∧ Binds K fd ["self", "text"] []
  vn : mg "ValueError" = none
  vv : PySem.W.findCls K (.type "ValueError") (.type "type") "__init__" = some (.val (.builtin "ValueError.__init__"))
/-- a refusal -/
structure RX (K : PySem.W.Frag) (mg : Str → Option Value) (ga : Nat → Option Addr) (x : Str) (i : Nat) (fs : List Str) (st : Stmt) (q : Str) : Prop where
  ex : ∃ (C fI : Addr) (fd : FuncData), ga i = some C ∧ ExC K mg x C fI fs ∧ Fun K "__init__" q st fI fd ∧ Binds K fd ("self" :: fs) []
structure Fx (K : PySem.W.Frag) (mg : Str → Option Value) (ga : Nat → Option Addr) : Prop where
  rt : RT K mg
  r_NoList : RX K mg ga "NoList" 0 ["found"] sI_NoList "NoList.__init__"
  r_NoNumber : RX K mg ga "NoNumber" 1 ["found"] sI_NoNumber "NoNumber.__init__"
  r_NoRoom : RX K mg ga "NoRoom" 2 ["found"] sI_NoRoom "NoRoom.__init__"
  h_NoRoom : ∃ T : Addr, mg "NoRoom" = some (.ref T) ∧ ∀ k C, ga k = some C → PySem.W.exmOne K (.ref C) (.ref T) = some (decide (k ∈ ([2] : List Nat)))
  e_NoRoom_found : ∀ k C, k ∈ ([2] : List Nat) → ga k = some C → XfC K C ∧ PySem.W.findIn K (.ref C) "found" = some none
  n_all : mg "all" = none
  n_bool : mg "bool" = none
  n_enumerate : mg "enumerate" = none
  n_int : mg "int" = none
  n_isinstance : mg "isinstance" = none
  n_len : mg "len" = none
  n_list : mg "list" = none
  n_max : mg "max" = none
  n_min : mg "min" = none
  n_range : mg "range" = none
  n_repr : mg "repr" = none
  n_sum : mg "sum" = none
  n_tuple : mg "tuple" = none
  n_zip : mg "zip" = none
  c_MOST_LENGTH : ∃ u, mg "MOST_LENGTH" = some (.int 999 u)
  c_MOST_SHELVES : ∃ u, mg "MOST_SHELVES" = some (.int 40 u)
  c_MOST_THINGS : ∃ u, mg "MOST_THINGS" = some (.int 60 u)
  c_MOST_WIDTH : ∃ u, mg "MOST_WIDTH" = some (.int 99 u)
  g_is_whole : DF K mg "is_whole" s0 ["thing", "low", "high"]
  g_need_list : DF K mg "need_list" s1 ["thing", "least", "most", "high"]
  g_need_both : DFD K mg "need_both" s2 ["widths", "lengths", "least"] d2.dflt
  g_need_number : DF K mg "need_number" s3 ["thing", "high"]
  g_filled : DF K mg "filled" s4 ["widths", "begun", "room"]
  g_cut_fewest : DFD K mg "cut_fewest" s5 ["widths", "lengths", "keep"] d5.dflt
  g_cut_spread : DF K mg "cut_spread" s6 ["widths", "lengths"]
  g__law_cell : DF K mg "_law_cell" s7 ["script", "k"]
  g__law_bag : DF K mg "_law_bag" s8 ["cell"]
  g__law_take : DF K mg "_law_take" s9 ["bag", "many"]
  g__law_row : DF K mg "_law_row" s10 ["bag"]
  g__law_cuttings : DF K mg "_law_cuttings" s11 ["many", "shelves"]
  g__law_free : DF K mg "_law_free" s12 ["widths", "lengths", "row"]
  g__law_fits : DF K mg "_law_fits" s13 ["widths", "lengths", "keep", "row"]
  g__law_least : DF K mg "_law_least" s14 ["widths", "lengths", "row"]
  g__law_fewest_right : DF K mg "_law_fewest_right" s15 ["widths", "lengths", "keep", "rows"]
  g__law_spread_right : DF K mg "_law_spread_right" s16 ["widths", "lengths", "rows"]
  g_law : DF K mg "law" s17 ["script"]
section
variable {P : Program} {w : World} {K : PySem.W.Frag} {mg : Str → Option Value} {base : PySem.Heap} {t : Th}
theorem rt_ok (R : RT K mg) : ∃ (C fB : Addr) (fd : FuncData), ExB K mg "ShelvesError" C fB ∧ Binds K fd ["self", "text"] [] ∧ FnOk P w K mg base (L2.CX P w) 1 fB fd ["self", "text"] (spBI K) := by
  obtain ⟨C, fB, fd, B, F, hb⟩ := R.ex
  exact ⟨C, fB, fd, B, hb, F.okX scI_ShelvesError (fun vs H Q E h => spBI_len h) fun cdv A outer s H vs Q E hr h => ⟨_, pss_one (ps_expr (by exact (pe_veinit rfl R.vn R.vv (pa_cons (pv 0) (pa_cons (pv 1) pa_nil))))), base_ok h⟩⟩
theorem re_NoList (R : RT K mg) (X : RX K mg t.ga "NoList" 0 ["found"] sI_NoList "NoList.__init__") : CE P w K mg base t "NoList" 0 ["found"] := by
  obtain ⟨CB, fB, fdB, B, hbB, FB⟩ := rt_ok (P := P) (w := w) (base := base) R
  obtain ⟨C, fI, fd, hga, T, F, hb⟩ := X.ex
  refine ⟨C, fI, fd, _, hga, T, hb, F.okX scI_NoList (fun vs H Q E h => spI_len h) fun cdv A outer s H vs Q E hr h => ⟨_, pss_cons (ps_expr (by exact (pe_clsinit B FB hr hbB rfl (pa_cons (pv 0) (pa_cons pe_str pa_nil))))) (pss_one (ps_ost (pv 0) (pv 1))), init1_ok T.ox (T.no _ List.mem_cons_self) h⟩⟩
theorem re_NoNumber (R : RT K mg) (X : RX K mg t.ga "NoNumber" 1 ["found"] sI_NoNumber "NoNumber.__init__") : CE P w K mg base t "NoNumber" 1 ["found"] := by
  obtain ⟨CB, fB, fdB, B, hbB, FB⟩ := rt_ok (P := P) (w := w) (base := base) R
  obtain ⟨C, fI, fd, hga, T, F, hb⟩ := X.ex
  refine ⟨C, fI, fd, _, hga, T, hb, F.okX scI_NoNumber (fun vs H Q E h => spI_len h) fun cdv A outer s H vs Q E hr h => ⟨_, pss_cons (ps_expr (by exact (pe_clsinit B FB hr hbB rfl (pa_cons (pv 0) (pa_cons pe_str pa_nil))))) (pss_one (ps_ost (pv 0) (pv 1))), init1_ok T.ox (T.no _ List.mem_cons_self) h⟩⟩
theorem re_NoRoom (R : RT K mg) (X : RX K mg t.ga "NoRoom" 2 ["found"] sI_NoRoom "NoRoom.__init__") : CE P w K mg base t "NoRoom" 2 ["found"] := by
  obtain ⟨CB, fB, fdB, B, hbB, FB⟩ := rt_ok (P := P) (w := w) (base := base) R
  obtain ⟨C, fI, fd, hga, T, F, hb⟩ := X.ex
  refine ⟨C, fI, fd, _, hga, T, hb, F.okX scI_NoRoom (fun vs H Q E h => spI_len h) fun cdv A outer s H vs Q E hr h => ⟨_, pss_cons (ps_expr (by exact (pe_clsinit B FB hr hbB rfl (pa_cons (pv 0) (pa_cons pe_str pa_nil))))) (pss_one (ps_ost (pv 0) (pv 1))), init1_ok T.ox (T.no _ List.mem_cons_self) h⟩⟩
theorem cf0 {x : Str} {st : Stmt} {ps : List Str} (F : DF K mg x st ps) {d : Def} : CF P w K mg base t (0 + 3) x (mOf D gl t.S 0 d) := by
  obtain ⟨fa, oc, od, kV, doc, pm, an, cdv, ct, osl, h1, h2, h3, h4, h5⟩ := F.ex
  exact ⟨fa, _, ps, h1, h4, h5, fn_bad⟩
theorem cf0d {x : Str} {st : Stmt} {ps : List Str} {dl : List Val} (F : DFD K mg x st ps dl) {d : Def} : CFD P w K mg base t (0 + 3) x dl (mOf D gl t.S 0 d) := by
  obtain ⟨fa, oc, od, dV, kV, doc, pm, an, cdv, ct, osl, dvs, h1, h2, h3, h4, h5, h6⟩ := F.ex
  exact ⟨fa, _, ps, dvs, h1, h4, h5 t, h6, fn_bad⟩
theorem cf1 {k : Nat} (hK : t.K = K) (F : DF K mg "is_whole" s0 ["thing", "low", "high"]) (T : Tx P w K mg base t k) : CF P w K mg base t (k + 1 + 3) "is_whole" (mOf D gl t.S (k + 1) d0) := by
  obtain ⟨fa, oc, od, kV, doc, pm, an, cdv, ct, osl, h1, h2, h3, h4, h5⟩ := F.ex
  exact ⟨fa, _, _, h1, h4, h5, fn_law hK T.px T.sm h2 h3 sc0 rfl rfl fun A outer s H E O hr => w0 T O hr⟩
theorem cf2 {k : Nat} (hK : t.K = K) (F : DF K mg "need_list" s1 ["thing", "least", "most", "high"]) (T : Tx P w K mg base t k) : CF P w K mg base t (k + 1 + 3) "need_list" (mOf D gl t.S (k + 1) d1) := by
  obtain ⟨fa, oc, od, kV, doc, pm, an, cdv, ct, osl, h1, h2, h3, h4, h5⟩ := F.ex
  exact ⟨fa, _, _, h1, h4, h5, fn_law hK T.px T.sm h2 h3 sc1 rfl rfl fun A outer s H E O hr => w1 T O hr⟩
theorem cf3 {k : Nat} (hK : t.K = K) (F : DFD K mg "need_both" s2 ["widths", "lengths", "least"] d2.dflt) (T : Tx P w K mg base t k) : CFD P w K mg base t (k + 1 + 3) "need_both" d2.dflt (mOf D gl t.S (k + 1) d2) := by
  obtain ⟨fa, oc, od, dV, kV, doc, pm, an, cdv, ct, osl, dvs, h1, h2, h3, h4, h5, h6⟩ := F.ex
  exact ⟨fa, _, _, dvs, h1, h4, h5 t, h6, fn_law hK T.px T.sm h2 h3 sc2 rfl rfl fun A outer s H E O hr => w2 T O hr⟩
theorem cf4 {k : Nat} (hK : t.K = K) (F : DF K mg "need_number" s3 ["thing", "high"]) (T : Tx P w K mg base t k) : CF P w K mg base t (k + 1 + 3) "need_number" (mOf D gl t.S (k + 1) d3) := by
  obtain ⟨fa, oc, od, kV, doc, pm, an, cdv, ct, osl, h1, h2, h3, h4, h5⟩ := F.ex
  exact ⟨fa, _, _, h1, h4, h5, fn_law hK T.px T.sm h2 h3 sc3 rfl rfl fun A outer s H E O hr => w3 T O hr⟩
theorem cf5 {k : Nat} (hK : t.K = K) (F : DF K mg "filled" s4 ["widths", "begun", "room"]) (T : Tx P w K mg base t k) : CF P w K mg base t (k + 1 + 3) "filled" (mOf D gl t.S (k + 1) d4) := by
  obtain ⟨fa, oc, od, kV, doc, pm, an, cdv, ct, osl, h1, h2, h3, h4, h5⟩ := F.ex
  exact ⟨fa, _, _, h1, h4, h5, fn_law hK T.px T.sm h2 h3 sc4 rfl rfl fun A outer s H E O hr => w4 T O hr⟩
theorem cf6 {k : Nat} (hK : t.K = K) (F : DFD K mg "cut_fewest" s5 ["widths", "lengths", "keep"] d5.dflt) (T : Tx P w K mg base t k) : CFD P w K mg base t (k + 1 + 3) "cut_fewest" d5.dflt (mOf D gl t.S (k + 1) d5) := by
  obtain ⟨fa, oc, od, dV, kV, doc, pm, an, cdv, ct, osl, dvs, h1, h2, h3, h4, h5, h6⟩ := F.ex
  exact ⟨fa, _, _, dvs, h1, h4, h5 t, h6, fn_law hK T.px T.sm h2 h3 sc5 rfl rfl fun A outer s H E O hr => w5 T O hr⟩
theorem cf7 {k : Nat} (hK : t.K = K) (F : DF K mg "cut_spread" s6 ["widths", "lengths"]) (T : Tx P w K mg base t k) : CF P w K mg base t (k + 1 + 3) "cut_spread" (mOf D gl t.S (k + 1) d6) := by
  obtain ⟨fa, oc, od, kV, doc, pm, an, cdv, ct, osl, h1, h2, h3, h4, h5⟩ := F.ex
  exact ⟨fa, _, _, h1, h4, h5, fn_law hK T.px T.sm h2 h3 sc6 rfl rfl fun A outer s H E O hr => w6 T O hr⟩
theorem cf8 {k : Nat} (hK : t.K = K) (F : DF K mg "_law_cell" s7 ["script", "k"]) (T : Tx P w K mg base t k) : CF P w K mg base t (k + 1 + 3) "_law_cell" (mOf D gl t.S (k + 1) d7) := by
  obtain ⟨fa, oc, od, kV, doc, pm, an, cdv, ct, osl, h1, h2, h3, h4, h5⟩ := F.ex
  exact ⟨fa, _, _, h1, h4, h5, fn_law hK T.px T.sm h2 h3 sc7 rfl rfl fun A outer s H E O hr => w7 T O hr⟩
theorem cf9 {k : Nat} (hK : t.K = K) (F : DF K mg "_law_bag" s8 ["cell"]) (T : Tx P w K mg base t k) : CF P w K mg base t (k + 1 + 3) "_law_bag" (mOf D gl t.S (k + 1) d8) := by
  obtain ⟨fa, oc, od, kV, doc, pm, an, cdv, ct, osl, h1, h2, h3, h4, h5⟩ := F.ex
  exact ⟨fa, _, _, h1, h4, h5, fn_law hK T.px T.sm h2 h3 sc8 rfl rfl fun A outer s H E O hr => w8 T O hr⟩
theorem cf10 {k : Nat} (hK : t.K = K) (F : DF K mg "_law_take" s9 ["bag", "many"]) (T : Tx P w K mg base t k) : CF P w K mg base t (k + 1 + 3) "_law_take" (mOf D gl t.S (k + 1) d9) := by
  obtain ⟨fa, oc, od, kV, doc, pm, an, cdv, ct, osl, h1, h2, h3, h4, h5⟩ := F.ex
  exact ⟨fa, _, _, h1, h4, h5, fn_law hK T.px T.sm h2 h3 sc9 rfl rfl fun A outer s H E O hr => w9 T O hr⟩
theorem cf11 {k : Nat} (hK : t.K = K) (F : DF K mg "_law_row" s10 ["bag"]) (T : Tx P w K mg base t k) : CF P w K mg base t (k + 1 + 3) "_law_row" (mOf D gl t.S (k + 1) d10) := by
  obtain ⟨fa, oc, od, kV, doc, pm, an, cdv, ct, osl, h1, h2, h3, h4, h5⟩ := F.ex
  exact ⟨fa, _, _, h1, h4, h5, fn_law hK T.px T.sm h2 h3 sc10 rfl rfl fun A outer s H E O hr => w10 T O hr⟩
theorem cf12 {k : Nat} (hK : t.K = K) (F : DF K mg "_law_cuttings" s11 ["many", "shelves"]) (T : Tx P w K mg base t k) : CF P w K mg base t (k + 1 + 3) "_law_cuttings" (mOf D gl t.S (k + 1) d11) := by
  obtain ⟨fa, oc, od, kV, doc, pm, an, cdv, ct, osl, h1, h2, h3, h4, h5⟩ := F.ex
  exact ⟨fa, _, _, h1, h4, h5, fn_law hK T.px T.sm h2 h3 sc11 rfl rfl fun A outer s H E O hr => w11 T O hr⟩
theorem cf13 {k : Nat} (hK : t.K = K) (F : DF K mg "_law_free" s12 ["widths", "lengths", "row"]) (T : Tx P w K mg base t k) : CF P w K mg base t (k + 1 + 3) "_law_free" (mOf D gl t.S (k + 1) d12) := by
  obtain ⟨fa, oc, od, kV, doc, pm, an, cdv, ct, osl, h1, h2, h3, h4, h5⟩ := F.ex
  exact ⟨fa, _, _, h1, h4, h5, fn_law hK T.px T.sm h2 h3 sc12 rfl rfl fun A outer s H E O hr => w12 T O hr⟩
theorem cf14 {k : Nat} (hK : t.K = K) (F : DF K mg "_law_fits" s13 ["widths", "lengths", "keep", "row"]) (T : Tx P w K mg base t k) : CF P w K mg base t (k + 1 + 3) "_law_fits" (mOf D gl t.S (k + 1) d13) := by
  obtain ⟨fa, oc, od, kV, doc, pm, an, cdv, ct, osl, h1, h2, h3, h4, h5⟩ := F.ex
  exact ⟨fa, _, _, h1, h4, h5, fn_law hK T.px T.sm h2 h3 sc13 rfl rfl fun A outer s H E O hr => w13 T O hr⟩
theorem cf15 {k : Nat} (hK : t.K = K) (F : DF K mg "_law_least" s14 ["widths", "lengths", "row"]) (T : Tx P w K mg base t k) : CF P w K mg base t (k + 1 + 3) "_law_least" (mOf D gl t.S (k + 1) d14) := by
  obtain ⟨fa, oc, od, kV, doc, pm, an, cdv, ct, osl, h1, h2, h3, h4, h5⟩ := F.ex
  exact ⟨fa, _, _, h1, h4, h5, fn_law hK T.px T.sm h2 h3 sc14 rfl rfl fun A outer s H E O hr => w14 T O hr⟩
theorem cf16 {k : Nat} (hK : t.K = K) (F : DF K mg "_law_fewest_right" s15 ["widths", "lengths", "keep", "rows"]) (T : Tx P w K mg base t k) : CF P w K mg base t (k + 1 + 3) "_law_fewest_right" (mOf D gl t.S (k + 1) d15) := by
  obtain ⟨fa, oc, od, kV, doc, pm, an, cdv, ct, osl, h1, h2, h3, h4, h5⟩ := F.ex
  exact ⟨fa, _, _, h1, h4, h5, fn_law hK T.px T.sm h2 h3 sc15 rfl rfl fun A outer s H E O hr => w15 T O hr⟩
theorem cf17 {k : Nat} (hK : t.K = K) (F : DF K mg "_law_spread_right" s16 ["widths", "lengths", "rows"]) (T : Tx P w K mg base t k) : CF P w K mg base t (k + 1 + 3) "_law_spread_right" (mOf D gl t.S (k + 1) d16) := by
  obtain ⟨fa, oc, od, kV, doc, pm, an, cdv, ct, osl, h1, h2, h3, h4, h5⟩ := F.ex
  exact ⟨fa, _, _, h1, h4, h5, fn_law hK T.px T.sm h2 h3 sc16 rfl rfl fun A outer s H E O hr => w16 T O hr⟩
theorem cf18 {k : Nat} (hK : t.K = K) (F : DF K mg "law" s17 ["script"]) (T : Tx P w K mg base t k) : CF P w K mg base t (k + 1 + 3) "law" (mOf D gl t.S (k + 1) d17) := by
  obtain ⟨fa, oc, od, kV, doc, pm, an, cdv, ct, osl, h1, h2, h3, h4, h5⟩ := F.ex
  exact ⟨fa, _, _, h1, h4, h5, fn_law hK T.px T.sm h2 h3 sc17 rfl rfl fun A outer s H E O hr => w17 T O hr⟩
theorem tx_all (hK : t.K = K) (px : t.ex = none) (sm : ∃ mm, base.Ns sysModules mm) (F : Fx K mg t.ga) : ∀ k, Tx P w K mg base t k
  | 0 => ⟨sm, px, re_NoList F.rt F.r_NoList, re_NoNumber F.rt F.r_NoNumber, re_NoRoom F.rt F.r_NoRoom, ⟨F.h_NoRoom⟩, F.e_NoRoom_found, F.n_all, F.n_bool, F.n_enumerate, F.n_int, F.n_isinstance, F.n_len, F.n_list, F.n_max, F.n_min, F.n_range, F.n_repr, F.n_sum, F.n_tuple, F.n_zip, F.c_MOST_LENGTH, F.c_MOST_SHELVES, F.c_MOST_THINGS, F.c_MOST_WIDTH, cf0 F.g_is_whole, cf0 F.g_need_list, cf0d F.g_need_both, cf0 F.g_need_number, cf0 F.g_filled, cf0d F.g_cut_fewest, cf0 F.g_cut_spread, cf0 F.g__law_cell, cf0 F.g__law_bag, cf0 F.g__law_take, cf0 F.g__law_row, cf0 F.g__law_cuttings, cf0 F.g__law_free, cf0 F.g__law_fits, cf0 F.g__law_least, cf0 F.g__law_fewest_right, cf0 F.g__law_spread_right, cf0 F.g_law⟩
  | k + 1 => ⟨sm, px, re_NoList F.rt F.r_NoList, re_NoNumber F.rt F.r_NoNumber, re_NoRoom F.rt F.r_NoRoom, ⟨F.h_NoRoom⟩, F.e_NoRoom_found, F.n_all, F.n_bool, F.n_enumerate, F.n_int, F.n_isinstance, F.n_len, F.n_list, F.n_max, F.n_min, F.n_range, F.n_repr, F.n_sum, F.n_tuple, F.n_zip, F.c_MOST_LENGTH, F.c_MOST_SHELVES, F.c_MOST_THINGS, F.c_MOST_WIDTH, cf1 hK F.g_is_whole (tx_all hK px sm F k), cf2 hK F.g_need_list (tx_all hK px sm F k), cf3 hK F.g_need_both (tx_all hK px sm F k), cf4 hK F.g_need_number (tx_all hK px sm F k), cf5 hK F.g_filled (tx_all hK px sm F k), cf6 hK F.g_cut_fewest (tx_all hK px sm F k), cf7 hK F.g_cut_spread (tx_all hK px sm F k), cf8 hK F.g__law_cell (tx_all hK px sm F k), cf9 hK F.g__law_bag (tx_all hK px sm F k), cf10 hK F.g__law_take (tx_all hK px sm F k), cf11 hK F.g__law_row (tx_all hK px sm F k), cf12 hK F.g__law_cuttings (tx_all hK px sm F k), cf13 hK F.g__law_free (tx_all hK px sm F k), cf14 hK F.g__law_fits (tx_all hK px sm F k), cf15 hK F.g__law_least (tx_all hK px sm F k), cf16 hK F.g__law_fewest_right (tx_all hK px sm F k), cf17 hK F.g__law_spread_right (tx_all hK px sm F k), cf18 hK F.g_law (tx_all hK px sm F k)⟩
end
end Mi


namespace Mi
open PySem (Str PyData)
/-- how many of the first fit into the room -/
def fill : List Int → Int → Nat
  | [], _ => 0
  | w :: r, left => if w ≤ left then fill r (left - w) + 1 else 0
theorem fill_le : ∀ (ws : List Int) (l : Int), fill ws l ≤ ws.length
  | [], _ => Nat.le_refl _
  | w :: r, l => by
    unfold fill
    split
    · exact Nat.succ_le_succ (fill_le r _)
    · exact Nat.zero_le _
theorem fill_step {ws : List Int} {e : Nat} {l : Int} (he : e < ws.length) : fill (ws.drop e) l = if nth ws e ≤ l then fill (ws.drop (e + 1)) (l - nth ws e) + 1 else 0 := by
  rw [List.drop_eq_getElem_cons he, nth_get he]
  rfl
def stepE (ws : List Int) (keep : Int) (s : List Int × Nat) (l : Int) : List Int × Nat :=
  if s.2 < ws.length then (s.1 ++ [((s.2 + fill (ws.drop s.2) (l - keep) : Nat) : Int)], s.2 + fill (ws.drop s.2) (l - keep)) else s
def cutF (ws ls : List Int) (keep : Int) : List Int × Nat := ls.foldl (stepE ws keep) ([], 0)
def wordOf (ws : List Int) (e : Nat) : Str := if e = ws.length then z1 else z0
/-- what stands of the ends -/
structure EOk (ws : List Int) (k : Nat) (s : List Int × Nat) : Prop where
  le : s.2 ≤ ws.length
  len : s.1.length ≤ k
  bd : ∀ x ∈ s.1, 0 ≤ x ∧ x ≤ ws.length
theorem stepE_ok {ws : List Int} {keep l : Int} {k : Nat} {s : List Int × Nat} (h : EOk ws k s) : EOk ws (k + 1) (stepE ws keep s l) := by
  unfold stepE
  split
  · have h1 := fill_le (ws.drop s.2) (l - keep)
    rw [List.length_drop] at h1
    refine ⟨by show _ + _ ≤ _; omega, by have := h.len; simp; omega, fun x hx => ?_⟩
    rcases List.mem_append.mp hx with z | z
    · exact h.bd x z
    · rw [List.mem_singleton.mp z]
      omega
  · exact ⟨h.le, Nat.le_succ_of_le h.len, h.bd⟩
theorem fold_ok {ws : List Int} {keep : Int} : ∀ {ls : List Int} {k : Nat} {s : List Int × Nat}, EOk ws k s → EOk ws (k + ls.length) (ls.foldl (stepE ws keep) s)
  | [], k, s, h => h
  | l :: ls, k, s, h => by
    have := fold_ok (keep := keep) (ls := ls) (stepE_ok (keep := keep) (l := l) h)
    rw [List.foldl_cons, List.length_cons]
    rw [show k + (ls.length + 1) = k + 1 + ls.length by omega]
    exact this
theorem cutF_ok (ws ls : List Int) (keep : Int) : EOk ws ls.length (cutF ws ls keep) := by
  have := fold_ok (ws := ws) (keep := keep) (ls := ls) (k := 0) (s := ([], 0)) ⟨Nat.zero_le _, Nat.le_refl _, fun x hx => by cases hx⟩
  rw [Nat.zero_add] at this
  exact this
/-- widths, lengths as the law makes them -/
def Gd (ns : List Int) (most : Nat) (high : Int) : Prop := ns.length ≤ most ∧ ∀ n ∈ ns, 1 ≤ n ∧ n ≤ high
section
variable {S : List Int} {L : Nat} {n c : Nat} {h : Heap} {Q : RQ Val} {E : RE}
theorem c_take {m : Int} (B : Bx n c h) (hc : c < 100000000) (hm : 0 < m ∧ m < 1073741824) (Z : ∀ (x : Int) (h' : Heap), 0 ≤ x → x < m → Bx n (c + 1) h' → Fx1 n h h' → h'.length = h.length → Q (.int x) h') :
    (calls D gl S (L + 1) 9 [.ref n, .int m] h).sat Q E :=
  ok_take (d := d9) rfl rfl rfl (by decide) B hc hm Z
theorem c_cell {k : Int} (h0 : 0 ≤ k) (h1 : k < 1000) (Z : ∀ c : Int, Q (.int c) h) : (calls D gl S (L + 1) 7 [.scr, .int k] h).sat Q E := ok_cell (d := d7) rfl rfl rfl (by decide) h0 h1 Z
theorem c_box {c : Int} (Z : ∀ (n : Nat) (h' : Heap), n = h.length → Bx n 0 h' → Fr h h' → h'.length = h.length + 1 → Q (.ref n) h') : (calls D gl S (L + 1) 8 [.int c] h).sat Q E := ok_box (d := d8) rfl rfl rfl Z
theorem c_whole {i lo hi : Int} : (calls D gl S (L + 1) 0 [.int i, .int lo, .int hi] h) = .ok (.bl (decide (lo ≤ i) && decide (i ≤ hi))) h := by
  show (runDef ⟨calls D gl S L, gl, S, none⟩ d0 [.int i, .int lo, .int hi] h) = _
  unfold runDef startV d0 b0
  simp [okTy, isTy]
  by_cases z : lo ≤ i <;> simp [z]
theorem c_list {v : Val} {ns : List Int} {least most : Nat} {high : Int} (s : Sq h v ns) (g1 : least ≤ ns.length) (g : Gd ns most high) (hm : most ≤ 1000) (Z : ∀ h', Fr h h' → Q .non h') :
    (calls D gl S (L + 2) 1 [v, .int least, .int most, .int high] h).sat Q E := by
  show (runDef ⟨calls D gl S (L + 1), gl, S, none⟩ d1 [v, .int least, .int most, .int high] h).sat _ _
  unfold runDef startV d1 b1
  simp
  refine sat_new fun t h1 e1 el1 l1 F1 => ?_
  have s1 := s.fr F1
  have hl := g.1
  rw [s1.isseq e1]
  simp [s1.len, g1, hl]
  obtain ⟨st, e2, o2⟩ := s1.src
  rw [e2 _ (Fr.refl _), sat_ok]
  dsimp only
  rw [lcF_map (k := fun n => Val.int n) (f := fun n => .bl (decide (1 ≤ n) && decide (n ≤ high))) (o2 _ _ (Fr.refl _)) (fun x hx => ⟨_, rfl, by simp, by simp [c_whole]⟩) (by simp; omega)]
  simp
  refine sat_new fun p h2 e2 el2 l2 F2 => ?_
  rw [pri_all (bs := ns.map fun n => (decide (1 ≤ n) && decide (n ≤ high))) (by rw [e2]; simp)]
  have : (ns.map fun n => (decide (1 ≤ n) && decide (n ≤ high))).all id = true := by
    rw [List.all_map, List.all_eq_true]
    intro x hx
    have := g.2 x hx
    simp [this]
  rw [this]
  simp
  exact Z _ (F1.trans F2)
theorem c_filled {v : Val} {ws : List Int} {b : Nat} {room : Int} (s : Sq h v ws) (hb : b ≤ ws.length) (hl : ws.length < 1000) (Z : Q (.int ((b + fill (ws.drop b) room : Nat) : Int)) h) :
    (calls D gl S (L + 1) 4 [v, .int b, .int room] h).sat Q E := by
  show (runDef ⟨calls D gl S L, gl, S, none⟩ d4 [v, .int b, .int room] h).sat _ _
  unfold runDef startV d4 b4
  simp
  refine loopW_inv (fun m σ h' => ∃ (e : Nat) (l : Int), e ≤ ws.length ∧ m = ws.length - e ∧ e + fill (ws.drop e) l = b + fill (ws.drop b) room ∧ σ = [some v, some (.int b), some (.int room), some (.int e), some (.int l)] ∧ h' = h) ?_ _ _ _ _ (show ws.length - b < turns by unfold turns; omega) ⟨b, room, hb, rfl, rfl, rfl, rfl⟩
  rintro m _ _ ⟨e, l, he, rfl, hf, rfl, rfl⟩
  simp [s.len]
  by_cases c1 : e < ws.length
  · have hix := s.ix (g := ⟨calls D gl S L, gl, S, none⟩) (i := (e : Int)) (by omega) (by omega)
    rw [fill_step c1] at hf
    simp at hix
    simp [c1, hix]
    by_cases c2 : nth ws e ≤ l
    · simp [c2] at hf ⊢
      exact ⟨ws.length - (e + 1), by omega, e + 1, by omega, rfl, by omega, by simp⟩
    · simp [c2] at hf ⊢
      rw [hf]
      simpa using Z
  · have : e = ws.length := by omega
    simp [c1]
    rw [List.drop_eq_nil_of_le (by omega)] at hf
    simp [fill] at hf
    rw [hf]
    simpa using Z
end
end Mi


namespace Mi
open PySem (Str PyData)
theorem z01 : z0 ≠ z1 := by decide +kernel
/-- sums up to each place behind a -/
def psums : Int → List Int → List Int
  | _, [] => []
  | a, w :: r => (a + w) :: psums (a + w) r
theorem psums_len : ∀ (a : Int) (ws : List Int), (psums a ws).length = ws.length
  | _, [] => rfl
  | a, w :: r => congrArg Nat.succ (psums_len (a + w) r)
theorem psums_gt {hi : Int} : ∀ (a : Int) {ws : List Int}, (∀ n ∈ ws, 1 ≤ n ∧ n ≤ hi) → ∀ x ∈ psums a ws, a < x
  | a, [], _, x, hx => by cases hx
  | a, w :: r, h, x, hx => by
    have hw := h w (List.mem_cons_self ..)
    rcases List.mem_cons.mp hx with rfl | hx
    · omega
    · have := psums_gt (a + w) (fun n hn => h n (List.mem_cons_of_mem _ hn)) x hx
      omega
theorem psums_drop : ∀ (a : Int) (ws : List Int) (k : Nat), k ≤ ws.length → (psums a ws).drop k = psums (a + (ws.take k).sum) (ws.drop k)
  | a, ws, 0, _ => by simp
  | a, [], k + 1, h => by simp at h
  | a, w :: r, k + 1, h => by
    show (psums (a + w) r).drop k = _
    rw [psums_drop (a + w) r k (by simpa using h)]
    simp [Int.add_assoc]
theorem psums_get : ∀ (a : Int) (ws : List Int) (k : Nat), k ≤ ws.length → nth (a :: psums a ws) k = a + (ws.take k).sum
  | a, ws, 0, _ => by simp [nth]
  | a, [], k + 1, h => by simp at h
  | a, w :: r, k + 1, h => by
    have := psums_get (a + w) r k (by simpa using h)
    show nth ((a + w) :: psums (a + w) r) k = _
    rw [this]
    simp [Int.add_assoc]
theorem psums_snoc : ∀ (a : Int) (ws : List Int) (w : Int), psums a (ws ++ [w]) = psums a ws ++ [a + ws.sum + w]
  | a, [], w => by simp [psums]
  | a, v :: r, w => by
    show (a + v) :: psums (a + v) (r ++ [w]) = _
    rw [psums_snoc]
    simp [psums, Int.add_assoc]
theorem fill_count {hi : Int} : ∀ (a : Int) {ws : List Int} (room : Int), (∀ n ∈ ws, 1 ≤ n ∧ n ≤ hi) → ((psums a ws).filter fun x => decide (x ≤ a + room)).length = fill ws room
  | a, [], room, _ => rfl
  | a, w :: r, room, h => by
    have h' := fun n hn => h n (List.mem_cons_of_mem _ hn)
    have ih := fill_count (a + w) (room - w) h'
    rw [show a + w + (room - w) = a + room by omega] at ih
    unfold psums fill
    by_cases c : w ≤ room
    · rw [List.filter_cons_of_pos (by simpa using c), List.length_cons, ih, if_pos c]
    · rw [List.filter_cons_of_neg (by simpa using c), if_neg c]
      rw [List.filter_eq_nil_iff.mpr]
      · rfl
      · intro x hx
        have := psums_gt (a + w) h' x hx
        try simp
        omega
section
variable {S : List Int} {L : Nat} {n c : Nat} {h : Heap} {Q : RQ Val} {E : RE}
theorem c_both {v u : Val} {ws ls : List Int} (s : Sq h v ws) (t : Sq h u ls) (g : Gd ws 60 99) (g' : Gd ls 40 999) (Z : ∀ h', Fr h h' → Q .non h') :
    (calls D gl S (L + 3) 2 [v, u] h).sat Q E := by
  show (runDef ⟨calls D gl S (L + 2), gl, S, none⟩ d2 [v, u, .int 0] h).sat _ _
  unfold runDef startV d2 b2
  simp [gl]
  refine c_list (least := 0) (most := 60) s (Nat.zero_le _) g (by decide) fun h1 F1 => ?_
  refine c_list (least := 0) (most := 40) (t.fr F1) (Nat.zero_le _) g' (by decide) fun h2 F2 => ?_
  exact Z _ (F1.trans F2)
theorem c_bothL {v u : Val} {ws ls : List Int} {le : Nat} (s : Sq h v ws) (t : Sq h u ls) (g : Gd ws 60 99) (g' : Gd ls 40 999) (hl : le ≤ ls.length) (Z : ∀ h', Fr h h' → Q .non h') :
    (calls D gl S (L + 3) 2 [v, u, .int le] h).sat Q E := by
  show (runDef ⟨calls D gl S (L + 2), gl, S, none⟩ d2 [v, u, .int le] h).sat _ _
  unfold runDef startV d2 b2
  simp [gl]
  refine c_list (least := 0) (most := 60) s (Nat.zero_le _) g (by decide) fun h1 F1 => ?_
  refine c_list (least := le) (most := 40) (t.fr F1) hl g' (by decide) fun h2 F2 => ?_
  exact Z _ (F1.trans F2)
theorem c_num {i hi : Int} (h0 : 0 ≤ i) (h1 : i ≤ hi) (Z : Q .non h) : (calls D gl S (L + 2) 3 [.int i, .int hi] h).sat Q E := by
  show (runDef ⟨calls D gl S (L + 1), gl, S, none⟩ d3 [.int i, .int hi] h).sat _ _
  unfold runDef startV d3 b3
  simp [c_whole, h0, h1]
  exact Z
/-- what a cutting gives -/
def Cut (h : Heap) (p : Nat) (ws : List Int) (s : List Int × Nat) (base : Nat) : Prop := ∃ q, h[p]? = some (.tup [.str (wordOf ws s.2), .ref q]) ∧ h[q]? = some (.lst (s.1.map .int)) ∧ base ≤ p ∧ base ≤ q ∧ p ≠ q
theorem c_cutR {v u : Val} {ws ls : List Int} {keep : Int} (s : Sq h v ws) (t : Sq h u ls) (g : Gd ws 60 99) (g' : Gd ls 40 999) (k0 : 0 ≤ keep) (k1 : keep ≤ 999) (Z : ∀ p h', Cut h' p ws (cutF ws ls keep) h.length → Fr h h' → Q (.ref p) h') :
    (runDef ⟨calls D gl S (L + 3), gl, S, none⟩ d5 [v, u, .int keep] h).sat Q E := by
  unfold runDef startV d5 b5
  have hw := g.1
  have hl := g'.1
  simp [gl]
  refine c_both s t g g' fun h1 F1 => ?_
  refine c_num k0 k1 ?_
  try simp
  refine sat_new fun q h2 e2 el2 l2 F2 => ?_
  have s2 := s.fr (F1.trans F2)
  have t2 := t.fr (F1.trans F2)
  have lF1 := F1.len
  try simp
  obtain ⟨st, e3, o3⟩ := t.src
  rw [e3 _ (F1.trans F2), sat_ok]
  dsimp only
  have hq : h1.length ≤ q := by omega
  have FA : ∀ h', Fx1 q h2 h' → Fr h h' := fun h' F => ((F1.trans F2).fx F).fresh (by omega)
  refine loopF_each (k := fun n => Val.int n) (fun rest σ h' => ∃ done c5, ls = done ++ rest ∧ σ = [some v, some u, some (.int keep), some (.ref q), some (.int ((done.foldl (stepE ws keep) ([], 0)).2 : Nat)), c5] ∧ h'[q]? = some (.lst ((done.foldl (stepE ws keep) ([], 0)).1.map .int)) ∧ Fx1 q h2 h') ?_ ?_ ?_ ⟨[], _, rfl, rfl, by simpa using e2, Fx1.refl _ _⟩
  · rintro r σ h' ⟨done, c5, _, _, _, F⟩
    exact o3 _ _ (FA _ F)
  · rintro l rest _ h' ⟨done, c5, he, rfl, eq, F⟩
    refine ⟨_, rfl, ?_⟩
    have hok := fold_ok (ws := ws) (keep := keep) (ls := done) (k := 0) (s := ([], 0)) ⟨Nat.zero_le _, Nat.le_refl _, fun x hx => by cases hx⟩
    have hdl : done.length ≤ ls.length := by rw [he]; simp
    have hst : (done ++ [l]).foldl (stepE ws keep) ([], 0) = stepE ws keep (done.foldl (stepE ws keep) ([], 0)) l := by rw [List.foldl_append]; rfl
    generalize done.foldl (stepE ws keep) ([], 0) = sd at *
    have s' : Sq h' v ws := s.fr (FA _ F)
    simp [s'.len]
    by_cases c1 : sd.2 < ws.length
    · simp [c1]
      refine c_filled s' hok.le (by omega) ?_
      try simp
      simp [rc_app eq]
      have hlen := hok.len
      refine sat_app eq (by simp; omega) fun h4 e4 l4 F4 => ?_
      try simp
      refine ⟨done ++ [l], by rw [he]; simp, ?_, ?_, F.trans F4⟩
      · rw [hst]
        simp [stepE, c1]
      · rw [hst, e4]
        simp [stepE, c1]
    · simp [c1]
      refine ⟨done ++ [l], by rw [he]; simp, ?_, ?_, F⟩
      · rw [hst]
        simp [stepE, c1]
      · rw [hst, eq]
        simp [stepE, c1]
  · rintro _ h' ⟨done, c5, he, rfl, eq, F⟩
    rw [List.append_nil] at he
    subst he
    have hc : ls.foldl (stepE ws keep) ([], 0) = cutF ws ls keep := rfl
    rw [hc] at eq ⊢
    have s' : Sq h' v ws := s.fr (FA _ F)
    have FF : Fr h h' := FA _ F
    simp [s'.len]
    by_cases c1 : (cutF ws ls keep).2 = ws.length
    · simp [c1]
      refine sat_new fun p h4 e4 el4 l4 F4 => ?_
      try simp
      refine Z _ _ ⟨q, by rw [e4]; simp [wordOf, c1], F4.at eq, ?_, by omega, ?_⟩ (FF.trans F4)
      · have := FF.len; omega
      · have := lt_of_get eq; omega
    · have c2 : ¬ (((cutF ws ls keep).2 : Nat) : Int) = ws.length := by omega
      simp [c2]
      refine sat_new fun p h4 e4 el4 l4 F4 => ?_
      try simp
      refine Z _ _ ⟨q, by rw [e4]; simp [wordOf, c1], F4.at eq, ?_, by omega, ?_⟩ (FF.trans F4)
      · have := FF.len; omega
      · have := lt_of_get eq; omega
end
end Mi


namespace Mi
open PySem (Str PyData)
def dCut (ws : List Int) (s : List Int × Nat) : PyData := .tuple [.str (wordOf ws s.2), .list (s.1.map .int)]
theorem cut_is {h : Heap} {p b : Nat} {ws : List Int} {s : List Int × Nat} (c : Cut h p ws s b) : Is [] h (dCut ws s) (.ref p) := by
  obtain ⟨q, e1, e2, _⟩ := c
  refine is_tup (by simp) e1 ?_
  simp
  exact is_ints (by simp) e2
theorem okd_word (ws : List Int) (e : Nat) : Okd (.str (wordOf ws e)) 1 400 := by
  unfold wordOf
  split
  · exact ⟨by decide +kernel, rfl, by decide, by decide +kernel⟩
  · exact ⟨by decide +kernel, rfl, by decide, by decide +kernel⟩
theorem okd_two {a b : PyData} {w : Nat} (x : Okd a 1 w) (y : Okd b 1 w) : Okd (.tuple [a, b]) 2 (2 * (w + 2) + 3) := okd_tuple fun d hd => by
  simp at hd
  rcases hd with rfl | rfl
  · exact x
  · exact y
theorem okd_cut {ws ls : List Int} {keep : Int} (g : Gd ws 60 99) (g' : Gd ls 40 999) : Okd (dCut ws (cutF ws ls keep)) 2 (2 * (400 + 2) + 3) := by
  have ck := cutF_ok ws ls keep
  have hw := g.1
  have hl := g'.1
  refine okd_two (okd_word _ _) ((okd_ints (k := 3) (m := 40) (by decide) (by decide) (Nat.le_trans ck.len hl) fun n hn => ?_).up (by decide) (by decide))
  have := ck.bd n hn
  have : n.natAbs < 1000 := by omega
  simpa using this
def wholeD : PyData → Int → Int → Bool
  | .int i, lo, hi => decide (lo ≤ i) && decide (i ≤ hi)
  | _, _, _ => false
theorem wholeD_int {i lo hi : Int} : wholeD (.int i) lo hi = (decide (lo ≤ i) && decide (i ≤ hi)) := rfl
theorem wholeD_yes {d : PyData} {lo hi : Int} (h : wholeD d lo hi = true) : ∃ i, d = .int i ∧ lo ≤ i ∧ i ≤ hi := by
  cases d <;> try (cases h; done)
  rw [wholeD_int] at h
  simp at h
  exact ⟨_, rfl, h.1, h.2⟩
def isL : PyData → Bool
  | .list _ => true
  | _ => false
theorem isA_list {g : G} {X : List Nat} {h : Heap} {d : PyData} {v : Val} (i : Is X h d v) : Mi.pri g .isinst [v, .ty "list"] h = .ok (.bl (isL d)) h := by
  cases d with
  | int k => obtain rfl := i.int; simp [okTy, isTy, isL]
  | none => unfold Is at i; subst i; simp [okTy, isTy, isL]
  | bool b => obtain rfl := i.bl; simp [okTy, isTy, isL]
  | str b => obtain rfl := i.str; simp [okTy, isTy, isL]
  | list ds => obtain ⟨p, xs, rfl, _, e, _⟩ := i.lst; simp [is_a_lst e, okTy, isTy, isL]
  | tuple ds => obtain ⟨p, xs, rfl, _, e, _⟩ := i.tup; simp [is_a_tup e, okTy, isTy, isL]
  | dict ds => unfold Is at i; obtain ⟨p, xs, rfl, _, e, _⟩ := i; simp [is_a_dic e, okTy, isTy, isL]
def isIn : PyData → Bool
  | .int _ => true
  | _ => false
def isIB : PyData → Bool
  | .int _ => true
  | .bool _ => true
  | _ => false
def isBo : PyData → Bool
  | .bool _ => true
  | _ => false
theorem isA_int {g : G} {X : List Nat} {h : Heap} {d : PyData} {v : Val} (i : Is X h d v) : Mi.pri g .isinst [v, .ty "int"] h = .ok (.bl (isIB d)) h := by
  cases d with
  | int k => obtain rfl := i.int; simp [okTy, isTy, isIB]
  | none => unfold Is at i; subst i; simp [okTy, isTy, isIB]
  | bool b => obtain rfl := i.bl; simp [okTy, isTy, isIB]
  | str b => obtain rfl := i.str; simp [okTy, isTy, isIB]
  | list ds => obtain ⟨p, xs, rfl, _, e, _⟩ := i.lst; simp [is_a_lst e, okTy, isTy, isIB]
  | tuple ds => obtain ⟨p, xs, rfl, _, e, _⟩ := i.tup; simp [is_a_tup e, okTy, isTy, isIB]
  | dict ds => unfold Is at i; obtain ⟨p, xs, rfl, _, e, _⟩ := i; simp [is_a_dic e, okTy, isTy, isIB]
theorem isA_bool {g : G} {X : List Nat} {h : Heap} {d : PyData} {v : Val} (i : Is X h d v) : Mi.pri g .isinst [v, .ty "bool"] h = .ok (.bl (isBo d)) h := by
  cases d with
  | int k => obtain rfl := i.int; simp [okTy, isTy, isBo]
  | none => unfold Is at i; subst i; simp [okTy, isTy, isBo]
  | bool b => obtain rfl := i.bl; simp [okTy, isTy, isBo]
  | str b => obtain rfl := i.str; simp [okTy, isTy, isBo]
  | list ds => obtain ⟨p, xs, rfl, _, e, _⟩ := i.lst; simp [is_a_lst e, okTy, isTy, isBo]
  | tuple ds => obtain ⟨p, xs, rfl, _, e, _⟩ := i.tup; simp [is_a_tup e, okTy, isTy, isBo]
  | dict ds => unfold Is at i; obtain ⟨p, xs, rfl, _, e, _⟩ := i; simp [is_a_dic e, okTy, isTy, isBo]
theorem isall_prs {X : List Nat} {h : Heap} : ∀ {ds : List PyData} {xs : List Val}, IsAll X h ds xs → ∃ prs : List (Val × PyData), xs = prs.map (·.1) ∧ ds = prs.map (·.2) ∧ ∀ q ∈ prs, Is X h q.2 q.1
  | [], xs, i => ⟨[], i.nil, rfl, by simp⟩
  | d :: ds, xs, i => by
    obtain ⟨y, ys, rfl, i1, i2⟩ := i.cons
    obtain ⟨prs, rfl, rfl, hq⟩ := isall_prs i2
    refine ⟨(y, d) :: prs, rfl, rfl, fun q hm => ?_⟩
    rcases List.mem_cons.mp hm with rfl | hm
    · exact i1
    · exact hq q hm
theorem ints_of {ds : List PyData} (h : ∀ d ∈ ds, isIn d = true) : ∃ es : List Int, ds = es.map .int := by
  induction ds with
  | nil => exact ⟨[], rfl⟩
  | cons d ds ih =>
    obtain ⟨es, rfl⟩ := ih fun x hx => h x (List.mem_cons_of_mem _ hx)
    have := h d (List.mem_cons_self ..)
    cases d with
    | int i => exact ⟨i :: es, rfl⟩
    | _ => cases this
theorem mem_depth {ds : List PyData} {d : PyData} (h : d ∈ ds) : d.depth ≤ PyData.depthAll ds := by
  induction ds with
  | nil => cases h
  | cons x ds ih =>
    show _ ≤ max x.depth (PyData.depthAll ds)
    rcases List.mem_cons.mp h with rfl | h
    · omega
    · have := ih h; omega
theorem mem_lay {ds : List PyData} {d : PyData} (h : d ∈ ds) (c : PyData.canLayAll0 ds = true) : d.canLay0 = true := by
  induction ds with
  | nil => cases h
  | cons x ds ih =>
    have c2 : x.canLay0 = true ∧ PyData.canLayAll0 ds = true := by simpa [PyData.canLayAll0] using c
    rcases List.mem_cons.mp h with rfl | h
    · exact c2.1
    · exact ih h c2.2
theorem mem_show {ds : List PyData} {d : PyData} (h : d ∈ ds) (c : PyData.showableAll ds = true) : d.showable = true := by
  induction ds with
  | nil => cases h
  | cons x ds ih =>
    have c2 : x.showable = true ∧ PyData.showableAll ds = true := by simpa [PyData.showableAll] using c
    rcases List.mem_cons.mp h with rfl | h
    · exact c2.1
    · exact ih h c2.2
theorem okd_of_list {ds : List PyData} {d : PyData} {n w : Nat} (o : Okd (.list ds) (n + 1) w) (h : d ∈ ds) : Okd d n w := by
  have h1 : PyData.canLayAll0 ds = true := by simpa [PyData.canLay0] using o.lay
  have h2 : PyData.showableAll ds = true := by simpa [PyData.showable] using o.shb
  have h3 : PyData.depthAll ds + 1 ≤ n + 1 := o.dep
  refine ⟨mem_lay h h1, mem_show h h2, by have := mem_depth h; omega, Nat.le_trans ?_ o.len⟩
  refine PySem.listText_mem_le (ts := PyData.shownAll ds) ?_
  rw [shownAll_map]
  exact List.mem_map_of_mem h
section
variable {S : List Int} {L : Nat} {n c : Nat} {h : Heap} {Q : RQ Val} {E : RE}
theorem c_wholeD {X : List Nat} {d : PyData} {v : Val} {lo hi : Int} (i : Is X h d v) : (calls D gl S (L + 1) 0 [v, .int lo, .int hi] h) = .ok (.bl (wholeD d lo hi)) h := by
  cases d with
  | int k =>
    obtain rfl := i.int
    exact c_whole
  | none =>
    unfold Is at i
    subst i
    show (runDef ⟨calls D gl S L, gl, S, none⟩ d0 [.non, .int lo, .int hi] h) = _
    unfold runDef startV d0 b0
    simp [okTy, isTy, wholeD]
  | bool b =>
    obtain rfl := i.bl
    show (runDef ⟨calls D gl S L, gl, S, none⟩ d0 [.bl b, .int lo, .int hi] h) = _
    unfold runDef startV d0 b0
    simp [okTy, isTy, wholeD]
  | str b =>
    obtain rfl := i.str
    show (runDef ⟨calls D gl S L, gl, S, none⟩ d0 [.str b, .int lo, .int hi] h) = _
    unfold runDef startV d0 b0
    simp [okTy, isTy, wholeD]
  | list ds =>
    obtain ⟨p, xs, rfl, _, e, _⟩ := i.lst
    show (runDef ⟨calls D gl S L, gl, S, none⟩ d0 [.ref p, .int lo, .int hi] h) = _
    unfold runDef startV d0 b0
    simp [is_a_lst e, okTy, isTy, wholeD]
  | tuple ds =>
    obtain ⟨p, xs, rfl, _, e, _⟩ := i.tup
    show (runDef ⟨calls D gl S L, gl, S, none⟩ d0 [.ref p, .int lo, .int hi] h) = _
    unfold runDef startV d0 b0
    simp [is_a_tup e, okTy, isTy, wholeD]
  | dict ds =>
    unfold Is at i
    obtain ⟨p, xs, rfl, _, e, _⟩ := i
    show (runDef ⟨calls D gl S L, gl, S, none⟩ d0 [.ref p, .int lo, .int hi] h) = _
    unfold runDef startV d0 b0
    simp [is_a_dic e, okTy, isTy, wholeD]
end
end Mi


namespace Mi
open PySem (Str PyData)
/-- the ends from b on -/
def cutE (ws : List Int) (keep : Int) : Nat → List Int → List Int
  | _, [] => []
  | b, l :: ls => if b < ws.length then ((b + fill (ws.drop b) (l - keep) : Nat) : Int) :: cutE ws keep (b + fill (ws.drop b) (l - keep)) ls else []
theorem cutE_end {ws : List Int} {keep : Int} {b : Nat} (h : ¬ b < ws.length) : ∀ ls, cutE ws keep b ls = []
  | [] => rfl
  | l :: ls => by unfold cutE; rw [if_neg h]
theorem fold_cutE (ws : List Int) (keep : Int) : ∀ (ls : List Int) (acc : List Int) (b : Nat), (ls.foldl (stepE ws keep) (acc, b)).1 = acc ++ cutE ws keep b ls
  | [], acc, b => by simp [cutE]
  | l :: ls, acc, b => by
    rw [List.foldl_cons]
    by_cases h : b < ws.length
    · rw [show stepE ws keep (acc, b) l = (acc ++ [((b + fill (ws.drop b) (l - keep) : Nat) : Int)], b + fill (ws.drop b) (l - keep)) from if_pos h, fold_cutE ws keep ls]
      conv => rhs; unfold cutE
      rw [if_pos h]
      simp
    · rw [show stepE ws keep (acc, b) l = (acc, b) from if_neg h, fold_cutE ws keep ls, cutE_end h, cutE_end h]
theorem cutF_E (ws ls : List Int) (keep : Int) : (cutF ws ls keep).1 = cutE ws keep 0 ls := by
  unfold cutF
  rw [fold_cutE]
  rfl
theorem sum_nn : ∀ {l : List Int}, (∀ w ∈ l, 1 ≤ w) → 0 ≤ l.sum
  | [], _ => by simp
  | w :: r, p => by
    have := sum_nn fun x hx => p x (List.mem_cons_of_mem w hx)
    have := p w (List.mem_cons_self ..)
    rw [List.sum_cons]
    omega
theorem fill_ge : ∀ {l : List Int} {cap : Int} {j : Nat}, (∀ w ∈ l, 1 ≤ w) → 0 < j → j ≤ l.length → (j ≤ fill l cap ↔ (l.take j).sum ≤ cap)
  | [], cap, j, _, hc, hj => by simp at hj; omega
  | w :: r, cap, 0, _, hc, _ => by omega
  | w :: r, cap, j + 1, p, hc, hj => by
    unfold fill
    have hp := fun x hx => p x (List.mem_cons_of_mem w hx)
    have hs := sum_nn (l := r.take j) fun x hx => hp x (List.mem_of_mem_take hx)
    rw [List.take_succ_cons, List.sum_cons]
    split
    · by_cases j0 : j = 0
      · subst j0
        simp
        omega
      · have := fill_ge (cap := cap - w) (j := j) hp (by omega) (by simpa using hj)
        omega
    · omega
/-- one end is right -/
theorem end_iff {ws : List Int} {room : Int} (W : ∀ w ∈ ws, 1 ≤ w) {b i : Nat} (hb : b ≤ i) (hi : i ≤ ws.length) :
    (¬ (b < i ∧ room - ((ws.drop b).take (i - b)).sum < 0) ∧ ¬ (i < ws.length ∧ nth ws i ≤ room - ((ws.drop b).take (i - b)).sum)) ↔ i = b + fill (ws.drop b) room := by
  have pos : ∀ w ∈ ws.drop b, 1 ≤ w := fun w hw => W w (List.mem_of_mem_drop hw)
  have top := fill_le (ws.drop b) room
  rw [List.length_drop] at top
  have e1 : 0 < i - b → (i - b ≤ fill (ws.drop b) room ↔ ((ws.drop b).take (i - b)).sum ≤ room) := fun h => fill_ge pos h (by rw [List.length_drop]; omega)
  by_cases hl : i < ws.length
  · have e2 := fill_ge (cap := room) (j := i - b + 1) pos (by omega) (by rw [List.length_drop]; omega)
    have e3 : ((ws.drop b).take (i - b + 1)).sum = ((ws.drop b).take (i - b)).sum + nth ws i := by
      rw [List.take_add_one, List.getElem?_drop, show b + (i - b) = i by omega, List.getElem?_eq_getElem hl, nth_get hl]
      simp
    rw [e3] at e2
    by_cases hbi : b < i
    · have := e1 (by omega)
      omega
    · omega
  · by_cases hbi : b < i
    · have := e1 (by omega)
      omega
    · omega
/-- whether things are ends -/
def goodS (ws : List Int) (keep : Int) : Nat → List Int → List PyData → Bool
  | b, ls, [] => decide (b = ws.length) || ls.isEmpty
  | _, [], _ :: _ => false
  | b, l :: ls, .int i :: r => if b ≠ ws.length ∧ (b : Int) ≤ i ∧ i ≤ ws.length ∧ ¬ ((b : Int) < i ∧ l - keep - ((ws.drop b).take (i.toNat - b)).sum < 0) ∧ ¬ (i < ws.length ∧ nth ws i.toNat ≤ l - keep - ((ws.drop b).take (i.toNat - b)).sum) then goodS ws keep i.toNat ls r else false
  | _, _ :: _, _ :: _ => false
theorem goodS_int {ws : List Int} {keep l i : Int} {b : Nat} {ls : List Int} {r : List PyData} : goodS ws keep b (l :: ls) (.int i :: r) = if b ≠ ws.length ∧ (b : Int) ≤ i ∧ i ≤ ws.length ∧ ¬ ((b : Int) < i ∧ l - keep - ((ws.drop b).take (i.toNat - b)).sum < 0) ∧ ¬ (i < ws.length ∧ nth ws i.toNat ≤ l - keep - ((ws.drop b).take (i.toNat - b)).sum) then goodS ws keep i.toNat ls r else false := rfl
theorem goodS_nil {ws : List Int} {keep : Int} {b : Nat} {ls : List Int} : goodS ws keep b ls [] = (decide (b = ws.length) || ls.isEmpty) := by cases ls <;> rfl
theorem goodS_no {ws : List Int} {keep l : Int} {b : Nat} {ls : List Int} {d : PyData} {ds : List PyData} (h : wholeD d b ws.length = false) : goodS ws keep b (l :: ls) (d :: ds) = false := by
  cases d <;> try rfl
  rename_i i
  rw [wholeD_int] at h
  rw [goodS_int, if_neg]
  rintro ⟨_, h1, h2, _⟩
  rw [decide_eq_true h1, decide_eq_true h2] at h
  cases h
theorem goodS_end {ws : List Int} {keep l : Int} {b : Nat} {ls : List Int} {d : PyData} {ds : List PyData} (h : b = ws.length) : goodS ws keep b (l :: ls) (d :: ds) = false := by
  cases d <;> try rfl
  rw [goodS_int, if_neg]
  exact fun z => z.1 h
theorem goodS_iff {ws : List Int} {keep : Int} (W : ∀ w ∈ ws, 1 ≤ w) : ∀ {ls : List Int} {ds : List PyData} {b : Nat}, b ≤ ws.length → (goodS ws keep b ls ds = true ↔ ds = (cutE ws keep b ls).map .int)
  | [], [], b, hb => by simp [goodS_nil, cutE]
  | l :: ls, [], b, hb => by
    rw [goodS_nil]
    unfold cutE
    by_cases z : b = ws.length
    · rw [if_neg (by omega)]
      simp [z]
    · rw [if_pos (by omega)]
      simp [z]
  | [], d :: ds, b, hb => by
    rw [show goodS ws keep b [] (d :: ds) = false from rfl]
    unfold cutE
    simp
  | l :: ls, d :: ds, b, hb => by
    by_cases hw : wholeD d b ws.length = true
    · obtain ⟨k, rfl, k1, k2⟩ := wholeD_yes hw
      obtain ⟨j, rfl⟩ : ∃ j : Nat, k = j := ⟨k.toNat, by omega⟩
      by_cases z : b = ws.length
      · rw [goodS_end z]
        unfold cutE
        rw [if_neg (by omega)]
        simp
      · unfold cutE
        rw [if_pos (by omega), goodS_int]
        simp only [Int.toNat_natCast, List.map_cons, List.cons.injEq, PyData.int.injEq]
        have ei := end_iff (room := l - keep) W (b := b) (i := j) (by omega) (by omega)
        by_cases c : j = b + fill (ws.drop b) (l - keep)
        · have e2 := ei.mpr c
          rw [if_pos ⟨z, k1, k2, fun q => e2.1 ⟨by omega, q.2⟩, fun q => e2.2 ⟨by omega, q.2⟩⟩]
          rw [← c]
          have := goodS_iff (keep := keep) W (ls := ls) (ds := ds) (b := j) (by omega)
          rw [this]
          simp
        · rw [if_neg]
          · constructor
            · intro q
              cases q
            · intro q
              exact absurd (by have := q.1; omega) c
          · intro q
            exact c (ei.mp ⟨fun t => q.2.2.2.1 ⟨by omega, t.2⟩, fun t => q.2.2.2.2 ⟨by omega, t.2⟩⟩)
    · have hw2 : wholeD d b ws.length = false := by simpa using hw
      rw [goodS_no hw2]
      constructor
      · intro q
        cases q
      · intro q
        unfold cutE at q
        split at q
        · rw [List.map_cons] at q
          injection q with q1 q2
          have := fill_le (ws.drop b) (l - keep)
          rw [List.length_drop] at this
          rw [q1, wholeD_int] at hw2
          rw [decide_eq_true (by omega), decide_eq_true (by omega)] at hw2
          cases hw2
        · cases q
def showsE (ws ls : List Int) (keep : Int) : PyData → Bool
  | .list ds => decide (ds.length ≤ ls.length) && goodS ws keep 0 ls ds
  | _ => false
theorem cutE_len (ws : List Int) (keep : Int) : ∀ (ls : List Int) (b : Nat), (cutE ws keep b ls).length ≤ ls.length
  | [], b => by simp [cutE]
  | l :: ls, b => by
    unfold cutE
    split
    · have := cutE_len ws keep ls (b + fill (ws.drop b) (l - keep))
      simp
      exact this
    · simp
theorem showsE_iff {ws ls : List Int} {keep : Int} (W : ∀ w ∈ ws, 1 ≤ w) (d : PyData) : showsE ws ls keep d = true ↔ d = .list ((cutF ws ls keep).1.map .int) := by
  rw [cutF_E]
  cases d with
  | list ds =>
    unfold showsE
    rw [Bool.and_eq_true, goodS_iff W (Nat.zero_le _)]
    constructor
    · rintro ⟨_, rfl⟩
      rfl
    · intro h
      have h := PyData.list.inj h
      refine ⟨decide_eq_true ?_, h⟩
      rw [h, List.length_map]
      exact cutE_len _ _ _ _
  | _ => exact ⟨fun h => (by cases h), fun h => (by cases h)⟩
end Mi


namespace Mi
open PySem (Str PyData)
/-- halving -/
def bsr (p : Int → Bool) (f b : Int) : Int :=
  if h : b - f > 1 then (if p ((f + b) / 2) then bsr p ((f + b) / 2) b else bsr p f ((f + b) / 2)) else f
termination_by (b - f).toNat
decreasing_by
  · omega
  · omega
theorem bsr_go {p : Int → Bool} {f b : Int} (h : b - f > 1) : bsr p f b = if p ((f + b) / 2) then bsr p ((f + b) / 2) b else bsr p f ((f + b) / 2) := by
  rw [bsr, dif_pos h]
theorem bsr_end {p : Int → Bool} {f b : Int} (h : ¬ b - f > 1) : bsr p f b = f := by
  rw [bsr, dif_neg h]
/-- all are up with so much left -/
def upAt (ws ls : List Int) (k : Int) : Bool := decide ((cutF ws ls k).2 = ws.length)
def spF (ws ls : List Int) : Int := bsr (upAt ws ls) 0 (minL ls + 1)
theorem bsr_ok {p : Int → Bool} {M : Int} : ∀ (n : Nat) (f b : Int), (b - f).toNat ≤ n → f < b → p f = true → (b ≤ M → p b = false) → f ≤ bsr p f b ∧ bsr p f b < b ∧ p (bsr p f b) = true ∧ (bsr p f b + 1 ≤ M → p (bsr p f b + 1) = false)
  | 0, f, b, hn, h, pf, pb => by omega
  | n + 1, f, b, hn, h, pf, pb => by
    by_cases c : b - f > 1
    · rw [bsr_go c]
      by_cases q : p ((f + b) / 2) = true
      · rw [if_pos q]
        have := bsr_ok (M := M) n ((f + b) / 2) b (by omega) (by omega) q pb
        exact ⟨by omega, this.2⟩
      · rw [if_neg q]
        have := bsr_ok (M := M) n f ((f + b) / 2) (by omega) (by omega) pf (fun _ => by simpa using q)
        exact ⟨this.1, by omega, this.2.2⟩
    · rw [bsr_end c]
      exact ⟨by omega, h, pf, fun e => by rw [show f + 1 = b by omega] at e ⊢; exact pb e⟩
theorem spF_ok {ws ls : List Int} (h0 : upAt ws ls 0 = true) (h1 : 0 ≤ minL ls) : 0 ≤ spF ws ls ∧ spF ws ls ≤ minL ls ∧ upAt ws ls (spF ws ls) = true ∧ (spF ws ls < minL ls → upAt ws ls (spF ws ls + 1) = false) := by
  have := bsr_ok (p := upAt ws ls) (M := minL ls) _ 0 (minL ls + 1) (Nat.le_refl _) (by omega) h0 (fun e => by omega)
  unfold spF
  exact ⟨this.1, by omega, this.2.2.1, fun e => this.2.2.2 (by omega)⟩
/-- where it stands behind the lengths -/
def stE (ws : List Int) (keep : Int) : Nat → List Int → Nat
  | b, [] => b
  | b, l :: ls => stE ws keep (b + fill (ws.drop b) (l - keep)) ls
/-- the ends of all lengths -/
def spE (ws : List Int) (keep : Int) : Nat → List Int → List Int
  | _, [] => []
  | b, l :: ls => ((b + fill (ws.drop b) (l - keep) : Nat) : Int) :: spE ws keep (b + fill (ws.drop b) (l - keep)) ls
theorem spE_len (ws : List Int) (keep : Int) : ∀ (b : Nat) (ls : List Int), (spE ws keep b ls).length = ls.length
  | _, [] => rfl
  | b, l :: ls => congrArg Nat.succ (spE_len ws keep _ ls)
theorem fill_out {ws : List Int} {b : Nat} {l : Int} (h : ¬ b < ws.length) : fill (ws.drop b) l = 0 := by
  rw [List.drop_eq_nil_of_le (by omega)]
  rfl
theorem spE_out {ws : List Int} {keep : Int} : ∀ {ls : List Int} {b : Nat}, b = ws.length → spE ws keep b ls = List.replicate ls.length (ws.length : Int) ∧ stE ws keep b ls = ws.length
  | [], b, h => ⟨rfl, h⟩
  | l :: ls, b, h => by
    have e := fill_out (ws := ws) (b := b) (l := l - keep) (by omega)
    have ih := spE_out (ws := ws) (keep := keep) (ls := ls) (b := b) h
    unfold spE stE
    rw [e, Nat.add_zero, ih.1, ih.2, h]
    exact ⟨rfl, rfl⟩
theorem spE_is {ws : List Int} {keep : Int} : ∀ {ls : List Int} {b : Nat}, b ≤ ws.length → spE ws keep b ls = cutE ws keep b ls ++ List.replicate (ls.length - (cutE ws keep b ls).length) (ws.length : Int)
  | [], b, h => rfl
  | l :: ls, b, h => by
    by_cases c : b < ws.length
    · have ih := spE_is (ws := ws) (keep := keep) (ls := ls) (b := b + fill (ws.drop b) (l - keep)) (by have := fill_le (ws.drop b) (l - keep); rw [List.length_drop] at this; omega)
      unfold spE cutE
      rw [if_pos c, ih]
      simp
    · rw [cutE_end c, (spE_out (ls := l :: ls) (by omega : b = ws.length)).1]
      simp
theorem st_fold {ws : List Int} {keep : Int} : ∀ {ls : List Int} {acc : List Int} {b : Nat}, b ≤ ws.length → (ls.foldl (stepE ws keep) (acc, b)).2 = stE ws keep b ls
  | [], acc, b, h => rfl
  | l :: ls, acc, b, h => by
    rw [List.foldl_cons]
    have hf := fill_le (ws.drop b) (l - keep)
    rw [List.length_drop] at hf
    by_cases c : b < ws.length
    · rw [show stepE ws keep (acc, b) l = (acc ++ [((b + fill (ws.drop b) (l - keep) : Nat) : Int)], b + fill (ws.drop b) (l - keep)) from if_pos c, st_fold (by omega)]
      rfl
    · rw [show stepE ws keep (acc, b) l = (acc, b) from if_neg c, st_fold h, (spE_out (ls := ls) (by omega : b = ws.length)).2, (spE_out (ls := l :: ls) (by omega : b = ws.length)).2]
theorem up_st {ws ls : List Int} {k : Int} : upAt ws ls k = decide (stE ws k 0 ls = ws.length) := by
  unfold upAt cutF
  rw [st_fold (Nat.zero_le _)]
/-- the last end -/
theorem last_st {ws : List Int} {keep : Int} : ∀ {ls : List Int} {b : Nat}, b < ws.length → ls ≠ [] → (cutE ws keep b ls).getLast? = some ((stE ws keep b ls : Nat) : Int)
  | [], b, h, n => absurd rfl n
  | l :: ls, b, h, _ => by
    have hf := fill_le (ws.drop b) (l - keep)
    rw [List.length_drop] at hf
    unfold cutE stE
    rw [if_pos h]
    by_cases c : b + fill (ws.drop b) (l - keep) < ws.length
    · cases ls with
      | nil => rfl
      | cons l2 r =>
        have ih := last_st (ws := ws) (keep := keep) (ls := l2 :: r) c (by simp)
        rw [List.getLast?_cons, ih]
        rfl
    · rw [cutE_end c, (spE_out (ls := ls) (by omega)).2]
      simp
      omega
theorem spE_bd {ws : List Int} {keep : Int} : ∀ {ls : List Int} {b : Nat}, b ≤ ws.length → ∀ x ∈ spE ws keep b ls, (b : Int) ≤ x ∧ x ≤ ws.length
  | [], b, h, x, hx => by cases hx
  | l :: ls, b, h, x, hx => by
    have hf := fill_le (ws.drop b) (l - keep)
    rw [List.length_drop] at hf
    rcases List.mem_cons.mp hx with rfl | hx
    · omega
    · have := spE_bd (ws := ws) (keep := keep) (ls := ls) (b := b + fill (ws.drop b) (l - keep)) (by omega) x hx
      omega
theorem stE_le {ws : List Int} {keep : Int} : ∀ {ls : List Int} {b : Nat}, b ≤ ws.length → stE ws keep b ls ≤ ws.length
  | [], b, h => h
  | l :: ls, b, h => by
    have hf := fill_le (ws.drop b) (l - keep)
    rw [List.length_drop] at hf
    exact stE_le (ws := ws) (ls := ls) (by omega)
/-- what is put on a shelf fits it -/
theorem fill_fits : ∀ {l : List Int} {cap : Int}, 0 ≤ cap → (l.take (fill l cap)).sum ≤ cap
  | [], cap, h => by simpa [fill] using h
  | w :: r, cap, h => by
    unfold fill
    split
    · have := fill_fits (l := r) (cap := cap - w) (by omega)
      rw [List.take_succ_cons, List.sum_cons]
      omega
    · simpa using h
theorem short_ne {ws ls : List Int} {k : Int} (h : upAt ws ls k = false) (hl : ls ≠ []) : ((cutF ws ls k).1).getLast? = some (((cutF ws ls k).2 : Nat) : Int) ∧ (cutF ws ls k).2 < ws.length := by
  have h' : stE ws k 0 ls ≠ ws.length := by
    rw [up_st] at h
    simpa using h
  have le := stE_le (ws := ws) (keep := k) (ls := ls) (b := 0) (Nat.zero_le _)
  have h0 : 0 < ws.length := by omega
  rw [cutF_E]
  unfold cutF
  rw [st_fold (Nat.zero_le _)]
  exact ⟨last_st h0 hl, by omega⟩
end Mi


namespace Mi
open PySem (Str PyData)
/-! ## all cuttings, and the greedy one (plain) -/
def grN (ws : List Int) (keep : Int) : Nat → List Int → List Nat
  | _, [] => []
  | b, l :: ls => (b + fill (ws.drop b) (l - keep)) :: grN ws keep (b + fill (ws.drop b) (l - keep)) ls
theorem spE_gr {ws : List Int} {keep : Int} : ∀ (ls : List Int) (b : Nat), spE ws keep b ls = (grN ws keep b ls).map fun e : Nat => (e : Int)
  | [], b => rfl
  | l :: ls, b => by
    unfold spE grN
    rw [spE_gr ls, List.map_cons]
/-- ends that never fall -/
def okN (m : Nat) : Nat → Nat → List Nat → Prop
  | _, 0, [] => True
  | b, k + 1, e :: es => b ≤ e ∧ e ≤ m ∧ okN m e k es
  | _, _, _ => False
/-- what is free on each shelf -/
def frs (ws : List Int) : Nat → List Int → List Nat → List (Option Int)
  | b, l :: ls, e :: es => (if b < e then some (l - ((ws.drop b).take (e - b)).sum) else none) :: frs ws e ls es
  | _, _, _ => []
def okF (keep : Int) : Option Int → Prop
  | some f => keep ≤ f
  | none => True
def Fits (ws : List Int) (keep : Int) (b : Nat) (ls : List Int) (es : List Nat) : Prop := ∀ o ∈ frs ws b ls es, okF keep o
theorem gr_ok {ws : List Int} {keep : Int} : ∀ (ls : List Int) (b : Nat), b ≤ ws.length → okN ws.length b ls.length (grN ws keep b ls)
  | [], b, _ => trivial
  | l :: ls, b, hb => by
    have := fill_le (ws.drop b) (l - keep)
    rw [List.length_drop] at this
    exact ⟨by omega, by omega, gr_ok ls _ (by omega)⟩
theorem gr_fit {ws : List Int} {keep : Int} (W : ∀ w ∈ ws, 1 ≤ w) : ∀ (ls : List Int) (b : Nat), Fits ws keep b ls (grN ws keep b ls)
  | [], b => fun o ho => by cases ho
  | l :: ls, b => by
    intro o ho
    rcases List.mem_cons.mp (show o ∈ (if b < b + fill (ws.drop b) (l - keep) then some (l - ((ws.drop b).take (b + fill (ws.drop b) (l - keep) - b)).sum) else none) :: frs ws (b + fill (ws.drop b) (l - keep)) ls (grN ws keep (b + fill (ws.drop b) (l - keep)) ls) from ho) with rfl | ho
    · by_cases c : b < b + fill (ws.drop b) (l - keep)
      · rw [if_pos c, Nat.add_sub_cancel_left]
        have hf := fill_le (ws.drop b) (l - keep)
        have := (fill_ge (l := ws.drop b) (cap := l - keep) (j := fill (ws.drop b) (l - keep)) (fun w hw => W w (List.mem_of_mem_drop hw)) (by omega) hf).mp (Nat.le_refl _)
        show keep ≤ _
        omega
      · rw [if_neg c]
        trivial
    · exact gr_fit W ls _ o ho
def domN : List Nat → List Nat → Prop
  | e :: es, g :: gs => e ≤ g ∧ domN es gs
  | [], [] => True
  | _, _ => False
theorem sum_tail {l : List Int} (W : ∀ w ∈ l, 1 ≤ w) {i j : Nat} (h : i ≤ j) : ((l.drop i).take (j - i)).sum ≤ (l.take j).sum := by
  have h1 : l.take j = l.take i ++ (l.drop i).take (j - i) := by
    rw [show j = i + (j - i) by omega, List.take_add]
    congr 2
    omega
  have h2 := sum_nn (l := l.take i) fun w hw => W w (List.mem_of_mem_take hw)
  rw [h1, List.sum_append]
  omega
theorem gr_dom {ws : List Int} {keep : Int} (W : ∀ w ∈ ws, 1 ≤ w) : ∀ (ls : List Int) (es : List Nat) (b b' : Nat), okN ws.length b' ls.length es → Fits ws keep b' ls es → b' ≤ b → domN es (grN ws keep b ls)
  | [], [], _, _, _, _, _ => trivial
  | [], _ :: _, _, _, h, _, _ => by cases h
  | _ :: _, [], _, _, h, _, _ => by cases h
  | l :: ls, e :: es, b, b', ⟨h1, h2, h3⟩, hf, hb => by
    have he : e ≤ b + fill (ws.drop b) (l - keep) := by
      by_cases c : e ≤ b
      · omega
      · have hbe : b' < e := by omega
        have h0 := hf (some (l - ((ws.drop b').take (e - b')).sum)) (by
          show _ ∈ (if b' < e then some (l - ((ws.drop b').take (e - b')).sum) else none) :: _
          rw [if_pos hbe]
          exact List.mem_cons_self)
        have h0 : keep ≤ l - ((ws.drop b').take (e - b')).sum := h0
        have hd : ws.drop b = (ws.drop b').drop (b - b') := by rw [List.drop_drop]; congr 1; omega
        have hs := sum_tail (l := ws.drop b') (fun w hw => W w (List.mem_of_mem_drop hw)) (i := b - b') (j := e - b') (by omega)
        rw [← hd, show e - b' - (b - b') = e - b by omega] at hs
        have := (fill_ge (l := ws.drop b) (cap := l - keep) (j := e - b) (fun w hw => W w (List.mem_of_mem_drop hw)) (by omega) (by rw [List.length_drop]; omega)).mpr (by omega)
        omega
    exact ⟨he, gr_dom W ls es _ e h3 (fun o ho => hf o (List.mem_cons_of_mem _ ho)) he⟩
theorem st_last {ws : List Int} {keep : Int} : ∀ {ls : List Int} {b : Nat}, ls ≠ [] → (grN ws keep b ls).getLast? = some (stE ws keep b ls)
  | [], _, h => absurd rfl h
  | [l], b, _ => rfl
  | l :: m :: ls, b, _ => by
    have ih := st_last (ws := ws) (keep := keep) (ls := m :: ls) (b := b + fill (ws.drop b) (l - keep)) (by simp)
    show (_ :: grN ws keep (b + fill (ws.drop b) (l - keep)) (m :: ls)).getLast? = _
    rw [show grN ws keep (b + fill (ws.drop b) (l - keep)) (m :: ls) = (b + fill (ws.drop b) (l - keep) + fill (ws.drop (b + fill (ws.drop b) (l - keep))) (m - keep)) :: grN ws keep (b + fill (ws.drop b) (l - keep) + fill (ws.drop (b + fill (ws.drop b) (l - keep))) (m - keep)) ls from rfl] at ih ⊢
    rw [List.getLast?_cons_cons]
    exact ih
theorem dom_last : ∀ {es gs : List Nat} {x y : Nat}, domN es gs → es.getLast? = some x → gs.getLast? = some y → x ≤ y
  | [], [], _, _, _, h, _ => by cases h
  | [e], [g], _, _, h, h1, h2 => by
    cases h1; cases h2
    exact h.1
  | e :: e' :: es, g :: g' :: gs, _, _, h, h1, h2 => by
    rw [List.getLast?_cons_cons] at h1 h2
    exact dom_last (es := e' :: es) (gs := g' :: gs) h.2 h1 h2
  | [_], _ :: _ :: _, _, _, h, _, _ => by cases h.2
  | _ :: _ :: _, [_], _, _, h, _, _ => by cases h.2
  | [], _ :: _, _, _, h, _, _ => by cases h
  | _ :: _, [], _, _, h, _, _ => by cases h
/-- all stands just where some cutting that keeps so much free has all -/
theorem up_iff {ws ls : List Int} {k : Int} (W : ∀ w ∈ ws, 1 ≤ w) (hl : ls ≠ []) : upAt ws ls k = true ↔ ∃ es, okN ws.length 0 ls.length es ∧ Fits ws k 0 ls es ∧ es.getLast? = some ws.length := by
  rw [up_st, decide_eq_true_iff]
  constructor
  · intro h
    exact ⟨grN ws k 0 ls, gr_ok ls 0 (Nat.zero_le _), gr_fit W ls 0, by rw [st_last hl, h]⟩
  · rintro ⟨es, h1, h2, h3⟩
    have := dom_last (gr_dom W ls es 0 0 h1 h2 (Nat.le_refl _)) h3 (st_last hl)
    have := stE_le (ws := ws) (keep := k) (ls := ls) (b := 0) (Nat.zero_le _)
    omega
theorem fits_le {ws ls : List Int} {j k : Int} {b : Nat} {es : List Nat} (h : Fits ws k b ls es) (hj : j ≤ k) : Fits ws j b ls es := fun o ho => by
  have := h o ho
  cases o with
  | none => trivial
  | some f => exact Int.le_trans hj this
theorem up_anti {ws ls : List Int} {j k : Int} (W : ∀ w ∈ ws, 1 ≤ w) (hl : ls ≠ []) (hj : j ≤ k) (h : upAt ws ls k = true) : upAt ws ls j = true := by
  obtain ⟨es, h1, h2, h3⟩ := (up_iff W hl).mp h
  exact (up_iff W hl).mpr ⟨es, h1, fits_le h2 hj, h3⟩
/-- the least free length of a cutting's shelves -/
def leasts (os : List (Option Int)) (ls : List Int) : List Int := (os.zip ls).map fun p => p.1.getD p.2
def leastN (ws ls : List Int) (es : List Nat) : Int := minL (leasts (frs ws 0 ls es) ls)
theorem frs_len {ws : List Int} : ∀ {ls : List Int} {es : List Nat} {m b : Nat}, okN m b ls.length es → (frs ws b ls es).length = ls.length
  | [], [], _, _, _ => rfl
  | [], _ :: _, _, _, h => by cases h
  | _ :: _, [], _, _, h => by cases h
  | l :: ls, e :: es, m, b, h => congrArg Nat.succ (frs_len h.2.2)
theorem least_ge {os : List (Option Int)} {ls : List Int} {k : Int} (h1 : ∀ o ∈ os, okF k o) (h2 : ∀ l ∈ ls, k ≤ l) : ∀ x ∈ leasts os ls, k ≤ x := by
  intro x hx
  obtain ⟨p, hp, rfl⟩ := List.mem_map.mp hx
  have h3 := List.of_mem_zip (show (p.1, p.2) ∈ os.zip ls from hp)
  cases c : p.1 with
  | none => exact h2 _ h3.2
  | some f =>
    have := h1 _ h3.1
    rw [c] at this
    exact this
end Mi


namespace Mi
open PySem (Str PyData)
theorem okN_snoc {m : Nat} : ∀ {row : List Nat} {b k e : Nat}, okN m b (k + 1) (row ++ [e]) ↔ okN m b k row ∧ row.getLastD b ≤ e ∧ e ≤ m
  | [], b, 0, e => by simp [okN]
  | [], b, k + 1, e => by
    constructor
    · rintro ⟨_, _, h⟩
      cases h
    · rintro ⟨h, _⟩
      cases h
  | x :: row, b, 0, e => by
    constructor
    · rintro ⟨_, _, h⟩
      cases row <;> cases h
    · rintro ⟨h, _⟩
      cases h
  | x :: row, b, k + 1, e => by
    have ih := okN_snoc (m := m) (row := row) (b := x) (k := k) (e := e)
    show b ≤ x ∧ x ≤ m ∧ okN m x (k + 1) (row ++ [e]) ↔ (b ≤ x ∧ x ≤ m ∧ okN m x k row) ∧ (x :: row).getLastD b ≤ e ∧ e ≤ m
    rw [ih, show (x :: row).getLastD b = row.getLastD x by cases row <;> rfl]
    constructor
    · rintro ⟨a, b, c, d, e⟩
      exact ⟨⟨a, b, c⟩, d, e⟩
    · rintro ⟨⟨a, b, c⟩, d, e⟩
      exact ⟨a, b, c, d, e⟩
theorem okN_len {m : Nat} : ∀ {es : List Nat} {b k : Nat}, okN m b k es → es.length = k
  | [], _, 0, _ => rfl
  | [], _, _ + 1, h => by cases h
  | _ :: _, _, 0, h => by cases h
  | _ :: es, _, k + 1, h => congrArg Nat.succ (okN_len h.2.2)
/-- all rows of ends -/
def rowsN (m : Nat) : Nat → List (List Nat)
  | 0 => [[]]
  | k + 1 => (rowsN m k).flatMap fun row => (List.range' (row.getLastD 0) (m + 1 - row.getLastD 0)).map fun e => row ++ [e]
theorem mem_rows {m : Nat} : ∀ {k : Nat} {es : List Nat}, es ∈ rowsN m k ↔ okN m 0 k es
  | 0, es => by
    show es ∈ [[]] ↔ _
    cases es with
    | nil => simp [okN]
    | cons e es => simp [okN]
  | k + 1, es => by
    show es ∈ (rowsN m k).flatMap _ ↔ _
    rw [List.mem_flatMap]
    constructor
    · rintro ⟨row, hr, h⟩
      obtain ⟨e, he, rfl⟩ := List.mem_map.mp h
      rw [List.mem_range'_1] at he
      exact okN_snoc.mpr ⟨mem_rows.mp hr, by omega, by omega⟩
    · intro h
      have hl := okN_len h
      have hne : es ≠ [] := fun z => by rw [z] at hl; cases hl
      have hs := (List.dropLast_concat_getLast hne).symm
      rw [hs] at h
      obtain ⟨h1, h2, h3⟩ := okN_snoc.mp h
      refine ⟨es.dropLast, mem_rows.mpr h1, ?_⟩
      rw [List.mem_map]
      exact ⟨es.getLast hne, by rw [List.mem_range'_1]; omega, hs.symm⟩
theorem least_le {ws : List Int} (W : ∀ w ∈ ws, 1 ≤ w) : ∀ {ls : List Int} {es : List Nat} {m b : Nat}, okN m b ls.length es → ∀ l ∈ ls, ∃ x ∈ leasts (frs ws b ls es) ls, x ≤ l
  | [], _, _, _, _ => fun l hl => by cases hl
  | _ :: _, [], _, _, h => by cases h
  | l :: ls, e :: es, m, b, h => by
    intro l' hl'
    have ht : leasts (frs ws b (l :: ls) (e :: es)) (l :: ls) = (if b < e then some (l - ((ws.drop b).take (e - b)).sum) else none).getD l :: leasts (frs ws e ls es) ls := rfl
    rw [ht]
    rcases List.mem_cons.mp hl' with rfl | hl'
    · refine ⟨_, List.mem_cons_self, ?_⟩
      have := sum_nn (l := (ws.drop b).take (e - b)) fun w hw => W w (List.mem_of_mem_drop (List.mem_of_mem_take hw))
      split
      · show l' - _ ≤ l'
        omega
      · exact Int.le_refl _
    · obtain ⟨x, hx, hxl⟩ := least_le W h.2.2 l' hl'
      exact ⟨x, List.mem_cons_of_mem _ hx, hxl⟩
theorem frs_in {ws : List Int} : ∀ {ls : List Int} {es : List Nat} {m b : Nat}, okN m b ls.length es → ∀ f, some f ∈ frs ws b ls es → f ∈ leasts (frs ws b ls es) ls
  | [], [], _, _, _ => fun f hf => by cases hf
  | [], _ :: _, _, _, h => by cases h
  | _ :: _, [], _, _, h => by cases h
  | l :: ls, e :: es, m, b, h => by
    intro f hf
    have ht : leasts (frs ws b (l :: ls) (e :: es)) (l :: ls) = (if b < e then some (l - ((ws.drop b).take (e - b)).sum) else none).getD l :: leasts (frs ws e ls es) ls := rfl
    rw [ht]
    rcases List.mem_cons.mp (show some f ∈ (if b < e then some (l - ((ws.drop b).take (e - b)).sum) else none) :: frs ws e ls es from hf) with h1 | h1
    · rw [← h1]
      exact List.mem_cons_self
    · exact List.mem_cons_of_mem _ (frs_in h.2.2 f h1)
theorem leasts_len {ws : List Int} {ls : List Int} {es : List Nat} {m b : Nat} (h : okN m b ls.length es) : (leasts (frs ws b ls es) ls).length = ls.length := by
  unfold leasts
  rw [List.length_map, List.length_zip, frs_len h, Nat.min_self]
theorem least_props {ws ls : List Int} {es : List Nat} (W : ∀ w ∈ ws, 1 ≤ w) (hl : 1 ≤ ls.length) (h : okN ws.length 0 ls.length es) : leastN ws ls es ≤ minL ls ∧ Fits ws (leastN ws ls es) 0 ls es := by
  have hll := leasts_len (ws := ws) h
  constructor
  · obtain ⟨x, hx, hxl⟩ := least_le W h _ (minL_mem (ns := ls) hl)
    exact Int.le_trans (minL_le hx) hxl
  · intro o ho
    cases o with
    | none => trivial
    | some f => exact minL_le (frs_in h f ho)
theorem spread_le {ws ls : List Int} {es : List Nat} (W : ∀ w ∈ ws, 1 ≤ w) (hl : 1 ≤ ls.length) (Lp : ∀ l ∈ ls, 1 ≤ l) (h0 : upAt ws ls 0 = true) (h : okN ws.length 0 ls.length es) (hm : es.getLast? = some ws.length) : leastN ws ls es ≤ spF ws ls := by
  have hne : ls ≠ [] := fun z => by rw [z] at hl; cases hl
  obtain ⟨p1, p2⟩ := least_props W hl h
  have hmin : 1 ≤ minL ls := Lp _ (minL_mem hl)
  obtain ⟨s1, s2, s3, s4⟩ := spF_ok h0 (by omega)
  rcases Int.lt_or_le (spF ws ls) (leastN ws ls es) with c | c
  · have hu : upAt ws ls (leastN ws ls es) = true := (up_iff W hne).mpr ⟨es, h, p2, hm⟩
    have := up_anti (j := spF ws ls + 1) W hne (by omega) hu
    rw [s4 (by omega)] at this
    cases this
  · exact c
theorem spread_eq {ws ls : List Int} (W : ∀ w ∈ ws, 1 ≤ w) (hl : 1 ≤ ls.length) (Lp : ∀ l ∈ ls, 1 ≤ l) (h0 : upAt ws ls 0 = true) : leastN ws ls (grN ws (spF ws ls) 0 ls) = spF ws ls ∧ (grN ws (spF ws ls) 0 ls).getLast? = some ws.length := by
  have hne : ls ≠ [] := fun z => by rw [z] at hl; cases hl
  have hmin : 1 ≤ minL ls := Lp _ (minL_mem hl)
  obtain ⟨s1, s2, s3, s4⟩ := spF_ok h0 (by omega)
  have hlast : (grN ws (spF ws ls) 0 ls).getLast? = some ws.length := by
    rw [st_last hne]
    rw [up_st, decide_eq_true_iff] at s3
    rw [s3]
  have ok := gr_ok (ws := ws) (keep := spF ws ls) ls 0 (Nat.zero_le _)
  refine ⟨Int.le_antisymm (spread_le W hl Lp h0 ok hlast) ?_, hlast⟩
  have hll := leasts_len (ws := ws) ok
  exact least_ge (k := spF ws ls) (gr_fit W ls 0) (fun l hx => Int.le_trans s2 (minL_le hx)) _ (minL_mem (by rw [hll]; exact hl))
end Mi


namespace Mi
open PySem (Str PyData)
/-- what cut_spread gives -/
def Spr (h : Heap) (p : Nat) (ws ls : List Int) (base : Nat) : Prop := ∃ q m, h[p]? = some (.tup [.int (spF ws ls), .ref q, m]) ∧ h[q]? = some (.lst ((spE ws (spF ws ls) 0 ls).map .int)) ∧ base ≤ p ∧ base ≤ q ∧ p ≠ q ∧
  if spF ws ls = minL ls then m = .non else ∃ r, m = .ref r ∧ h[r]? = some (.lst ((cutF ws ls (spF ws ls + 1)).1.map .int)) ∧ base ≤ r ∧ r ≠ q ∧ r ≠ p
theorem Sq.min {g : G} {h : Heap} {v : Val} {ns : List Int} (s : Sq h v ns) (h0 : 1 ≤ ns.length) : Mi.pri g .min [v] h = .ok (.int (minL ns)) h := by
  have h1 : 0 < ns.length := h0
  obtain ⟨p, o, rfl, e, rfl | rfl⟩ := s <;> simp [pri, maxV, seqO, e, intsO_map, h1]
theorem nth_last {ns : List Int} {x : Int} (h : ns.getLast? = some x) : nth ns (ns.length - 1) = x ∧ 0 < ns.length := by
  rw [List.getLast?_eq_getElem?] at h
  have h1 := (List.getElem?_eq_some_iff.mp h)
  obtain ⟨h2, h3⟩ := h1
  exact ⟨by rw [nth_get h2]; exact h3, by omega⟩
section
variable {S : List Int} {L : Nat} {n c : Nat} {h : Heap} {Q : RQ Val} {E : RE}
theorem c_cut {v u : Val} {ws ls : List Int} {keep : Int} (s : Sq h v ws) (t : Sq h u ls) (g : Gd ws 60 99) (g' : Gd ls 40 999) (k0 : 0 ≤ keep) (k1 : keep ≤ 999) (Z : ∀ p h', Cut h' p ws (cutF ws ls keep) h.length → Fr h h' → Q (.ref p) h') :
    (calls D gl S (L + 4) 5 [v, u, .int keep] h).sat Q E := by
  show (runDef ⟨calls D gl S (L + 3), gl, S, none⟩ d5 [v, u, .int keep] h).sat _ _
  exact c_cutR s t g g' k0 k1 Z
theorem c_cut0 {v u : Val} {ws ls : List Int} (s : Sq h v ws) (t : Sq h u ls) (g : Gd ws 60 99) (g' : Gd ls 40 999) (Z : ∀ p h', Cut h' p ws (cutF ws ls 0) h.length → Fr h h' → Q (.ref p) h') :
    (calls D gl S (L + 4) 5 [v, u] h).sat Q E := by
  show (runDef ⟨calls D gl S (L + 3), gl, S, none⟩ d5 [v, u, .int 0] h).sat _ _
  exact c_cutR s t g g' (by decide) (by decide) Z
theorem word_eq {ws ls : List Int} {k : Int} : decide (wordOf ws (cutF ws ls k).2 = z1) = upAt ws ls k := by
  unfold wordOf upAt
  by_cases c : (cutF ws ls k).2 = ws.length
  · rw [if_pos c, decide_eq_true c]
    exact decide_eq_true rfl
  · rw [if_neg c, decide_eq_false c]
    exact decide_eq_false z01
theorem word_eq2 {ws ls : List Int} {k : Int} : decide (wordOf ws (cutF ws ls k).2 = z0) = !upAt ws ls k := by
  unfold wordOf upAt
  by_cases c : (cutF ws ls k).2 = ws.length
  · rw [if_pos c, decide_eq_true c]
    exact decide_eq_false (Ne.symm z01)
  · rw [if_neg c, decide_eq_false c]
    exact decide_eq_true rfl
theorem c_spread {v u : Val} {ws ls : List Int} (s : Sq h v ws) (t : Sq h u ls) (g : Gd ws 60 99) (g' : Gd ls 40 999) (hl : 1 ≤ ls.length)
    (Z : ∀ p h', upAt ws ls 0 = true → Spr h' p ws ls h.length → Fr h h' → Q (.ref p) h')
    (ZE : ∀ h' e, upAt ws ls 0 = false → (cutF ws ls 0).1.getLast? = some e → Fr h h' → E 2 [("found", .int e)] h') :
    (calls D gl S (L + 5) 6 [v, u] h).sat Q E := by
  show (runDef ⟨calls D gl S (L + 4), gl, S, none⟩ d6 [v, u] h).sat _ _
  unfold runDef startV d6 b6
  simp [gl]
  refine c_bothL (le := 1) s t g g' hl fun h1 F1 => ?_
  try simp
  refine c_cut0 (s.fr F1) (t.fr F1) g g' fun p1 h2 C2 F2 => ?_
  obtain ⟨q2, e2, e3, b2, b3, n23⟩ := C2
  have s2 := s.fr (F1.trans F2)
  have t2 := t.fr (F1.trans F2)
  have ml : minL ls ∈ ls := minL_mem (by omega)
  have hm := g'.2 _ ml
  rw [set_two e2, sat_ok]
  simp [word_eq2]
  by_cases c0 : upAt ws ls 0 = true
  · simp [c0, t2.min hl]
    refine loopW_inv (fun n σ h' => ∃ f b c6, (b - f).toNat ≤ n ∧ bsr (upAt ws ls) f b = spF ws ls ∧ 0 ≤ f ∧ f < b ∧ b ≤ minL ls + 1 ∧ Fr h h' ∧ σ = [some v, some u, some (.str (wordOf ws (cutF ws ls 0).2)), some (.ref q2), some (.int f), some (.int b), c6]) ?_ turns (minL ls + 1).toNat _ _ (by unfold turns; omega) ⟨0, minL ls + 1, none, by omega, rfl, Int.le_refl _, by omega, Int.le_refl _, F1.trans F2, rfl⟩
    rintro n _ h3 ⟨f, b, c6, hn, hs, f0, fb, bM, F3, rfl⟩
    simp
    by_cases c1 : 1 < b - f
    · simp [c1]
      refine ⟨n - 1, by omega, ?_⟩
      refine c_cut (s.fr F3) (t.fr F3) g g' (by omega) (by omega) fun p4 h4 C4 F4 => ?_
      obtain ⟨q4, e4, e5, b4, b5, n45⟩ := C4
      rw [ix_tup e4]
      simp [lstAt, L2.atI, L2.ixN, word_eq]
      rw [bsr_go (by omega)] at hs
      by_cases c2 : upAt ws ls ((f + b) / 2) = true
      · rw [if_pos c2] at hs
        simp [c2]
        exact ⟨_, _, by omega, hs, by omega, by omega, by omega, F3.trans F4, rfl, rfl⟩
      · rw [if_neg c2] at hs
        simp [c2]
        exact ⟨_, _, by omega, hs, by omega, by omega, by omega, F3.trans F4, rfl, rfl⟩
    · simp [c1]
      rw [bsr_end (by omega)] at hs
      have eb : b = f + 1 := by omega
      subst eb
      subst hs
      refine c_cut (s.fr F3) (t.fr F3) g g' (by omega) (by omega) fun p4 h4 C4 F4 => ?_
      obtain ⟨q4, e4, e5, b4, b5, n45⟩ := C4
      rw [ix_tup e4]
      simp [lstAt, L2.atI, L2.ixN]
      have F04 := F3.trans F4
      have s4 := s.fr F04
      have t4 := t.fr F04
      have hw := g.1
      have hl4 := g'.1
      rw [s4.len]
      simp
      refine ⟨rc_ext e5, ?_⟩
      refine sat_new fun p5 h5 e6 el6 l6 F5 => ?_
      rw [(t4.fr F5).len]
      simp
      rw [len_lst (F5.at e5)]
      simp
      have hcl := cutE_len ws (spF ws ls) ls 0
      have hce := cutF_E ws ls (spF ws ls)
      rw [mul_lst e6]
      simp [hce]
      refine ⟨by omega, sat_new fun p7 h7 e7 el7 l7 F7 => ?_⟩
      have F47 := F5.trans F7
      refine sat_ext (F47.at e5) e7 (by simp [hce]; omega) fun h8 e8 l8 F8 => ?_
      have nq : h3.length ≤ q4 := b5
      have F38 : Fr h3 h8 := ((F4.trans F47).fx F8).fresh nq
      have F08 := F3.trans F38
      rw [hce] at e8
      have e8' : h8[q4]? = some (.lst ((spE ws (spF ws ls) 0 ls).map .int)) := by
        rw [e8, spE_is (Nat.zero_le _)]
        simp
      have t8 := t.fr F08
      have s8 := s.fr F08
      rw [t8.min hl]
      have lF := F3.len
      simp
      by_cases c3 : spF ws ls = minL ls
      · simp [c3]
        refine sat_new fun p9 h9 e9 el9 l9 F9 => ?_
        have l38 := F38.len
        have := lt_of_get e8'
        exact Z _ _ c0 ⟨q4, .non, by rw [e9, c3], F9.at e8', by omega, by omega, by omega, by rw [if_pos c3]⟩ (F08.trans F9)
      · simp [c3]
        refine c_cut s8 t8 g g' (by omega) (by omega) fun p9 h9 C9 F9 => ?_
        obtain ⟨q9, e9, e10, b9, b10, n9⟩ := C9
        rw [ix_tup e9]
        simp [lstAt, L2.atI, L2.ixN]
        refine sat_new fun pa ha ea ela la Fa => ?_
        have l38 := F38.len
        have := lt_of_get e8'
        have := lt_of_get e10
        have := F9.len
        exact Z _ _ c0 ⟨q4, .ref q9, ea, (F9.trans Fa).at e8', by omega, by omega, by omega, by rw [if_neg c3]; exact ⟨q9, rfl, Fa.at e10, by omega, by omega, by omega⟩⟩ (F08.trans (F9.trans Fa))
  · simp [c0]
    have c0' : upAt ws ls 0 = false := by simpa using c0
    obtain ⟨hla, hlt⟩ := short_ne c0' (by intro z; rw [z] at hl; simp at hl)
    have hln := nth_last hla
    rw [last_ix e3 hln.2, sat_ok, hln.1]
    exact ZE _ _ c0' hla (F1.trans F2)
end
end Mi


namespace Mi
open PySem (Str PyData)
def oV : Option Int → Val
  | some f => .int f
  | none => .non
def okFb (keep : Int) : Option Int → Bool
  | some f => decide (keep ≤ f)
  | none => true
def fitB (ws ls : List Int) (keep : Int) (es : List Nat) : Bool := (frs ws 0 ls es).all (okFb keep)
theorem fit_iff {ws ls : List Int} {keep : Int} {es : List Nat} : fitB ws ls keep es = true ↔ Fits ws keep 0 ls es := by
  unfold fitB Fits
  rw [List.all_eq_true]
  have : ∀ o, okFb keep o = true ↔ okF keep o := fun o => by cases o <;> simp [okFb, okF]
  exact ⟨fun h o ho => (this o).mp (h o ho), fun h o ho => (this o).mpr (h o ho)⟩
theorem sum_up {l : List Int} (h : ∀ w ∈ l, w ≤ 99) : l.sum ≤ 99 * l.length := by
  induction l with
  | nil => simp
  | cons w l ih =>
    have h1 := h w List.mem_cons_self
    have h2 := ih fun x hx => h x (List.mem_cons_of_mem _ hx)
    rw [List.sum_cons, List.length_cons]
    push_cast
    omega
theorem frs_bd {ws : List Int} (g : Gd ws 60 99) : ∀ {ls : List Int} {es : List Nat} {b : Nat}, (∀ l ∈ ls, 1 ≤ l ∧ l ≤ 999) → ∀ f, some f ∈ frs ws b ls es → f.natAbs < 10000
  | [], es, _, _ => fun f hf => by cases es <;> cases hf
  | _ :: _, [], _, _ => fun f hf => by cases hf
  | l :: ls, e :: es, b, hl => by
    intro f hf
    rcases List.mem_cons.mp (show some f ∈ (if b < e then some (l - ((ws.drop b).take (e - b)).sum) else none) :: frs ws e ls es from hf) with h1 | h1
    · split at h1
      · injection h1 with h1
        have h2 := hl l List.mem_cons_self
        have h3 := sum_nn (l := (ws.drop b).take (e - b)) fun w hw => (g.2 w (List.mem_of_mem_drop (List.mem_of_mem_take hw))).1
        have h4 := sum_up (l := (ws.drop b).take (e - b)) fun w hw => (g.2 w (List.mem_of_mem_drop (List.mem_of_mem_take hw))).2
        have h5 : ((ws.drop b).take (e - b)).length ≤ 60 := by
          rw [List.length_take, List.length_drop]
          have := g.1
          omega
        omega
      · cases h1
    · exact frs_bd g (fun x hx => hl x (List.mem_cons_of_mem _ hx)) f h1
theorem somes {fl : List (Option Int)} (h : ∀ o ∈ fl, o ≠ none) : ∃ ns : List Int, fl = ns.map some := by
  induction fl with
  | nil => exact ⟨[], rfl⟩
  | cons o fl ih =>
    obtain ⟨ns, rfl⟩ := ih fun x hx => h x (List.mem_cons_of_mem _ hx)
    cases o with
    | none => exact absurd rfl (h none List.mem_cons_self)
    | some f => exact ⟨f :: ns, rfl⟩
section
variable {S : List Int} {L : Nat} {n c : Nat} {h : Heap} {Q : RQ Val} {E : RE}
theorem c_free {v u w : Val} {ws ls : List Int} {es : List Nat} (s : Sq h v ws) (t : Sq h u ls) (r : Sq h w (es.map fun e : Nat => (e : Int))) (g : Gd ws 60 99) (g' : Gd ls 40 999) (ok : okN ws.length 0 ls.length es)
    (Z : ∀ q h', h'[q]? = some (.lst ((frs ws 0 ls es).map oV)) → h.length ≤ q → Fr h h' → Q (.ref q) h') : (calls D gl S (L + 1) 12 [v, u, w] h).sat Q E := by
  show (runDef ⟨calls D gl S L, gl, S, none⟩ d12 [v, u, w] h).sat _ _
  unfold runDef startV d12 b12
  have hl := g'.1
  simp
  refine sat_new fun q h1 e1 el1 l1 F1 => ?_
  try simp
  obtain ⟨st, z2, o2⟩ := t.sv.zip r.sv
  have FA : ∀ h', Fx1 q h1 h' → Fr h h' := fun h' F => (F1.fx F).fresh (by omega)
  rw [z2 _ F1, sat_ok]
  dsimp only
  have hz : ((ls.map Val.int).zip ((es.map fun e : Nat => (e : Int)).map Val.int)) = (ls.zip es).map fun p => (Val.int p.1, Val.int (p.2 : Int)) := by
    rw [List.map_map, List.zip_map]
    rfl
  rw [hz, List.map_map]
  obtain ⟨I, hI⟩ : ∃ I : List (Int × Nat) → Sl → Heap → Prop, I = fun rr σ h' => ∃ (b : Nat) (ls' : List Int) (es' : List Nat) (os : List (Option Int)) (s5 s6 : Option Val), rr = ls'.zip es' ∧ okN ws.length b ls'.length es' ∧ h'[q]? = some (.lst (os.map oV)) ∧ os ++ frs ws b ls' es' = frs ws 0 ls es ∧ os.length + ls'.length = ls.length ∧ Fx1 q h1 h' ∧ σ = [some v, some u, some w, some (.ref q), some (.int (b : Int)), s5, s6] := ⟨_, rfl⟩
  refine loopF_pairs (k1 := fun p : Int × Nat => .int p.1) (k2 := fun p => .int (p.2 : Int)) (xs := ls.zip es) I ?_ ?_ ?_ ?_
  · rintro rr σ h' z
    rw [hI] at z
    obtain ⟨_, _, _, _, _, _, _, _, _, _, _, F, _⟩ := z
    exact o2 _ _ (FA _ F)
  · rintro x rr σ h2 h3 z F3 l3
    rw [hI] at z
    obtain ⟨b, ls', es', os, s5, s6, hr, hok, eq, hos, hlen, F2, rfl⟩ := z
    cases ls' with
    | nil => cases hr
    | cons l ls' =>
      cases es' with
      | nil => cases hr
      | cons e es' =>
        injection hr with hx hr
        subst hx
        obtain ⟨hb, he, hok'⟩ := hok
        have F02 := FA _ F2
        have lq := lt_of_get eq
        have eq3 := F3.at eq
        rw [List.length_cons] at hlen
        simp [rc_app eq3]
        have hos' : ∀ o, o = (if b < e then some (l - ((ws.drop b).take (e - b)).sum) else none) → (os ++ [o]) ++ frs ws e ls' es' = frs ws 0 ls es := fun o ho => by
          rw [← hos, ho, List.append_assoc]
          rfl
        by_cases c : b < e
        · simp [c]
          refine (s.fr (F02.trans F3)).slc fun v7 h7 s7 F7 => ?_
          rw [cutL_b (by omega)] at s7
          rw [s7.sum]
          simp
          have F37 := F3.trans F7
          refine sat_app (F7.at eq3) (by simp; omega) fun h8 e8 l8 F8 => ?_
          rw [hI]
          exact ⟨e, ls', es', os ++ [some (l - ((ws.drop b).take (e - b)).sum)], _, _, hr, hok', by rw [e8]; simp [oV], hos' _ (by rw [if_pos c]), by simp; omega, (F2.fr F37).trans F8, rfl⟩
        · simp [c]
          refine sat_app eq3 (by simp; omega) fun h8 e8 l8 F8 => ?_
          rw [hI]
          exact ⟨e, ls', es', os ++ [none], _, _, hr, hok', by rw [e8]; simp [oV], hos' _ (by rw [if_neg c]), by simp; omega, (F2.fr F3).trans F8, rfl⟩
  · rintro σ h2 z
    rw [hI] at z
    obtain ⟨b, ls', es', os, s5, s6, hr, hok, eq, hos, hlen, F2, rfl⟩ := z
    simp
    have hnil : frs ws b ls' es' = [] := by
      cases ls' with
      | nil => cases es' <;> rfl
      | cons l ls' =>
        cases es' with
        | nil => rfl
        | cons e es' => cases hr
    rw [hnil, List.append_nil] at hos
    rw [hos] at eq
    exact Z q h2 eq (by omega) (FA _ F2)
  · rw [hI]
    exact ⟨0, ls, es, [], _, _, rfl, ok, e1, rfl, by simp, Fx1.refl _ _, rfl⟩
theorem c_fits {v u w : Val} {ws ls : List Int} {keep : Int} {es : List Nat} (s : Sq h v ws) (t : Sq h u ls) (r : Sq h w (es.map fun e : Nat => (e : Int))) (g : Gd ws 60 99) (g' : Gd ls 40 999) (ok : okN ws.length 0 ls.length es)
    (Z : ∀ h', Fr h h' → Q (.bl (fitB ws ls keep es)) h') : (calls D gl S (L + 2) 13 [v, u, .int keep, w] h).sat Q E := by
  show (runDef ⟨calls D gl S (L + 1), gl, S, none⟩ d13 [v, u, .int keep, w] h).sat _ _
  unfold runDef startV d13 b13
  simp
  refine c_free s t r g g' ok fun q h1 e1 hq F1 => ?_
  have hl := g'.1
  have hfl := frs_len (ws := ws) ok
  rw [srcR_lst e1, List.map_map, sat_ok]
  dsimp only
  rw [show (frs ws 0 ls es).map (It.v ∘ oV) = (frs ws 0 ls es).map fun o => It.v (oV o) from rfl]
  rw [lcF_pure (k := oV) (p := fun o => !okFb keep o) (f := oV) (ok_lst _ _ rfl e1) (fun o ho => ⟨_, rfl, by
    cases o with
    | none => simp [oV, okFb]
    | some f =>
      simp [oV, okFb]
      by_cases c : f < keep
      · have : ¬ keep ≤ f := by omega
        simp [c]
      · have : keep ≤ f := by omega
        simp [c, this], fun _ => by simp⟩) (by simp; omega)]
  simp
  refine sat_new fun q2 h2 e2 el2 l2 F2 => ?_
  refine sat_new fun q3 h3 e3 el3 l3 F3 => ?_
  obtain ⟨ns, hns⟩ := somes (fl := (frs ws 0 ls es).filter fun o => !okFb keep o) fun o ho => by
    intro z
    subst z
    have := (List.mem_filter.mp ho).2
    simp [okFb] at this
  have e2' : h2[q2]? = some (.lst (ns.map .int)) := by
    rw [e2, hns, List.map_map]
    rfl
  have hnl : ns.length ≤ 40 := by
    have h1 := congrArg List.length hns
    have h2 := List.length_filter_le (fun o => !okFb keep o) (frs ws 0 ls es)
    rw [List.length_map] at h1
    omega
  have hnb : ∀ n ∈ ns, n.natAbs < 10000 := fun n hn => by
    have : some n ∈ (frs ws 0 ls es).filter fun o => !okFb keep o := by rw [hns]; exact List.mem_map_of_mem hn
    exact frs_bd g g'.2 n (List.mem_filter.mp this).1
  rw [bop_eq_is (X := []) (Y := []) (is_ints (by simp) (F3.at e2')) (is_ints (ns := []) (by simp) e3) (okd_ints (k := 4) (m := 40) (by decide) (by decide) hnl fun n hn => by have := hnb n hn; simpa using this) (okd_ints (k := 3) (m := 40) (by decide) (by decide) (by simp) (by simp)) (by decide) (by decide), eqv_ints]
  have hd : decide (ns = []) = fitB ws ls keep es := by
    unfold fitB
    rw [Bool.eq_iff_iff, decide_eq_true_iff, List.all_eq_true]
    constructor
    · intro z o ho
      rw [z, List.map_nil, List.filter_eq_nil_iff] at hns
      have := hns o ho
      simpa using this
    · intro z
      have h1 : (frs ws 0 ls es).filter (fun o => !okFb keep o) = [] := List.filter_eq_nil_iff.mpr fun o ho => by rw [z o ho]; simp
      rw [h1] at hns
      cases ns with
      | nil => rfl
      | cons => cases hns
  rw [hd]
  exact Z _ (F1.trans (F2.trans F3))
theorem c_least {v u w : Val} {ws ls : List Int} {es : List Nat} (s : Sq h v ws) (t : Sq h u ls) (r : Sq h w (es.map fun e : Nat => (e : Int))) (g : Gd ws 60 99) (g' : Gd ls 40 999) (hl1 : 1 ≤ ls.length) (ok : okN ws.length 0 ls.length es)
    (Z : ∀ h', Fr h h' → Q (.int (leastN ws ls es)) h') : (calls D gl S (L + 2) 14 [v, u, w] h).sat Q E := by
  show (runDef ⟨calls D gl S (L + 1), gl, S, none⟩ d14 [v, u, w] h).sat _ _
  unfold runDef startV d14 b14
  simp
  refine c_free s t r g g' ok fun q h1 e1 hq F1 => ?_
  have hl := g'.1
  have hfl := frs_len (ws := ws) ok
  have hll := leasts_len (ws := ws) ok
  try simp
  obtain ⟨st, z2, o2⟩ := (sv_lst e1).zip (t.fr F1).sv
  rw [z2 _ (Fr.refl _), sat_ok]
  dsimp only
  have hz : ((frs ws 0 ls es).map oV).zip (ls.map Val.int) = ((frs ws 0 ls es).zip ls).map fun p => (oV p.1, Val.int p.2) := by
    rw [List.zip_map]
    rfl
  rw [hz, List.map_map]
  refine lcF_pairs (k1 := fun p : Option Int × Int => oV p.1) (k2 := fun p => .int p.2) (xs := (frs ws 0 ls es).zip ls) (fun rr a h' => ∃ done, (frs ws 0 ls es).zip ls = done ++ rr ∧ a = (done.map fun p => p.1.getD p.2).map .int ∧ Fr h1 h') ?_ ?_ ?_ ?_ ⟨[], rfl, rfl, Fr.refl _⟩
  · rintro rr a h' ⟨_, _, _, F⟩
    exact o2 _ _ F
  · rintro i rr a h' ⟨done, he, rfl, F⟩
    have := congrArg List.length he
    rw [List.length_zip] at this
    simp at this ⊢
    omega
  · rintro x rr a h2 h3 ⟨done, he, rfl, F⟩ F3 l3
    obtain ⟨o, l⟩ := x
    cases o with
    | none =>
      simp [oV]
      exact ⟨done ++ [(none, l)], by rw [he]; simp, by simp, F.trans F3⟩
    | some f =>
      simp [oV]
      exact ⟨done ++ [(some f, l)], by rw [he]; simp, by simp, F.trans F3⟩
  · rintro a h2 ⟨done, he, rfl, F⟩
    rw [List.append_nil] at he
    refine sat_new fun q3 h3 e3 el3 l3 F3 => ?_
    rw [← he] at e3
    have e3' : h3[q3]? = some (.lst ((leasts (frs ws 0 ls es) ls).map .int)) := e3
    rw [(sq_lst e3').min (by rw [hll]; exact hl1)]
    exact Z _ (F1.trans (F.trans F3))
end
end Mi


namespace Mi
open PySem (Str PyData)
abbrev RR := Nat × List Nat
def iN (es : List Nat) : List Val := es.map fun e : Nat => Val.int (e : Int)
def RwsI (h : Heap) (p : Nat) (prs : List RR) : Prop := h[p]? = some (.lst (prs.map fun r => .ref r.1)) ∧ ∀ r ∈ prs, h[r.1]? = some (.lst (iN r.2))
theorem RwsI.fr {h h' : Heap} {p : Nat} {prs : List RR} (r : RwsI h p prs) (F : Fr h h') : RwsI h' p prs := ⟨F.at r.1, fun x hx => F.at (r.2 x hx)⟩
def ItI (q : Nat) (h : Heap) (l : List RR) : Prop := ∀ y ∈ l, y.1 ≠ q ∧ h[y.1]? = some (.lst (iN y.2))
def nextR (m : Nat) (row : List Nat) : List (List Nat) := (List.range' (row.getLastD 0) (m + 1 - row.getLastD 0)).map fun e => row ++ [e]
theorem rows_len (m : Nat) : ∀ k, (rowsN m k).length ≤ (m + 1) ^ k
  | 0 => Nat.le_refl _
  | k + 1 => by
    have ih := rows_len m k
    have : ∀ l : List (List Nat), (l.flatMap (nextR m)).length ≤ l.length * (m + 1) := by
      intro l
      induction l with
      | nil => simp
      | cons x l ih =>
        rw [List.flatMap_cons, List.length_append, List.length_cons, Nat.succ_mul]
        have h1 : (nextR m x).length ≤ m + 1 := by simp [nextR]
        omega
    exact Nat.le_trans (this _) (by rw [Nat.pow_succ]; exact Nat.mul_le_mul_right _ ih)
section
variable {S : List Int} {L : Nat} {n c : Nat} {h : Heap} {Q : RQ Val} {E : RE}
theorem c_cuttings {many shelves : Int} {m k : Nat} (hm : many = m) (hk : shelves = k) (m6 : m ≤ 6) (k4 : k ≤ 4) (Z : ∀ p prs h', RwsI h' p prs → prs.map (·.2) = rowsN m k → Fr h h' → Q (.ref p) h') : (calls D gl S (L + 1) 11 [.int many, .int shelves] h).sat Q E := by
  show (runDef ⟨calls D gl S L, gl, S, none⟩ d11 [.int many, .int shelves] h).sat _ _
  unfold runDef startV d11 b11
  simp
  refine sat_new fun q1 h1 e1 el1 l1 F1 => ?_
  refine sat_new fun q2 h2 e2 el2 l2 F2 => ?_
  try simp
  refine ⟨by omega, ?_⟩
  obtain ⟨I, hI⟩ : ∃ I : Nat → Sl → Heap → Prop, I = fun j σ h' => ∃ (pf : Nat) (prs : List RR) (s3 s4 s5 s6 : Option Val), σ = [some (.int many), some (.int shelves), some (.ref pf), s3, s4, s5, s6, none] ∧ RwsI h' pf prs ∧ prs.map (·.2) = rowsN m j ∧ Fr h h' := ⟨_, rfl⟩
  refine loopF_rng I rfl ?_ ?_ ?_
  · rintro j _ h3 hj z
    rw [hI] at z
    obtain ⟨pf, prs, s3, s4, s5, s6, rfl, R3, hrs, F3⟩ := z
    refine ⟨_, rfl, ?_⟩
    have hj4 : j < 4 := by omega
    have hpl : prs.length ≤ 2401 := by
      have h1 := congrArg List.length hrs
      rw [List.length_map] at h1
      have h2 := rows_len m j
      have h3 : (m + 1) ^ j ≤ 7 ^ j := Nat.pow_le_pow_left (by omega) j
      have h4 : 7 ^ j ≤ 7 ^ 4 := Nat.pow_le_pow_right (by decide) (by omega)
      have h5 : (7 : Nat) ^ 4 = 2401 := by decide
      omega
    simp
    refine sat_new fun q h4 e4 el4 l4 F4 => ?_
    have R4 := R3.fr F4
    have lpf := lt_of_get R3.1
    try simp
    rw [srcR_lst R4.1, List.map_map, sat_ok]
    dsimp only
    obtain ⟨J, hJ⟩ : ∃ J : List RR → Sl → Heap → Prop, J = fun r σ h' => ∃ (done : List RR) (nprs : List RR) (s5 s6 : Option Val), prs = done ++ r ∧ σ = [some (.int many), some (.int shelves), some (.ref pf), some (.int (j : Int)), some (.ref q), s5, s6, none] ∧ h'[q]? = some (.lst (nprs.map fun r => .ref r.1)) ∧ (∀ x ∈ nprs, x.1 ≠ q ∧ h'[x.1]? = some (.lst (iN x.2))) ∧ nprs.map (·.2) = (done.map (·.2)).flatMap (nextR m) ∧ nprs.length ≤ done.length * 7 ∧ Fx1 q h4 h' := ⟨_, rfl⟩
    refine loopF_each (k := fun r : RR => Val.ref r.1) (xs := prs) J ?_ ?_ ?_ ?_
    · rintro r σ h' z
      rw [hJ] at z
      obtain ⟨_, _, _, _, _, _, _, _, _, _, F⟩ := z
      exact ok_lst _ _ rfl (F.at R4.1 (by omega))
    · rintro x r _ h5 z
      rw [hJ] at z
      obtain ⟨done, nprs, s5, s6, he, rfl, eq, hit, hfm, hnl, F5⟩ := z
      refine ⟨_, rfl, ?_⟩
      have hx : x ∈ prs := by rw [he]; simp
      have ex4 := R3.2 x hx
      have lx := lt_of_get ex4
      have ex5 := F5.at (F4.at ex4) (by omega)
      have hdl := congrArg List.length he
      simp at hdl
      have l45 := F5.len
      obtain ⟨bv, hbv⟩ : ∃ bv : Int, bv = ((x.2.getLastD 0 : Nat) : Int) := ⟨_, rfl⟩
      have hex : iN x.2 = (x.2.map fun e : Nat => (e : Int)).map .int := by rw [List.map_map]; rfl
      rw [exes_cons, sat_bind]
      refine Res.sat.imp (E := nox) (Q := fun f h' => f = .nx [some (.int many), some (.int shelves), some (.ref pf), some (.int (j : Int)), some (.ref q), some (.ref x.1), some (.int bv), none] ∧ Fr h5 h') ?_ (fun f h6 z => ?_) (fun _ _ _ z => z.elim)
      · rw [hex] at ex5
        simp
        rw [(sq_lst ex5).tru]
        cases hx2 : x.2 with
        | nil =>
          rw [hx2] at hbv
          simp
          refine sat_new fun q6 h6 e6 el6 l6 F6 => ?_
          have e6' : h6[q6]? = some (.lst (([0] : List Int).map .int)) := e6
          rw [last_ix e6' (by simp)]
          simp
          exact ⟨by rw [hbv]; rfl, F6⟩
        | cons e es =>
          rw [hx2] at hbv ex5
          simp
          rw [last_ix ex5 (by simp)]
          simp
          refine ⟨?_, Fr.refl _⟩
          rw [hbv]
          have hlast : ∀ (l : List Nat) (a : Nat), nth ((a :: l).map fun e : Nat => (e : Int)) l.length = (((a :: l).getLastD 0 : Nat) : Int) := by
            intro l
            induction l with
            | nil => intro a; rfl
            | cons b l ih =>
              intro a
              rw [show nth ((a :: b :: l).map fun e : Nat => (e : Int)) (b :: l).length = nth ((b :: l).map fun e : Nat => (e : Int)) l.length from rfl, ih b]
              rfl
          have := hlast es e
          simpa using this
      · obtain ⟨ef, F6⟩ := z
        rw [ef, Fl.go_nx]
        have eq6 := F6.at eq
        have ex6 := F6.at ex5
        have hb0 : 0 ≤ bv := by omega
        have hin : x.2 ∈ rowsN m j := by rw [← hrs]; exact List.mem_map_of_mem hx
        have hb6 : bv ≤ 6 := by
          have ok := mem_rows.mp hin
          have : ∀ {es : List Nat} {b k : Nat}, okN m b k es → b ≤ m → es.getLastD b ≤ m := by
            intro es
            induction es with
            | nil => intro b k _ hb; exact hb
            | cons e es ih =>
              intro b k h hb
              cases k with
              | zero => cases h
              | succ k =>
                have := ih h.2.2 h.2.1
                rwa [show (e :: es).getLastD b = es.getLastD e by cases es <;> rfl]
          have := this ok (Nat.zero_le _)
          omega
        simp
        refine ⟨rc_ext eq6, by omega, ?_⟩
        have l56 := F6.len
        refine lcF_rng (fun (i : Nat) (a : List Val) (h' : Heap) => ∃ apr : List RR, a = apr.map (fun r => .ref r.1) ∧ apr.map (·.2) = (List.range' (x.2.getLastD 0) i).map (fun e => x.2 ++ [e]) ∧ ItI q h' apr ∧ apr.length = i ∧ Fr h6 h') rfl ?_ ?_ ?_ ⟨[], rfl, rfl, fun y hy => (by cases hy), rfl, Fr.refl _⟩
        · rintro i a h' hi ⟨apr, rfl, _, _, hal, _⟩
          rw [List.length_map]
          show _ < 16777216
          omega
        · rintro i a h7 hi ⟨apr, rfl, ham, hai, hal, F7⟩
          refine ⟨_, rfl, ?_⟩
          simp
          refine sat_new fun q8 h8 e8 el8 l8 F8 => ?_
          rw [add_lst ((F7.trans F8).at ex6) e8, if_pos (by
            have := okN_len (mem_rows.mp hin)
            simp [iN]
            omega)]
          refine sat_new fun q9 h9 e9 el9 l9 F9 => ?_
          have F79 := F8.trans F9
          have l67 := F7.len
          have lq := lt_of_get eq6
          refine ⟨apr ++ [(q9, x.2 ++ [x.2.getLastD 0 + i])], by simp, ?_, fun y hy => ?_, by simp [hal], F7.trans F79⟩
          · rw [List.map_append, ham, List.range'_concat, List.map_append]
            simp
          · rcases List.mem_append.mp hy with hy | hy
            · exact ⟨(hai y hy).1, F79.at (hai y hy).2⟩
            · rw [List.mem_singleton.mp hy]
              refine ⟨by show q9 ≠ q; omega, ?_⟩
              rw [e9, hbv]
              simp [iN]
        · rintro a h7 ⟨apr, rfl, ham, hai, hal, F7⟩
          refine sat_new fun q8 h8 e8 el8 l8 F8 => ?_
          have F68 := F7.trans F8
          refine sat_ext (F68.at eq6) e8 (by simp; omega) fun h9 e9 l9 F9 => ?_
          rw [hJ]
          have l67 := F68.len
          refine ⟨done ++ [x], nprs ++ apr, _, _, by rw [he]; simp, rfl, by rw [e9]; simp, fun y hy => ?_, ?_, ?_, (F5.fr (F6.trans F68)).trans F9⟩
          · rcases List.mem_append.mp hy with hy | hy
            · exact ⟨(hit y hy).1, F9.at ((F6.trans F68).at (hit y hy).2) (hit y hy).1⟩
            · exact ⟨(hai y hy).1, F9.at (F8.at (hai y hy).2) (hai y hy).1⟩
          · rw [List.map_append, hfm, ham, List.map_append, List.flatMap_append]
            congr 1
            simp only [List.map_cons, List.map_nil, List.flatMap_cons, List.flatMap_nil, List.append_nil]
            unfold nextR
            congr 2
            omega
          · rw [List.length_append, List.length_append, hal]
            simp
            omega
    · rintro _ h5 z
      rw [hJ] at z
      obtain ⟨done, nprs, s5, s6, he, rfl, eq, hit, hfm, hnl, F5⟩ := z
      rw [List.append_nil] at he
      subst he
      simp
      rw [hI]
      refine ⟨q, nprs, _, _, _, _, rfl, ⟨eq, fun x hx => (hit x hx).2⟩, ?_, F3.trans ((F4.fx F5).fresh (by omega))⟩
      rw [hfm, hrs]
      rfl
    · rw [hJ]
      exact ⟨[], [], _, _, rfl, rfl, e4, by simp, rfl, by simp, Fx1.refl _ _⟩
  · rintro _ h3 z
    rw [hI] at z
    obtain ⟨pf, prs, s3, s4, s5, s6, rfl, R3, hrs, F3⟩ := z
    simp
    rw [show shelves.toNat = k by omega] at hrs
    exact Z _ _ _ R3 hrs F3
  · rw [hI]
    exact ⟨q2, [(q1, [])], _, _, _, _, rfl, ⟨e2, fun x hx => by rw [List.mem_singleton.mp hx]; exact F2.at e1⟩, rfl, F1.trans F2⟩
end
end Mi


namespace Mi
open PySem (Str PyData)
section
variable {S : List Int} {L : Nat} {n c : Nat} {h : Heap} {Q : RQ Val} {E : RE}
theorem c_row (B : Bx n c h) (hc : c < 80000000) (Z : ∀ (p pw pl : Nat) (ws ls : List Int) (kp : Int) (h' : Heap), h'[p]? = some (.lst [.ref pw, .ref pl, .int kp]) → h'[pw]? = some (.lst (ws.map .int)) → h'[pl]? = some (.lst (ls.map .int)) → Gd ws 60 99 → ws.length ≤ 6 → Gd ls 40 999 → 1 ≤ ls.length → ls.length ≤ 4 → 0 ≤ kp → kp ≤ 5 → h.length ≤ p → h.length ≤ pw → h.length ≤ pl → Bx n (c + 60) h' → Fx1 n h h' → Q (.ref p) h') : (calls D gl S (L + 2) 10 [.ref n] h).sat Q E := by
  show (runDef ⟨calls D gl S (L + 1), gl, S, none⟩ d10 [.ref n] h).sat _ _
  unfold runDef startV d10 b10
  have n0 := B.lt
  simp
  refine sat_new fun p1 h1 e1 el1 l1 F1 => ?_
  refine c_take (B.fr F1) (by omega) (by decide) fun y2 h2 y20 y21 B2 F2 l2 => ?_
  refine sat_atI (F2.at e1 (by omega)) y20 (by simpa using y21) rfl fun kp hkp => ?_
  simp at hkp
  try simp
  refine c_take B2 (by omega) (by decide) fun wide h3 w0 w1 B3 F3 l3 => ?_
  try simp
  refine c_take B3 (by omega) (by decide) fun y4 h4 y40 y41 B4 F4 l4 => ?_
  try simp
  refine c_take B4 (by omega) (by decide) fun y5 h5 y50 y51 B5 F5 l5 => ?_
  try simp
  refine ⟨by omega, ?_⟩
  have G5 : Fx1 n h h5 := (F1.fx F2).trans (F3.trans (F4.trans F5))
  have key : ∃ b m2 : Int, (1 ≤ b ∧ 0 < m2 ∧ m2 < 100 ∧ b + m2 ≤ 100) ∧ (∀ (g : G) (q : Nat) (h' : Heap), h'[q]? = some (.lst [.int 1, .int 1, .int 95]) → idxV g (.ref q) (.int wide) h' = .ok (.int b) h') ∧ ∀ (g : G) (q : Nat) (h' : Heap), h'[q]? = some (.lst [.int 3, .int 9, .int 5]) → idxV g (.ref q) (.int wide) h' = .ok (.int m2) h' := by
    have hy : wide = 0 ∨ wide = 1 ∨ wide = 2 := by omega
    rcases hy with rfl | rfl | rfl
    · exact ⟨1, 3, by decide, fun g q h' e => by rw [ix_lst e]; rfl, fun g q h' e => by rw [ix_lst e]; rfl⟩
    · exact ⟨1, 9, by decide, fun g q h' e => by rw [ix_lst e]; rfl, fun g q h' e => by rw [ix_lst e]; rfl⟩
    · exact ⟨95, 5, by decide, fun g q h' e => by rw [ix_lst e]; rfl, fun g q h' e => by rw [ix_lst e]; rfl⟩
  obtain ⟨b, m2, ⟨hb, hm0, hm1, hbm⟩, k1, k2⟩ := key
  refine lcF_rng (fun (k : Nat) (a : List Val) (h' : Heap) => ∃ ys : List Int, a = ys.map .int ∧ ys.length = k ∧ (∀ y ∈ ys, 1 ≤ y ∧ y ≤ 99) ∧ Bx n (c + 4 + k) h' ∧ Fx1 n h h') rfl ?_ ?_ ?_ ⟨[], rfl, rfl, by simp, B5, G5⟩
  · rintro k a h' hk ⟨ys, rfl, hl, _⟩
    rw [List.length_map]
    show _ < 16777216
    omega
  · rintro k a h6 hk ⟨ys, rfl, hl, hy, B6, F6⟩
    refine ⟨_, rfl, ?_⟩
    simp
    refine sat_new fun q7 h7 e7 el7 l7 F7 => ?_
    rw [k1 _ _ _ e7]
    simp
    refine sat_new fun q8 h8 e8 el8 l8 F8 => ?_
    rw [k2 _ _ _ e8]
    simp
    refine c_take ((B6.fr F7).fr F8) (by omega) (by omega) fun y h9 y0 y1 B9 F9 l9 => ?_
    try simp
    refine ⟨ys ++ [b + y], by simp, by simp; omega, ?_, B9, F6.trans ((F7.trans F8).fx F9)⟩
    intro z hz
    rcases List.mem_append.mp hz with hz | hz
    · exact hy z hz
    · rw [List.mem_singleton.mp hz]; omega
  · rintro a h6 ⟨ws, rfl, hl, hy, B6, F6⟩
    refine sat_new fun pw h7 e7 el7 l7 F7 => ?_
    have hwl : ws.length ≤ 6 := by omega
    have n6 := B6.lt
    have l06 := F6.len
    try simp
    refine sat_new fun pl h8 e8 el8 l8 F8 => ?_
    try simp
    refine ⟨by omega, ?_⟩
    have pln : pl ≠ n := by omega
    have pwn : pw ≠ n := by omega
    obtain ⟨I, hI⟩ : ∃ I : Nat → Sl → Heap → Prop, I = fun k σ h' => ∃ (ls : List Int) (s5 s7 s8 s9 : Option Val), σ = [some (.ref n), some (.int kp), some (.int wide), some (.int (1 + y4)), some (.ref pw), s5, some (.ref pl), s7, s8, s9] ∧ h'[pl]? = some (.lst (ls.map .int)) ∧ ls.length = k ∧ (∀ l ∈ ls, 1 ≤ l ∧ l ≤ 999) ∧ Bx n (c + 20 + 6 * k) h' ∧ Fo [n, pl] h8 h' := ⟨_, rfl⟩
    refine loopF_rng I rfl ?_ ?_ ?_
    · rintro k _ h9 hk z
      rw [hI] at z
      obtain ⟨ls, s5, s7, s8, s9, rfl, ep, hlk, hls, B9, F9⟩ := z
      refine ⟨_, rfl, ?_⟩
      have ew9 := F9.at (F8.at e7) (by simp; omega)
      have l89 := F9.len
      simp [len_lst ew9]
      refine c_take B9 (by omega) (by omega) fun ya ha ya0 ya1 Ba Fa la => ?_
      try simp
      refine c_take Ba (by omega) (by decide) fun yb hb' yb0 yb1 Bb Fb lb => ?_
      have F9b := Fa.trans Fb
      obtain ⟨ya, rfl⟩ := Int.eq_ofNat_of_zero_le ya0
      obtain ⟨yb, rfl⟩ := Int.eq_ofNat_of_zero_le yb0
      simp
      refine (sq_lst (F9b.at ew9 pwn)).slc fun v7 hc' s7' F7' => ?_
      rw [show (ya : Int) + (yb : Int) = ((ya + yb : Nat) : Int) by omega, cutL_b (by omega)] at s7'
      rw [s7'.sum]
      have hs1 := sum_nn (l := (ws.drop ya).take (ya + yb - ya)) fun w hw => (hy w (List.mem_of_mem_drop (List.mem_of_mem_take hw))).1
      have hs2 := sum_up (l := (ws.drop ya).take (ya + yb - ya)) fun w hw => (hy w (List.mem_of_mem_drop (List.mem_of_mem_take hw))).2
      have hs3 : ((ws.drop ya).take (ya + yb - ya)).length ≤ 6 := by rw [List.length_take, List.length_drop]; omega
      generalize ((ws.drop ya).take (ya + yb - ya)).sum = sm at *
      have hsm : 0 ≤ sm ∧ sm ≤ 594 := by omega
      simp
      refine c_take (Bb.fr F7') (by omega) (by decide) fun yd hd yd0 yd1 Bd Fd ld => ?_
      simp
      refine c_take Bd (by omega) (by decide) fun ye he ye0 ye1 Be Fe le => ?_
      have F9e := (F9b.fr F7').trans (Fd.trans Fe)
      simp
      by_cases c4 : ye = 0
      · simp [c4]
        refine c_take Be (by omega) (by decide) fun yf hf yf0 yf1 Bf Ff lf => ?_
        have F9f := F9e.trans Ff
        have epf := F9f.at ep pln
        simp [rc_app epf]
        refine sat_app epf (by simp; omega) fun hg eg lg Fg => ?_
        rw [hI]
        refine ⟨ls ++ [max 1 (1 + yf)], _, _, _, _, rfl, by rw [eg]; simp, by simp; omega, fun l hl' => ?_, ?_, F9.trans ((Fo.one F9f (by simp)).trans (Fo.one Fg (by simp)))⟩
        · rcases List.mem_append.mp hl' with hl' | hl'
          · exact hls l hl'
          · rw [List.mem_singleton.mp hl']; omega
        · obtain ⟨x, y, z, ez, r⟩ := Bf
          exact Bx.up ⟨x, y, z, Fg.at ez (Ne.symm pln), r⟩ (by omega)
      · have epe := F9e.at ep pln
        simp [c4, rc_app epe]
        refine sat_app epe (by simp; omega) fun hg eg lg Fg => ?_
        rw [hI]
        refine ⟨ls ++ [max 1 (kp + sm + yd - 1)], _, _, _, _, rfl, by rw [eg]; simp, by simp; omega, fun l hl' => ?_, ?_, F9.trans ((Fo.one F9e (by simp)).trans (Fo.one Fg (by simp)))⟩
        · rcases List.mem_append.mp hl' with hl' | hl'
          · exact hls l hl'
          · rw [List.mem_singleton.mp hl']; omega
        · obtain ⟨x, y, z, ez, r⟩ := Be
          exact Bx.up ⟨x, y, z, Fg.at ez (Ne.symm pln), r⟩ (by omega)
    · rintro _ h9 z
      rw [hI] at z
      obtain ⟨ls, s5, s7, s8, s9, rfl, ep, hlk, hls, B9, F9⟩ := z
      simp
      have l89 := F9.len
      refine sat_new fun p ha ea ela la Fa => ?_
      have G : Fo [pl, n] h ha := (Fo.one ((F6.fr F7).fr F8) (by simp)).trans ((F9.sub (by simp)).trans (Fo.of Fa))
      exact Z p pw pl ws ls kp ha ea (Fa.at (F9.at (F8.at e7) (by simp; omega))) (Fa.at ep) ⟨by omega, hy⟩ hwl ⟨by omega, hls⟩ (by omega) (by omega) (by omega) (by omega) (by omega) (by omega) (by omega) ((B9.fr Fa).up (by omega)) (G.drop (by omega)).fx
    · rw [hI]
      exact ⟨[], _, _, _, _, rfl, e8, rfl, by simp, ((B6.fr F7).fr F8).up (by omega), Fo.refl _ _⟩
end
end Mi


namespace Mi
open PySem (Str PyData)
theorem slc_l {h : Heap} {p : Nat} {xs : List Val} {lo hi : Option Int} (e : h[p]? = some (.lst xs)) : slcV (.ref p) lo hi h = new (.lst ((xs.drop (HT.sIx xs.length 0 lo)).take (HT.sIx xs.length xs.length hi - HT.sIx xs.length 0 lo))) h := by
  unfold slcV
  simp [e]
theorem slc_dl {h : Heap} {p : Nat} {xs : List Val} (e : h[p]? = some (.lst xs)) : slcV (.ref p) none (some (-1)) h = new (.lst xs.dropLast) h := by
  have hi : HT.sIx xs.length xs.length (some (-1)) = xs.length - 1 := by
    show (if ((-1 : Int)) < 0 then ((-1 : Int) + (xs.length : Int)).toNat else min (-1 : Int).toNat xs.length) = _
    rw [if_pos (by decide)]
    omega
  rw [slc_l e, List.dropLast_eq_take, hi, show HT.sIx xs.length 0 none = 0 from rfl, List.drop_zero, Nat.sub_zero]
theorem bop_notin_is {X Y : List Nat} {h : Heap} {d : PyData} {ds : List PyData} {p q : Nat} {xs : List Val} {n w m v : Nat} (e : h[q]? = some (.lst xs)) (i : Is X h d (.ref p)) (j : Is Y h (.list ds) (.ref q)) (o : Okd d n w) (o' : Okd (.list ds) m v) (hn : n ≤ 60) (hm : m ≤ 60) :
    bop .notin (.ref p) (.ref q) h = .ok (.bl (!ds.any fun z => PyData.eqv z d)) h := by
  have h1 : inO h (.ref p) (.ref q) = none := by
    unfold inO
    dsimp only
    rw [e]
    dsimp only
    rw [if_neg (by rintro ⟨z, _⟩; cases z)]
  have h2 : inD h (.ref p) (.ref q) = some (ds.any fun z => PyData.eqv z d) := by
    unfold inD
    rw [i.rd (Nat.le_trans o.dep hn), j.rd (Nat.le_trans o'.dep hm)]
    dsimp only
    rw [if_pos ⟨o.shaped hn, o'.shaped hm⟩]
  show ofB ((inX h (.ref p) (.ref q)).map (!·)) h = _
  unfold inX
  rw [h1, h2]
  rfl
/-- the data of rows -/
def rD (prs : List RR) : List PyData := prs.map fun r => .list (r.2.map fun e : Nat => .int (e : Int))
theorem RwsI.is {h : Heap} {p : Nat} {prs : List RR} (r : RwsI h p prs) : Is [] h (.list (rD prs)) (.ref p) := by
  refine is_lst (by simp) r.1 ?_
  have : ∀ l : List RR, (∀ x ∈ l, h[x.1]? = some (.lst (iN x.2))) → IsAll [] h (rD l) (l.map fun r => .ref r.1) := by
    intro l
    induction l with
    | nil => intro _; exact isall_nil
    | cons x l ih => intro hl; exact isall_cons (is_lst (by simp) (hl x List.mem_cons_self) (isall_map (fun _ => is_int) x.2)) (ih fun y hy => hl y (List.mem_cons_of_mem _ hy))
  exact this prs r.2
/-- rows as they should be -/
def RowsOk (m k : Nat) (prs : List RR) : Prop := prs.length ≤ 2401 ∧ ∀ r ∈ prs, okN m 0 k r.2
theorem okN_bd {m : Nat} : ∀ {es : List Nat} {b k : Nat}, okN m b k es → ∀ e ∈ es, e ≤ m
  | [], _, _, _ => fun e he => by cases he
  | _ :: _, _, 0, h => by cases h
  | x :: es, _, k + 1, h => fun e he => by
    rcases List.mem_cons.mp he with rfl | he
    · exact h.2.1
    · exact okN_bd h.2.2 e he
theorem row_okd {m k : Nat} {es : List Nat} (ok : okN m 0 k es) (m6 : m ≤ 6) (k4 : k ≤ 4) : Okd (.list (es.map fun e : Nat => .int (e : Int))) 1 200 := by
  have hl := okN_len ok
  refine (okd_list (n := 0) (w := 20) fun d hd => ?_).up (Nat.le_refl _) (by rw [List.length_map]; omega)
  obtain ⟨e, he, rfl⟩ := List.mem_map.mp hd
  have := okN_bd ok e he
  exact (okd_int (k := 2) (by decide) (by omega) (by decide)).up (by decide) (by decide)
theorem rows_okd {m k : Nat} {prs : List RR} (r : RowsOk m k prs) (m6 : m ≤ 6) (k4 : k ≤ 4) : Okd (.list (rD prs)) 2 500000 := by
  refine (okd_list (n := 1) (w := 200) fun d hd => ?_).up (Nat.le_refl _) (by have := r.1; unfold rD; rw [List.length_map]; omega)
  obtain ⟨x, hx, rfl⟩ := List.mem_map.mp hd
  exact row_okd (r.2 x hx) m6 k4
theorem RowsOk.filter {m k : Nat} {prs : List RR} (r : RowsOk m k prs) (f : RR → Bool) : RowsOk m k (prs.filter f) :=
  ⟨Nat.le_trans (List.length_filter_le _ _) r.1, fun x hx => r.2 x (List.mem_filter.mp hx).1⟩
theorem RwsI.sq {h : Heap} {p : Nat} {prs : List RR} (r : RwsI h p prs) {x : RR} (hx : x ∈ prs) : Sq h (.ref x.1) (x.2.map fun e : Nat => (e : Int)) := by
  refine sq_lst ?_
  rw [r.2 x hx]
  unfold iN
  rw [List.map_map]
  rfl
theorem cut_full {ws : List Int} {keep : Int} : ∀ {ls : List Int} {b : Nat}, b ≤ ws.length → stE ws keep b ls < ws.length → (cutE ws keep b ls).length = ls.length
  | [], b, _, _ => rfl
  | l :: ls, b, hb, h => by
    have hf := fill_le (ws.drop b) (l - keep)
    rw [List.length_drop] at hf
    have h' : stE ws keep (b + fill (ws.drop b) (l - keep)) ls < ws.length := h
    have hbl : b < ws.length := by
      rcases Nat.lt_or_ge b ws.length with c | c
      · exact c
      · have hb2 : b = ws.length := by omega
        have h3 : stE ws keep b (l :: ls) = ws.length := (spE_out (ls := l :: ls) hb2).2
        omega
    have ih := cut_full (ls := ls) (b := b + fill (ws.drop b) (l - keep)) (by omega) h'
    unfold cutE
    rw [if_pos hbl, List.length_cons, ih, List.length_cons]
theorem cut_inner {ws : List Int} {keep : Int} : ∀ {ls : List Int} {b : Nat}, b ≤ ws.length → ∀ x ∈ (cutE ws keep b ls).dropLast, x ≠ (ws.length : Int)
  | [], b, _ => fun x hx => by cases hx
  | l :: ls, b, hb => by
    have hf := fill_le (ws.drop b) (l - keep)
    rw [List.length_drop] at hf
    intro x hx
    by_cases c : b < ws.length
    · have he : cutE ws keep b (l :: ls) = ((b + fill (ws.drop b) (l - keep) : Nat) : Int) :: cutE ws keep (b + fill (ws.drop b) (l - keep)) ls := by
        conv => lhs; unfold cutE
        rw [if_pos c]
      rw [he] at hx
      have ih := cut_inner (ws := ws) (ls := ls) (b := b + fill (ws.drop b) (l - keep)) (keep := keep) (by omega)
      by_cases c2 : b + fill (ws.drop b) (l - keep) < ws.length
      · cases hr : cutE ws keep (b + fill (ws.drop b) (l - keep)) ls with
        | nil => rw [hr] at hx; cases hx
        | cons y ys =>
          rw [hr] at hx ih
          rw [List.dropLast_cons_of_ne_nil (by simp)] at hx
          rcases List.mem_cons.mp hx with rfl | hx
          · omega
          · exact ih x hx
      · rw [cutE_end (by omega)] at hx
        cases hx
    · rw [cutE_end (by omega)] at hx
      cases hx
theorem cut_some {ws : List Int} {keep : Int} {ls : List Int} (hl : 1 ≤ ls.length) (hw : 0 < ws.length) : cutE ws keep 0 ls ≠ [] := by
  cases ls with
  | nil => simp at hl
  | cons l ls =>
    unfold cutE
    rw [if_pos hw]
    simp
section
variable {S : List Int} {L : Nat} {n c : Nat} {h : Heap} {Q : RQ Val} {E : RE}
theorem c_rowsF {f : RR → Bool} {p : Nat} {prs : List RR} {σ : Sl} {i : Nat} {Q : RQ (List Val)} {E : RE} {cnd : Sl → Heap → Res Bool} {en : Sl → Heap → Res Val} (R : RwsI h p prs) (ro : prs.length ≤ 2401)
    (hc : ∀ r ∈ prs, ∀ h', Fr h h' → ∃ σ', tgV (.nm i) (.ref r.1) σ h' = some σ' ∧ (cnd σ' h').sat (fun b h1 => b = f r ∧ Fr h' h1) nox ∧ ∀ h1, en σ' h1 = .ok (.ref r.1) h1)
    (Z : ∀ h', Fr h h' → Q ((prs.filter f).map fun r => .ref r.1) h') : (lcF ⟨prs.map (fun r => It.v (.ref r.1)), [(p, .lst (prs.map fun r => .ref r.1))]⟩ (.nm i) cnd en σ (prs.map (fun r => It.v (.ref r.1))) [] h).sat Q E := by
  refine lcF_each (k := fun r : RR => Val.ref r.1) (xs := prs) (fun rr a h' => ∃ done, prs = done ++ rr ∧ a = (done.filter f).map (fun r => .ref r.1) ∧ Fr h h') ?_ ?_ ?_ ?_ ⟨[], rfl, rfl, Fr.refl _⟩
  · rintro rr a h' ⟨_, _, _, F⟩
    exact ok_lst _ _ rfl (F.at R.1)
  · rintro x rr a h' ⟨done, he, rfl, F⟩
    have h1 := congrArg List.length he
    have h2 := List.length_filter_le f done
    have h3 := ro
    rw [List.length_append, List.length_cons] at h1
    rw [List.length_map]
    show _ < 16777216
    omega
  · rintro x rr a h' ⟨done, he, rfl, F⟩
    obtain ⟨σ', h1, h2, h3⟩ := hc x (by rw [he]; simp) h' F
    refine ⟨σ', h1, h2.imp (fun b h4 z => ?_) fun _ _ _ z => z⟩
    obtain ⟨rfl, F4⟩ := z
    cases hb : f x with
    | true =>
      rw [if_pos rfl, h3, sat_ok]
      exact ⟨done ++ [x], by rw [he]; simp, by simp [hb], F.trans F4⟩
    | false =>
      rw [if_neg (by decide)]
      exact ⟨done ++ [x], by rw [he]; simp, by simp [hb], F.trans F4⟩
  · rintro a h' ⟨done, he, rfl, F⟩
    rw [List.append_nil] at he
    subst he
    exact Z _ F
end
end Mi


namespace Mi
open PySem (Str PyData)
theorem eqv_nilR {ds : List PyData} : PyData.eqv (.list ds) (.list []) = ds.isEmpty := by cases ds <;> simp [PyData.eqv, PyData.eqvAll]
theorem RwsI.fil {h h' : Heap} {p q : Nat} {prs : List RR} {f : RR → Bool} (r : RwsI h p prs) (F : Fr h h') (e : h'[q]? = some (.lst ((prs.filter f).map fun r => .ref r.1))) : RwsI h' q (prs.filter f) := ⟨e, fun x hx => F.at (r.2 x (List.mem_filter.mp hx).1)⟩
theorem rows_ne {h : Heap} {p q : Nat} {prs : List RR} {m k : Nat} (R : RwsI h p prs) (r : RowsOk m k prs) (m6 : m ≤ 6) (k4 : k ≤ 4) (e : h[q]? = some (.lst [])) : bop .ne (.ref p) (.ref q) h = .ok (.bl (!prs.isEmpty)) h := by
  rw [bop_ne_is R.is (is_ints (X := []) (ns := []) (by simp) e) (rows_okd r m6 k4) (okd_ints (k := 3) (m := 40) (by decide) (by decide) (by simp) (by simp)) (by decide) (by decide)]
  rw [List.map_nil, eqv_nilR]
  cases prs <;> rfl
theorem rows_eq {h : Heap} {p q : Nat} {prs : List RR} {m k : Nat} (R : RwsI h p prs) (r : RowsOk m k prs) (m6 : m ≤ 6) (k4 : k ≤ 4) (e : h[q]? = some (.lst [])) : bop .eq (.ref p) (.ref q) h = .ok (.bl prs.isEmpty) h := by
  rw [bop_eq_is R.is (is_ints (X := []) (ns := []) (by simp) e) (rows_okd r m6 k4) (okd_ints (k := 3) (m := 40) (by decide) (by decide) (by simp) (by simp)) (by decide) (by decide)]
  rw [List.map_nil, eqv_nilR]
  cases prs <;> rfl
theorem rowsOk_of {m k : Nat} {prs : List RR} (hr : prs.map (·.2) = rowsN m k) (m6 : m ≤ 6) (k4 : k ≤ 4) : RowsOk m k prs := by
  constructor
  · have h1 := congrArg List.length hr
    rw [List.length_map] at h1
    have h2 := rows_len m k
    have h3 : (m + 1) ^ k ≤ 7 ^ k := Nat.pow_le_pow_left (by omega) k
    have h4 : 7 ^ k ≤ 7 ^ 4 := Nat.pow_le_pow_right (by decide) (by omega)
    have h5 : (7 : Nat) ^ 4 = 2401 := by decide
    omega
  · intro r hx
    refine mem_rows.mp ?_
    rw [← hr]
    exact List.mem_map_of_mem hx
/-- the last end of a row -/
def endN (es : List Nat) : Nat := es.getLastD 0
theorem last_row {h : Heap} {q m k : Nat} {es : List Nat} (e : h[q]? = some (.lst (iN es))) (ok : okN m 0 k es) (hk : 1 ≤ k) {g : G} : idxV g (.ref q) (.int (-1)) h = .ok (.int (endN es : Nat)) h := by
  have hl := okN_len ok
  have e' : h[q]? = some (.lst ((es.map fun e : Nat => (e : Int)).map .int)) := by rw [e]; unfold iN; rw [List.map_map]; rfl
  rw [last_ix e' (by rw [List.length_map]; omega)]
  have hne : es ≠ [] := fun z => by rw [z] at hl; simp at hl; omega
  congr 2
  have h0 : (es.map fun e : Nat => (e : Int)).getLast? = some ((endN es : Nat) : Int) := by
    rw [List.getLast?_map]
    unfold endN
    rw [List.getLastD_eq_getLast?, List.getLast?_eq_some_getLast hne]
    rfl
  exact (nth_last h0).1
theorem endN_some {es : List Nat} {m k : Nat} (ok : okN m 0 k es) (hk : 1 ≤ k) : es.getLast? = some (endN es) := by
  have hl := okN_len ok
  have hne : es ≠ [] := fun z => by rw [z] at hl; simp at hl; omega
  unfold endN
  rw [List.getLastD_eq_getLast?, List.getLast?_eq_some_getLast hne]
  rfl
theorem mem_prs {m k : Nat} {prs : List RR} (hr : prs.map (·.2) = rowsN m k) {es : List Nat} : okN m 0 k es ↔ ∃ r ∈ prs, r.2 = es := by
  rw [← mem_rows, ← hr, List.mem_map]
theorem eqv_row {a b : List Nat} : PyData.eqv (.list (a.map fun e : Nat => .int (e : Int))) (.list (b.map fun e : Nat => .int (e : Int))) = decide (a = b) := by
  have h1 : ∀ l : List Nat, (l.map fun e : Nat => PyData.int (e : Int)) = (l.map fun e : Nat => (e : Int)).map .int := fun l => by rw [List.map_map]; rfl
  rw [h1, h1, eqv_ints]
  congr 1
  rw [eq_iff_iff]
  constructor
  · intro z
    exact List.map_inj_right (fun _ _ q => Int.ofNat_inj.mp q) |>.mp z
  · intro z
    rw [z]
theorem in_rows {prs : List RR} {es : List Nat} : ((rD prs).any fun z => PyData.eqv z (.list (es.map fun e : Nat => .int (e : Int)))) = decide (∃ r ∈ prs, r.2 = es) := by
  rw [Bool.eq_iff_iff, List.any_eq_true, decide_eq_true_iff]
  unfold rD
  constructor
  · rintro ⟨d, hd, e⟩
    obtain ⟨r, hr, rfl⟩ := List.mem_map.mp hd
    rw [eqv_row, decide_eq_true_iff] at e
    exact ⟨r, hr, e⟩
  · rintro ⟨r, hr, rfl⟩
    exact ⟨_, List.mem_map_of_mem hr, by rw [eqv_row]; simp⟩
theorem is_row {X : List Nat} {h : Heap} {q : Nat} {es : List Nat} (hq : q ∉ X) (e : h[q]? = some (.lst (iN es))) : Is X h (.list (es.map fun e : Nat => .int (e : Int))) (.ref q) := is_lst hq e (isall_map (fun _ => is_int) es)
theorem notin_tup {h : Heap} {t : Nat} {xs : List Val} {x : Str} (e : h[t]? = some (.tup xs)) (hf : xs.all flat = true) : bop .notin (.str x) (.ref t) h = .ok (.bl (!xs.any fun y => eqF y (.str x))) h := by
  have h1 : inO h (.str x) (.ref t) = some (xs.any fun y => eqF y (.str x)) := by
    unfold inO
    dsimp only
    rw [e]
    dsimp only
    rw [if_pos ⟨rfl, hf⟩]
  show ofB ((inX h (.str x) (.ref t)).map (!·)) h = _
  unfold inX
  rw [h1]
  rfl
theorem ne_nilI {h : Heap} {p q : Nat} {ns : List Int} (e1 : h[p]? = some (.lst (ns.map .int))) (e2 : h[q]? = some (.lst [])) (hl : ns.length ≤ 40) (hb : ∀ n ∈ ns, n.natAbs < 10000) : bop .ne (.ref p) (.ref q) h = .ok (.bl (!decide (ns = []))) h := by
  rw [bop_ne_is (X := []) (Y := []) (is_ints (by simp) e1) (is_ints (ns := []) (by simp) e2) (okd_ints (k := 4) (m := 40) (by decide) (by decide) hl fun n hn => by have := hb n hn; simpa using this) (okd_ints (k := 3) (m := 40) (by decide) (by decide) (by simp) (by simp)) (by decide) (by decide), eqv_ints]
theorem eq_nilI {h : Heap} {p q : Nat} {ns : List Int} (e1 : h[p]? = some (.lst (ns.map .int))) (e2 : h[q]? = some (.lst [])) (hl : ns.length ≤ 40) (hb : ∀ n ∈ ns, n.natAbs < 10000) : bop .eq (.ref p) (.ref q) h = .ok (.bl (decide (ns = []))) h := by
  rw [bop_eq_is (X := []) (Y := []) (is_ints (by simp) e1) (is_ints (ns := []) (by simp) e2) (okd_ints (k := 4) (m := 40) (by decide) (by decide) hl fun n hn => by have := hb n hn; simpa using this) (okd_ints (k := 3) (m := 40) (by decide) (by decide) (by simp) (by simp)) (by decide) (by decide), eqv_ints]
theorem full_iff {ws ls : List Int} {keep : Int} {prs : List RR} (W : ∀ w ∈ ws, 1 ≤ w) (l1 : 1 ≤ ls.length) (hr : prs.map (·.2) = rowsN ws.length ls.length) : ((prs.filter fun r => fitB ws ls keep r.2).filter fun r => decide (endN r.2 = ws.length)).isEmpty = !upAt ws ls keep := by
  have hne : ls ≠ [] := fun z => by rw [z] at l1; simp at l1
  rw [Bool.eq_iff_iff, List.isEmpty_iff, List.filter_eq_nil_iff]
  constructor
  · intro z
    cases hu : upAt ws ls keep with
    | false => rfl
    | true =>
      obtain ⟨es, h1, h2, h3⟩ := (up_iff W hne).mp hu
      obtain ⟨r, hm, rfl⟩ := (mem_prs hr).mp h1
      have := z r (List.mem_filter.mpr ⟨hm, fit_iff.mpr h2⟩)
      rw [endN_some h1 l1] at h3
      simp at this h3
      exact absurd h3 this
  · intro z r hm he
    obtain ⟨hm, hf⟩ := List.mem_filter.mp hm
    have ok := (mem_prs hr).mpr ⟨r, hm, rfl⟩
    have hu : upAt ws ls keep = true := (up_iff W hne).mpr ⟨r.2, ok, fit_iff.mp hf, by rw [endN_some ok l1, of_decide_eq_true he]⟩
    rw [hu] at z
    cases z
end Mi


namespace Mi
open PySem (Str PyData)
theorem whole_gr {ws ls : List Int} {keep : Int} (hl : (cutE ws keep 0 ls).length ≤ ls.length) {k : Int} (hk : k = (ls.length : Int) - ((cutE ws keep 0 ls).length : Int)) : (cutE ws keep 0 ls).map Val.int ++ (List.replicate k.toNat [Val.int (ws.length : Int)]).flatten = iN (grN ws keep 0 ls) := by
  have h1 : (List.replicate k.toNat [Val.int (ws.length : Int)]).flatten = (List.replicate (ls.length - (cutE ws keep 0 ls).length) (ws.length : Int)).map Val.int := by
    rw [show k.toNat = ls.length - (cutE ws keep 0 ls).length by omega]
    generalize ls.length - (cutE ws keep 0 ls).length = n
    induction n with
    | zero => rfl
    | succ n ih => rw [List.replicate_succ, List.flatten_cons, ih, List.replicate_succ]; rfl
  rw [h1, ← List.map_append, ← spE_is (Nat.zero_le _), spE_gr, List.map_map]
  rfl
theorem dom_at : ∀ {es gs : List Nat}, domN es gs → ∀ (k x y : Nat), es[k]? = some x → gs[k]? = some y → x ≤ y
  | [], [], _, _, _, _, h, _ => by simp at h
  | e :: es, g :: gs, h, 0, x, y, h1, h2 => by
    simp at h1 h2
    subst h1 h2
    exact h.1
  | e :: es, g :: gs, h, k + 1, x, y, h1, h2 => by
    simp at h1 h2
    exact dom_at h.2 k x y h1 h2
  | [], _ :: _, h, _, _, _, _, _ => by cases h
  | _ :: _, [], h, _, _, _, _, _ => by cases h
section
variable {S : List Int} {L : Nat} {n c : Nat} {h : Heap} {Q : RQ Val} {E : RE}
theorem c_fewest_right {v u : Val} {ws ls : List Int} {keep : Int} {p : Nat} {prs : List RR} (s : Sq h v ws) (t : Sq h u ls) (g : Gd ws 60 99) (g' : Gd ls 40 999) (m6 : ws.length ≤ 6) (l1 : 1 ≤ ls.length) (l4 : ls.length ≤ 4) (k0 : 0 ≤ keep) (k5 : keep ≤ 5) (R : RwsI h p prs) (hr : prs.map (·.2) = rowsN ws.length ls.length) (Z : ∀ h', Fr h h' → Q (.bl true) h') : (calls D gl S (L + 5) 15 [v, u, .int keep, .ref p] h).sat Q E := by
  show (runDef ⟨calls D gl S (L + 4), gl, S, none⟩ d15 [v, u, .int keep, .ref p] h).sat _ _
  unfold runDef startV d15 b15
  have W : ∀ w ∈ ws, 1 ≤ w := fun w hw => (g.2 w hw).1
  have hne : ls ≠ [] := fun z => by rw [z] at l1; simp at l1
  have ro := rowsOk_of hr m6 l4
  try simp
  refine c_cut s t g g' k0 (by omega) fun p1 h1 C1 F1 => ?_
  obtain ⟨q2, e1, e2, b1, b2, n12⟩ := C1
  rw [cutF_E] at e2
  have s1 := s.fr F1
  have t1 := t.fr F1
  have cl := cutE_len ws keep ls 0
  rw [set_two e1, sat_ok]
  try simp
  rw [s1.len]
  try simp
  refine sat_new fun q3 h3 e3 el3 l3 F3 => ?_
  have e23 := F3.at e2
  rw [(t1.fr F3).len]
  try simp
  rw [len_lst e23]
  try simp
  rw [mul_lst e3, if_pos (by simp; omega)]
  refine sat_new fun q4 h4 e4 el4 l4' F4 => ?_
  rw [add_lst (F4.at e23) e4, if_pos (by simp; omega), whole_gr cl (by simp)]
  refine sat_new fun q5 h5 e5 el5 l5 F5 => ?_
  have F15 := F3.trans (F4.trans F5)
  have F05 := F1.trans F15
  have R5 := R.fr F05
  try simp
  rw [srcR_lst R5.1, List.map_map, sat_ok]
  dsimp only
  refine c_rowsF (f := fun r => fitB ws ls keep r.2) R5 ro.1 ?_ fun h6 F6 => ?_
  · intro r hx h' F
    refine ⟨_, rfl, ?_, ?_⟩
    · simp
      have sr := ((R5.fr F).sq hx)
      refine c_fits ((s.fr F05).fr F) ((t.fr F05).fr F) sr g g' (ro.2 r hx) fun h1 F1 => ?_
      simp
      exact F1
    · intro h1
      simp
  refine sat_new fun q6 h7 e7 el7 l7 F7 => ?_
  have R7 := R5.fil (F6.trans F7) e7
  have ro7 := ro.filter fun r => fitB ws ls keep r.2
  have F07 := F05.trans (F6.trans F7)
  have e57 := (F6.trans F7).at e5
  rw [srcR_lst R7.1, List.map_map, sat_ok]
  dsimp only
  refine c_rowsF (f := fun _ => false) R7 ro7.1 ?_ fun h8 F8 => ?_
  · intro r hx h' F
    have er := F.at (R7.2 r hx)
    have ew := F.at e57
    have okr := ro7.2 r hx
    have hrl := okN_len okr
    have hft := fit_iff.mp (List.mem_filter.mp hx).2
    have hdm := gr_dom W ls r.2 0 0 okr hft (Nat.le_refl _)
    refine ⟨_, rfl, ?_, fun h1 => by simp⟩
    simp
    rw [srcR_enum er, sat_ok]
    dsimp only
    unfold iN
    rw [List.zipIdx_map, List.map_map]
    refine lcF_pairs (k1 := fun p : Nat × Nat => .int p.2) (k2 := fun p => .int p.1) (xs := r.2.zipIdx 0) (fun rr a h'' => (∃ done, r.2.zipIdx 0 = done ++ rr) ∧ a = [] ∧ Fr h' h'') ?_ ?_ ?_ ?_ ⟨⟨[], rfl⟩, rfl, Fr.refl _⟩
    · rintro rr a h'' ⟨_, _, F2⟩
      exact ok_lst _ _ rfl (F2.at er)
    · rintro i rr a h'' ⟨_, rfl, F2⟩
      show 0 < SL
      decide
    · rintro x rr a h'' h3 ⟨⟨done, hd⟩, rfl, F2⟩ F3 l3
      have hx1 : x ∈ r.2.zipIdx 0 := by rw [hd]; simp
      have hx2 := List.mem_zipIdx_iff_getElem?.mp hx1
      have hxl : x.2 < r.2.length := (List.getElem?_eq_some_iff.mp hx2).1
      have hgl := okN_len (gr_ok (ws := ws) (keep := keep) ls 0 (Nat.zero_le _))
      have hy : (grN ws keep 0 ls)[x.2]? = some ((grN ws keep 0 ls)[x.2]'(by omega)) := List.getElem?_eq_getElem _
      have hle := dom_at hdm _ _ _ hx2 hy
      simp
      rw [ix_lst (F3.at (F2.at ew))]
      refine sat_at (by omega) (by unfold iN; rw [List.length_map]; omega) fun y _ hy2 => ?_
      unfold iN at hy2
      rw [List.getElem?_map, Int.toNat_natCast, hy] at hy2
      simp at hy2
      subst hy2
      simp
      exact ⟨by omega, ⟨done ++ [x], by rw [hd]; simp⟩, F2.trans F3⟩
    · rintro a h'' ⟨_, rfl, F2⟩
      refine sat_new fun q9 h9 e9 el9 l9 F9 => ?_
      refine sat_new fun q10 h10 e10 el10 l10 F10 => ?_
      rw [ne_nilI (ns := []) (F10.at e9) e10 (by simp) (by simp)]
      simp
      exact F2.trans (F9.trans F10)
  have hnil : (List.filter (fun _ => false) (prs.filter fun r => fitB ws ls keep r.2)) = [] := by simp
  rw [hnil]
  refine sat_new fun q11 h9 e9 el9 l9 F9 => ?_
  have F79 := F8.trans F9
  have R9 := R7.fr F79
  rw [srcR_lst R9.1, List.map_map, sat_ok]
  dsimp only
  refine c_rowsF (f := fun r => decide (endN r.2 = ws.length)) R9 ro7.1 ?_ fun ha Fa => ?_
  · intro r hx h' F
    have okr := ro7.2 r hx
    refine ⟨_, rfl, ?_, fun h1 => by simp⟩
    simp
    rw [last_row (F.at (R9.2 r hx)) okr l1]
    simp
    exact ⟨by omega, Fr.refl _⟩
  refine sat_new fun q12 hb eb elb lb Fb => ?_
  have Rb := R9.fil (Fa.trans Fb) eb
  have rob := ro7.filter fun r => decide (endN r.2 = ws.length)
  have F7b := F79.trans (Fa.trans Fb)
  have e5b := F7b.at e57
  have R7b := R7.fr F7b
  have hgm : okN ws.length 0 ls.length (grN ws keep 0 ls) := gr_ok ls 0 (Nat.zero_le _)
  rw [bop_notin_is R7b.1 (is_row (X := []) (by simp) e5b) R7b.is (row_okd hgm m6 l4) (rows_okd ro7 m6 l4) (by decide) (by decide), in_rows]
  have hin : ∃ r ∈ prs.filter (fun r => fitB ws ls keep r.2), r.2 = grN ws keep 0 ls := by
    obtain ⟨r, hm, e⟩ := (mem_prs hr).mp hgm
    exact ⟨r, List.mem_filter.mpr ⟨hm, by rw [e]; exact fit_iff.mpr (gr_fit W ls 0)⟩, e⟩
  rw [decide_eq_true hin]
  simp
  refine sat_new fun q13 hc ec elc lc Fc => ?_
  rw [ne_nilI (ns := []) (Fc.at ((Fa.trans Fb).at e9)) ec (by simp) (by simp)]
  simp
  refine sat_new fun q14 hd ed eld ld Fd => ?_
  rw [notin_tup ed rfl]
  have Rd := (Rb.fr (Fc.trans Fd))
  have e2d := Fd.at (Fc.at (F7b.at ((F6.trans F7).at ((F4.trans F5).at e23))))
  have td := t1.fr (F15.trans (F6.trans (F7.trans (F7b.trans (Fc.trans Fd)))))
  have Fx : Fr h hd := F07.trans (F7b.trans (Fc.trans Fd))
  have hcl : (cutE ws keep 0 ls).length ≤ 40 := by omega
  have hup := up_st (ws := ws) (ls := ls) (k := keep)
  have hfull := full_iff (keep := keep) W l1 hr
  cases hu : upAt ws ls keep with
  | true =>
    have hw : wordOf ws (cutF ws ls keep).2 = z1 := by have := word_eq (ws := ws) (ls := ls) (k := keep); rw [hu, decide_eq_true_iff] at this; exact this
    rw [hw]
    simp [eqF]
    refine sat_new fun q15 he ee ele le Fe => ?_
    rw [rows_ne (Rd.fr Fe) rob m6 l4 ee, hfull, hu]
    simp [z01, Ne.symm z01]
    have e2e := Fe.at e2d
    rw [slc_dl e2e]
    refine sat_new fun q16 hf ef elf lf Ff => ?_
    rw [show ((cutE ws keep 0 ls).map Val.int).dropLast = (cutE ws keep 0 ls).dropLast.map Val.int by simp] at ef
    rw [srcR_lst ef, List.map_map, sat_ok]
    dsimp only
    rw [show (cutE ws keep 0 ls).dropLast.map (It.v ∘ Val.int) = (cutE ws keep 0 ls).dropLast.map fun o => It.v (Val.int o) from rfl]
    rw [lcF_pure (k := Val.int) (p := fun o => decide (o = (ws.length : Int))) (f := Val.int) (ok_lst _ _ rfl ef) (fun o ho => ⟨_, rfl, by simp, fun _ => by simp⟩) (by simp; omega)]
    have hnl : (cutE ws keep 0 ls).dropLast.filter (fun o => decide (o = (ws.length : Int))) = [] := by
      rw [List.filter_eq_nil_iff]
      intro x hx
      have := cut_inner (keep := keep) (ls := ls) (Nat.zero_le ws.length) x hx
      simpa using this
    rw [hnl]
    simp
    refine sat_new fun q17 hg eg elg lg Fg => ?_
    refine sat_new fun q18 hi ei eli li Fi => ?_
    rw [eq_nilI (ns := []) (Fi.at eg) ei (by simp) (by simp)]
    simp
    refine sat_new fun q19 hj ej elj lj Fj => ?_
    have Fej := Ff.trans (Fg.trans (Fi.trans Fj))
    rw [ne_nilI (Fej.at e2e) ej hcl (by
      intro n hn
      have hx := spE_is (ws := ws) (keep := keep) (ls := ls) (Nat.zero_le _)
      have := spE_bd (ws := ws) (keep := keep) (ls := ls) (b := 0) (Nat.zero_le _) n (by rw [hx]; exact List.mem_append_left _ hn)
      omega)]
    simp
    have FZ := Fx.trans (Fe.trans Fej)
    by_cases c : ws = []
    · subst c
      simp [cutE_end]
      exact Z _ FZ
    · have hp := List.length_pos_iff.mpr c
      have := cut_some (ws := ws) (keep := keep) l1 hp
      simp [this]
      exact Z _ FZ
  | false =>
    have hw : wordOf ws (cutF ws ls keep).2 = z0 := by have := word_eq2 (ws := ws) (ls := ls) (k := keep); rw [hu] at this; exact of_decide_eq_true this
    rw [hw]
    simp [eqF]
    refine sat_new fun q15 he ee ele le Fe => ?_
    rw [rows_ne (Rd.fr Fe) rob m6 l4 ee, hfull, hu]
    simp [z01, Ne.symm z01]
    have e2e := Fe.at e2d
    rw [len_lst e2e, sat_ok, (td.fr Fe).len]
    simp
    rw [hu] at hup
    have hlt := stE_le (ws := ws) (keep := keep) (ls := ls) (b := 0) (Nat.zero_le _)
    have hne2 : stE ws keep 0 ls ≠ ws.length := of_decide_eq_false hup.symm
    have hcf := cut_full (ws := ws) (keep := keep) (ls := ls) (b := 0) (Nat.zero_le _) (by omega)
    simp [hcf]
    exact Z _ (Fx.trans Fe)
end
end Mi


namespace Mi
open PySem (Str PyData)
def dropS : Nat → Sts → Sts
  | 0, s => s
  | _ + 1, .nil => .nil
  | n + 1, .cons _ r => dropS n r
theorem fold_max : ∀ (ns : List Int) (a : Int), a ≤ ns.foldl max a ∧ (∀ y ∈ ns, y ≤ ns.foldl max a) ∧ (ns.foldl max a = a ∨ ns.foldl max a ∈ ns)
  | [], a => ⟨Int.le_refl _, by simp, .inl rfl⟩
  | n :: ns, a => by
    obtain ⟨h1, h2, h3⟩ := fold_max ns (max a n)
    rw [List.foldl_cons]
    refine ⟨by omega, fun y hy => ?_, ?_⟩
    · rcases List.mem_cons.mp hy with rfl | hy
      · omega
      · exact h2 y hy
    · rcases h3 with h3 | h3
      · rcases Int.le_total a n with c | c
        · right; rw [h3, Int.max_eq_right c]; exact List.mem_cons_self
        · left; rw [h3, Int.max_eq_left c]
      · right; exact List.mem_cons_of_mem _ h3
theorem maxL_eq {ns : List Int} {x : Int} (hm : x ∈ ns) (hl : ∀ y ∈ ns, y ≤ x) : maxL ns = x := by
  obtain ⟨h1, h2, h3⟩ := fold_max ns (ns.headD 0)
  have hx := h2 x hm
  unfold maxL
  rcases h3 with h3 | h3
  · have : ns.headD 0 ∈ ns := by
      cases ns with
      | nil => cases hm
      | cons a l => exact List.mem_cons_self
    rw [h3] at hx ⊢
    exact Int.le_antisymm (hl _ this) hx
  · exact Int.le_antisymm (hl _ h3) hx
theorem lst_max {g : G} {h : Heap} {q : Nat} {ns : List Int} {x : Int} (e : h[q]? = some (.lst (ns.map .int))) (hm : x ∈ ns) (hl : ∀ y ∈ ns, y ≤ x) : Mi.pri g .max [.ref q] h = .ok (.int x) h := by
  have h1 : 0 < ns.length := List.length_pos_of_mem hm
  rw [← maxL_eq hm hl]
  simp [pri, maxV, seqO, e, intsO_map, h1]
def SpT (h : Heap) (tv : Val) (ws ls : List Int) : Prop := (upAt ws ls 0 = true ∧ ∃ p q m, tv = .ref p ∧ h[p]? = some (.tup [.int (spF ws ls), .ref q, m]) ∧ h[q]? = some (.lst (iN (grN ws (spF ws ls) 0 ls)))) ∨ (upAt ws ls 0 = false ∧ tv = .int (stE ws 0 0 ls : Nat))
theorem cut_snd {ws ls : List Int} {k : Int} : (cutF ws ls k).2 = stE ws k 0 ls := by
  unfold cutF
  exact st_fold (Nat.zero_le _)
section
variable {S : List Int} {L : Nat} {n c : Nat} {h : Heap} {Q : RQ Val} {E : RE}
theorem c_rowsM {f : RR → Int} {p : Nat} {prs : List RR} {σ : Sl} {i : Nat} {Q : RQ (List Val)} {E : RE} {cnd : Sl → Heap → Res Bool} {en : Sl → Heap → Res Val} (R : RwsI h p prs) (ro : prs.length ≤ 2401)
    (hc : ∀ r ∈ prs, ∀ h', Fr h h' → ∃ σ', tgV (.nm i) (.ref r.1) σ h' = some σ' ∧ cnd σ' h' = .ok true h' ∧ (en σ' h').sat (fun v h1 => v = .int (f r) ∧ Fr h' h1) nox)
    (Z : ∀ h', Fr h h' → Q ((prs.map f).map .int) h') : (lcF ⟨prs.map (fun r => It.v (.ref r.1)), [(p, .lst (prs.map fun r => .ref r.1))]⟩ (.nm i) cnd en σ (prs.map (fun r => It.v (.ref r.1))) [] h).sat Q E := by
  refine lcF_each (k := fun r : RR => Val.ref r.1) (xs := prs) (fun rr a h' => ∃ done, prs = done ++ rr ∧ a = (done.map f).map .int ∧ Fr h h') ?_ ?_ ?_ ?_ ⟨[], rfl, rfl, Fr.refl _⟩
  · rintro rr a h' ⟨_, _, _, F⟩
    exact ok_lst _ _ rfl (F.at R.1)
  · rintro x rr a h' ⟨done, he, rfl, F⟩
    have h1 := congrArg List.length he
    rw [List.length_append, List.length_cons] at h1
    rw [List.length_map, List.length_map]
    show _ < 16777216
    omega
  · rintro x rr a h' ⟨done, he, rfl, F⟩
    obtain ⟨σ', h1, h2, h3⟩ := hc x (by rw [he]; simp) h' F
    refine ⟨σ', h1, ?_⟩
    rw [h2, sat_ok, if_pos rfl]
    refine h3.imp (fun v h4 z => ?_) fun _ _ _ z => z
    obtain ⟨rfl, F4⟩ := z
    exact ⟨done ++ [x], by rw [he]; simp, by simp, F.trans F4⟩
  · rintro a h' ⟨done, he, rfl, F⟩
    rw [List.append_nil] at he
    subst he
    exact Z _ F
theorem rep_int {g : G} {h : Heap} {x : Int} (hx : x.natAbs < 10000) : Mi.pri g .repr [.int x] h = .ok (.str (PyData.shown (.int x))) h := sat_repr (X := []) is_int (okd_int (k := 4) (by decide) (by simpa using hx) (by decide)) (by decide) (by decide)
theorem spread_tail {v u tv : Val} {ws ls : List Int} {p : Nat} {prs : List RR} (s : Sq h v ws) (t : Sq h u ls) (g : Gd ws 60 99) (g' : Gd ls 40 999) (m6 : ws.length ≤ 6) (l1 : 1 ≤ ls.length) (l4 : ls.length ≤ 4) (R : RwsI h p prs) (hr : prs.map (·.2) = rowsN ws.length ls.length) (T : SpT h tv ws ls) (Z : ∀ h', Fr h h' → Q (.bl true) h') : (exes ⟨calls D gl S (L + 5), gl, S, none⟩ (dropS 2 b16) [some v, some u, some (.ref p), some tv, none, none, none, none, none] h).sat (fun f h => (f.out h).sat Q E) nox := by
  unfold b16 dropS dropS dropS
  have W : ∀ w ∈ ws, 1 ≤ w := fun w hw => (g.2 w hw).1
  have Lp : ∀ l ∈ ls, 1 ≤ l := fun l hl => (g'.2 l hl).1
  have hne : ls ≠ [] := fun z => by rw [z] at l1; simp at l1
  have ro := rowsOk_of hr m6 l4
  simp
  rw [srcR_lst R.1, List.map_map, sat_ok]
  dsimp only
  refine c_rowsF (f := fun r => fitB ws ls 0 r.2) R ro.1 ?_ fun h6 F6 => ?_
  · intro r hx h' F
    refine ⟨_, rfl, ?_, ?_⟩
    · simp
      have sr := ((R.fr F).sq hx)
      refine c_fits (s.fr F) (t.fr F) sr g g' (ro.2 r hx) fun h1 F1 => ?_
      simp
      exact F1
    · intro h1
      simp
  refine sat_new fun q6 h7 e7 el7 l7 F7 => ?_
  have R7 := R.fil (F6.trans F7) e7
  have ro7 := ro.filter fun r => fitB ws ls 0 r.2
  have F07 := F6.trans F7
  rw [srcR_lst R7.1, List.map_map, sat_ok]
  dsimp only
  refine c_rowsF (f := fun r => decide (endN r.2 = ws.length)) R7 ro7.1 ?_ fun ha Fa => ?_
  · intro r hx h' F
    have okr := ro7.2 r hx
    refine ⟨_, rfl, ?_, fun h1 => by simp⟩
    simp
    rw [last_row (F.at (R7.2 r hx)) okr l1]
    simp
    rw [(s.fr (F07.trans F)).len]
    simp
    exact ⟨by omega, Fr.refl _⟩
  refine sat_new fun q12 hb eb elb lb Fb => ?_
  have Rb := R7.fil (Fa.trans Fb) eb
  have rob := ro7.filter fun r => decide (endN r.2 = ws.length)
  refine sat_new fun q13 hc ec elc lc Fc => ?_
  have hfull := full_iff (keep := 0) W l1 hr
  rw [rows_eq (Rb.fr Fc) rob m6 l4 ec, hfull]
  have F7c := Fa.trans (Fb.trans Fc)
  have F0c := F07.trans F7c
  have Rc := R7.fr F7c
  rcases T with ⟨hu, p1, q1, m1, rfl, et, eq⟩ | ⟨hu, rfl⟩
  · rw [hu]
    simp
    rw [is_a_tup (F0c.at et)]
    simp [okTy, isTy]
    rw [ix_tup (F0c.at et)]
    simp [lstAt, L2.atI, L2.ixN]
    have sq := spread_eq W l1 Lp hu
    have hmin : 1 ≤ minL ls := Lp _ (minL_mem l1)
    obtain ⟨s1, s2, s3, s4⟩ := spF_ok hu (by omega)
    have hgm : okN ws.length 0 ls.length (grN ws (spF ws ls) 0 ls) := gr_ok ls 0 (Nat.zero_le _)
    have hge : endN (grN ws (spF ws ls) 0 ls) = ws.length := by
      have := endN_some hgm l1
      rw [sq.2] at this
      exact (Option.some.inj this).symm
    have hin : ∃ r ∈ (prs.filter (fun r => fitB ws ls 0 r.2)).filter (fun r => decide (endN r.2 = ws.length)), r.2 = grN ws (spF ws ls) 0 ls := by
      obtain ⟨r, hm, e⟩ := (mem_prs hr).mp hgm
      exact ⟨r, List.mem_filter.mpr ⟨List.mem_filter.mpr ⟨hm, by rw [e]; exact fit_iff.mpr (fits_le (gr_fit W ls 0) s1)⟩, by rw [e, decide_eq_true hge]⟩, e⟩
    have Rbc := Rb.fr Fc
    rw [bop_notin_is Rbc.1 (is_row (X := []) (by simp) (F0c.at eq)) Rbc.is (row_okd hgm m6 l4) (rows_okd rob m6 l4) (by decide) (by decide), in_rows, decide_eq_true hin]
    simp
    rw [srcR_lst Rbc.1, List.map_map, sat_ok]
    dsimp only
    refine c_rowsM (f := fun r => leastN ws ls r.2) Rbc rob.1 ?_ fun hd Fd => ?_
    · intro r hx h' F
      refine ⟨_, rfl, by simp, ?_⟩
      simp
      refine c_least (s.fr (F0c.trans F)) (t.fr (F0c.trans F)) ((Rbc.fr F).sq hx) g g' l1 (rob.2 r hx) fun h1 F1 => ?_
      exact ⟨rfl, F1⟩
    refine sat_new fun q14 he ee ele le Fe => ?_
    have F0e := F0c.trans (Fd.trans Fe)
    obtain ⟨r0, hr0, er0⟩ := hin
    rw [lst_max (x := spF ws ls) ee (by
      rw [List.mem_map]
      exact ⟨r0, hr0, by show leastN ws ls r0.2 = _; rw [er0]; exact sq.1⟩) (by
      intro y hy
      obtain ⟨r, hm, rfl⟩ := List.mem_map.mp hy
      have hm2 := List.mem_filter.mp hm
      have ok := rob.2 r hm
      exact spread_le W l1 Lp hu ok (by rw [endN_some ok l1, of_decide_eq_true hm2.2]))]
    simp
    rw [ix_tup (F0e.at et)]
    simp [lstAt, L2.atI, L2.ixN]
    have hM := (g'.2 _ (minL_mem l1)).2
    rw [rep_int (by omega)]
    try simp
    rw [rep_int (by omega)]
    try simp
    rw [ix_tup (F0e.at et)]
    simp [lstAt, L2.atI, L2.ixN]
    have hgi : iN (grN ws (spF ws ls) 0 ls) = ((grN ws (spF ws ls) 0 ls).map fun e : Nat => (e : Int)).map .int := by unfold iN; rw [List.map_map]; rfl
    have eq2 := F0e.at eq
    rw [hgi] at eq2
    refine c_least (s.fr F0e) (t.fr F0e) (sq_lst eq2) g g' l1 hgm fun hf Ff => ?_
    rw [sq.1]
    simp
    exact Z _ (F0e.trans Ff)
  · rw [hu]
    simp
    have hle := stE_le (ws := ws) (keep := 0) (ls := ls) (b := 0) (Nat.zero_le _)
    rw [rep_int (by omega)]
    simp
    rw [srcR_lst Rc.1, List.map_map, sat_ok]
    dsimp only
    have hgm : okN ws.length 0 ls.length (grN ws 0 0 ls) := gr_ok ls 0 (Nat.zero_le _)
    refine c_rowsM (f := fun r => (endN r.2 : Nat)) Rc ro7.1 ?_ fun hd Fd => ?_
    · intro r hx h' F
      refine ⟨_, rfl, by simp, ?_⟩
      simp
      rw [last_row (F.at (Rc.2 r hx)) (ro7.2 r hx) l1]
      exact ⟨rfl, Fr.refl _⟩
    refine sat_new fun q14 he ee ele le Fe => ?_
    rw [lst_max (x := (stE ws 0 0 ls : Nat)) ee (by
      obtain ⟨r, hm, e⟩ := (mem_prs hr).mp hgm
      rw [List.mem_map]
      refine ⟨r, List.mem_filter.mpr ⟨hm, by rw [e]; exact fit_iff.mpr (gr_fit W ls 0)⟩, ?_⟩
      show ((endN r.2 : Nat) : Int) = _
      have h1 := endN_some hgm l1
      rw [st_last hne] at h1
      rw [e, Option.some.inj h1]) (by
      intro y hy
      obtain ⟨r, hm, rfl⟩ := List.mem_map.mp hy
      have ok := ro7.2 r hm
      have := dom_last (gr_dom W ls r.2 0 0 ok (fit_iff.mp (List.mem_filter.mp hm).2) (Nat.le_refl _)) (endN_some ok l1) (st_last hne)
      show ((endN r.2 : Nat) : Int) ≤ _
      omega)]
    simp
    rw [rep_int (by omega)]
    simp
    exact Z _ (F0c.trans (Fd.trans Fe))
theorem c_spread_right {v u : Val} {ws ls : List Int} {p : Nat} {prs : List RR} (s : Sq h v ws) (t : Sq h u ls) (g : Gd ws 60 99) (g' : Gd ls 40 999) (m6 : ws.length ≤ 6) (l1 : 1 ≤ ls.length) (l4 : ls.length ≤ 4) (R : RwsI h p prs) (hr : prs.map (·.2) = rowsN ws.length ls.length) (Z : ∀ h', Fr h h' → Q (.bl true) h') : (calls D gl S (L + 6) 16 [v, u, .ref p] h).sat Q E := by
  show (runDef ⟨calls D gl S (L + 5), gl, S, none⟩ d16 [v, u, .ref p] h).sat _ _
  show (exes ⟨calls D gl S (L + 5), gl, S, none⟩ (.cons (.asg (.nm 3) (.cst .non)) (.cons (.tri (.cons (.asg (.nm 3) (.cal 6 (.cons (.var 0) (.cons (.var 1) (.nil))))) (.nil)) (.cons [2] (some 4) (.cons (.asg (.nm 3) (.efl 4 "found")) (.nil)) (.nil))) (dropS 2 b16))) [some v, some u, some (.ref p), none, none, none, none, none, none] h).fin.sat _ _
  rw [sat_fin]
  have key : ∀ tv h1, Fr h h1 → SpT h1 tv ws ls → (exes ⟨calls D gl S (L + 5), gl, S, none⟩ (dropS 2 b16) [some v, some u, some (.ref p), some tv, none, none, none, none, none] h1).sat (fun f h => (f.out h).sat Q E) nox := fun tv h1 F T => spread_tail (s.fr F) (t.fr F) g g' m6 l1 l4 (R.fr F) hr T fun h' F' => Z _ (F.trans F')
  generalize dropS 2 b16 = rest at key ⊢
  simp
  refine c_spread s t g g' l1 (fun p1 h1 hu sp F1 => ?_) fun h1 e hu he F1 => ?_
  · obtain ⟨q, m, e1, e2, _⟩ := sp
    refine key _ _ F1 (.inl ⟨hu, p1, q, m, rfl, e1, ?_⟩)
    rw [e2, spE_gr, List.map_map]
    rfl
  · simp
    have hne : ls ≠ [] := fun z => by rw [z] at l1; simp at l1
    have hs := (short_ne hu hne).1
    rw [he] at hs
    refine key _ _ F1 (.inr ⟨hu, ?_⟩)
    rw [Option.some.inj hs, cut_snd]
end
end Mi


namespace Mi
open PySem (Str PyData)
theorem len_is {g : G} {h : Heap} {p : Nat} {xs : List Val} {a : Int} (e : h[p]? = some (.lst xs)) (ha : a = xs.length) : Mi.pri g .len [.ref p] h = .ok (.int a) h := by rw [ha, len_lst e]
theorem law_ok (ns : List Int) (hn : ns.length ≤ 63) : ∃ h', mOf D gl ns 10 d17 [.scr] [] = .ok (.bl true) h' := by
  refine law_of ?_
  show (runDef ⟨calls D gl ns 9, gl, ns, none⟩ d17 [.scr] []).sat _ _
  unfold runDef startV d17 b17
  simp
  refine ⟨by omega, ?_⟩
  refine loopF_rng (fun _ σ h => ∃ s1 s2 s3 s4 s5 s6 s7, σ = [some .scr, s1, s2, s3, s4, s5, s6, s7]) rfl ?_ ?_ ⟨_, _, _, _, _, _, _, rfl⟩
  · rintro k _ h hk ⟨s1, s2, s3, s4, s5, s6, s7, rfl⟩
    refine ⟨_, rfl, ?_⟩
    simp
    refine c_cell (by omega) (by omega) fun c => ?_
    refine c_box fun n h1 el1 B1 F1 l1 => ?_
    try simp
    obtain ⟨I, hI⟩ : ∃ I : Nat → Sl → Heap → Prop, I = fun j σ h' => (∃ s3 s4 s5 s6 s7, σ = [some .scr, some (.int k), some (.ref n), s3, s4, s5, s6, s7]) ∧ Bx n (1000 * j) h' := ⟨_, rfl⟩
    refine loopF_rng I rfl ?_ ?_ ?_
    · rintro j _ h2 hj z
      rw [hI] at z
      obtain ⟨⟨s3, s4, s5, s6, s7, rfl⟩, B2⟩ := z
      refine ⟨_, rfl, ?_⟩
      simp
      have hj2 : j < 2 := hj
      refine c_row (L := 7) B2 (by omega) fun p pw pl ws ls kp h3 e3 ew el gw w6 gl' l1 l4 k0 k5 b1 b2 b3 B3 F3 => ?_
      obtain ⟨wi, hwi⟩ : ∃ wi : Int, wi = (ws.length : Nat) := ⟨_, rfl⟩
      obtain ⟨li, hli⟩ : ∃ li : Int, li = (ls.length : Nat) := ⟨_, rfl⟩
      rw [set_threeL e3, sat_ok]
      simp
      rw [len_is (a := wi) ew (by rw [List.length_map]; exact hwi), sat_ok, len_is (a := li) el (by rw [List.length_map]; exact hli), sat_ok]
      refine c_cuttings (L := 8) hwi hli w6 l4 fun q prs h4 R hr F4 => ?_
      try simp
      have s4 := (sq_lst ew).fr F4
      have t4 := (sq_lst el).fr F4
      refine c_fewest_right (L := 4) s4 t4 gw gl' w6 l1 l4 k0 k5 R hr fun h5 F5 => ?_
      try simp
      refine c_spread_right (L := 3) (s4.fr F5) (t4.fr F5) gw gl' w6 l1 l4 (R.fr F5) hr fun h6 F6 => ?_
      try simp
      rw [hI]
      exact ⟨⟨_, _, _, _, _, rfl⟩, (B3.fr (F4.trans (F5.trans F6))).up (by omega)⟩
    · rintro _ h2 z
      rw [hI] at z
      obtain ⟨⟨s3, s4, s5, s6, s7, rfl⟩, B2⟩ := z
      simp
    · rw [hI]
      exact ⟨⟨_, _, _, _, _, rfl⟩, B1⟩
  · rintro σ h ⟨s1, s2, s3, s4, s5, s6, s7, rfl⟩
    simp
end Mi


namespace Mi
open PySem PySem.Spec PyProof.Rows L2
theorem lw_mk {P : Program} {w : World} {K : PySem.W.Frag} {h : PySem.Heap} {mg : Str → Option Value} {fa : Addr} (X : K.In h) (G : h.Ns mainGlobals mg) (hfa : mg "law" = some (.ref fa))
    {f0 : Addr} {oc0 kV0 doc0 pm0 cd0 ct0 : Value} {od0 an0 : Option Addr} {sl0 : Array (Option Value)}
    {f1 : Addr} {oc1 kV1 doc1 pm1 cd1 ct1 : Value} {od1 an1 : Option Addr} {sl1 : Array (Option Value)}
    {td2 : Addr} {oct2 : Value} {odt2 : Option Addr} {nt2 : Nat} {slt2 : Array (Option Value)} {tk2_0 : Tok}
    {f2 : Addr} {oc2 kV2 doc2 pm2 cd2 ct2 : Value} {od2 an2 : Option Addr} {sl2 : Array (Option Value)}
    {f3 : Addr} {oc3 kV3 doc3 pm3 cd3 ct3 : Value} {od3 an3 : Option Addr} {sl3 : Array (Option Value)}
    {f4 : Addr} {oc4 kV4 doc4 pm4 cd4 ct4 : Value} {od4 an4 : Option Addr} {sl4 : Array (Option Value)}
    {td5 : Addr} {oct5 : Value} {odt5 : Option Addr} {nt5 : Nat} {slt5 : Array (Option Value)} {tk5_0 : Tok}
    {f5 : Addr} {oc5 kV5 doc5 pm5 cd5 ct5 : Value} {od5 an5 : Option Addr} {sl5 : Array (Option Value)}
    {f6 : Addr} {oc6 kV6 doc6 pm6 cd6 ct6 : Value} {od6 an6 : Option Addr} {sl6 : Array (Option Value)}
    {f7 : Addr} {oc7 kV7 doc7 pm7 cd7 ct7 : Value} {od7 an7 : Option Addr} {sl7 : Array (Option Value)}
    {f8 : Addr} {oc8 kV8 doc8 pm8 cd8 ct8 : Value} {od8 an8 : Option Addr} {sl8 : Array (Option Value)}
    {f9 : Addr} {oc9 kV9 doc9 pm9 cd9 ct9 : Value} {od9 an9 : Option Addr} {sl9 : Array (Option Value)}
    {f10 : Addr} {oc10 kV10 doc10 pm10 cd10 ct10 : Value} {od10 an10 : Option Addr} {sl10 : Array (Option Value)}
    {f11 : Addr} {oc11 kV11 doc11 pm11 cd11 ct11 : Value} {od11 an11 : Option Addr} {sl11 : Array (Option Value)}
    {f12 : Addr} {oc12 kV12 doc12 pm12 cd12 ct12 : Value} {od12 an12 : Option Addr} {sl12 : Array (Option Value)}
    {f13 : Addr} {oc13 kV13 doc13 pm13 cd13 ct13 : Value} {od13 an13 : Option Addr} {sl13 : Array (Option Value)}
    {f14 : Addr} {oc14 kV14 doc14 pm14 cd14 ct14 : Value} {od14 an14 : Option Addr} {sl14 : Array (Option Value)}
    {f15 : Addr} {oc15 kV15 doc15 pm15 cd15 ct15 : Value} {od15 an15 : Option Addr} {sl15 : Array (Option Value)}
    {f16 : Addr} {oc16 kV16 doc16 pm16 cd16 ct16 : Value} {od16 an16 : Option Addr} {sl16 : Array (Option Value)}
    {f17 : Addr} {oc17 kV17 doc17 pm17 cd17 ct17 : Value} {od17 an17 : Option Addr} {sl17 : Array (Option Value)}
    {tk_MOST_LENGTH : Tok}
    {tk_MOST_SHELVES : Tok}
    {tk_MOST_THINGS : Tok}
    {tk_MOST_WIDTH : Tok}
    {CR fR : Addr} {odR anR : Option Addr} {slR : Array (Option Value)} {ocR dcR pmR cdR ctR kwR : Value}
    {C_NoList fI_NoList N_NoList : Addr} {nm_NoList q_NoList : Str} {bs_NoList : List Value} {sn_NoList : List Str} {sub_NoList : List Value} {ab_NoList : Bool} {col_NoList : Option Bool} {dd_NoList : Option Addr} {m0_NoList m1_NoList m2_NoList m3_NoList m5_NoList : Option Value} {od_NoList an_NoList : Option Addr} {sl_NoList : Array (Option Value)} {oc_NoList dc_NoList pm_NoList cd_NoList ct_NoList kw_NoList : Value}
    {C_NoNumber fI_NoNumber N_NoNumber : Addr} {nm_NoNumber q_NoNumber : Str} {bs_NoNumber : List Value} {sn_NoNumber : List Str} {sub_NoNumber : List Value} {ab_NoNumber : Bool} {col_NoNumber : Option Bool} {dd_NoNumber : Option Addr} {m0_NoNumber m1_NoNumber m2_NoNumber m3_NoNumber m5_NoNumber : Option Value} {od_NoNumber an_NoNumber : Option Addr} {sl_NoNumber : Array (Option Value)} {oc_NoNumber dc_NoNumber pm_NoNumber cd_NoNumber ct_NoNumber kw_NoNumber : Value}
    {C_NoRoom fI_NoRoom N_NoRoom : Addr} {nm_NoRoom q_NoRoom : Str} {bs_NoRoom : List Value} {sn_NoRoom : List Str} {sub_NoRoom : List Value} {ab_NoRoom : Bool} {col_NoRoom : Option Bool} {dd_NoRoom : Option Addr} {m0_NoRoom m1_NoRoom m2_NoRoom m3_NoRoom m5_NoRoom : Option Value} {od_NoRoom an_NoRoom : Option Addr} {sl_NoRoom : Array (Option Value)} {oc_NoRoom dc_NoRoom pm_NoRoom cd_NoRoom ct_NoRoom kw_NoRoom : Value}
    (a0 : PySem.W.nsIn K mainGlobals "is_whole" = some (some (.ref f0))) (l0 : K.lookup f0 = some ⟨oc0, od0, .func (PySem.W.fnOf "is_whole" "is_whole" (defArgs s0) (defBody s0) (defScope s0) .none kV0 doc0 pm0 an0 cd0 ct0), sl0⟩) (c0 : PySem.W.codeIn K cd0 "is_whole" = true) (k0 : PySem.W.keepIn K (.ref f0) = true)
    (a1 : PySem.W.nsIn K mainGlobals "need_list" = some (some (.ref f1))) (l1 : K.lookup f1 = some ⟨oc1, od1, .func (PySem.W.fnOf "need_list" "need_list" (defArgs s1) (defBody s1) (defScope s1) .none kV1 doc1 pm1 an1 cd1 ct1), sl1⟩) (c1 : PySem.W.codeIn K cd1 "need_list" = true) (k1 : PySem.W.keepIn K (.ref f1) = true)
    (a2 : PySem.W.nsIn K mainGlobals "need_both" = some (some (.ref f2))) (l2 : K.lookup f2 = some ⟨oc2, od2, .func (PySem.W.fnOf "need_both" "need_both" (defArgs s2) (defBody s2) (defScope s2) (.ref td2) kV2 doc2 pm2 an2 cd2 ct2), sl2⟩) (c2 : PySem.W.codeIn K cd2 "need_both" = true) (k2 : PySem.W.keepIn K (.ref f2) = true)
    (t2 : K.lookup td2 = some ⟨oct2, odt2, .seq #[.int (0) tk2_0] nt2, slt2⟩)
    (a3 : PySem.W.nsIn K mainGlobals "need_number" = some (some (.ref f3))) (l3 : K.lookup f3 = some ⟨oc3, od3, .func (PySem.W.fnOf "need_number" "need_number" (defArgs s3) (defBody s3) (defScope s3) .none kV3 doc3 pm3 an3 cd3 ct3), sl3⟩) (c3 : PySem.W.codeIn K cd3 "need_number" = true) (k3 : PySem.W.keepIn K (.ref f3) = true)
    (a4 : PySem.W.nsIn K mainGlobals "filled" = some (some (.ref f4))) (l4 : K.lookup f4 = some ⟨oc4, od4, .func (PySem.W.fnOf "filled" "filled" (defArgs s4) (defBody s4) (defScope s4) .none kV4 doc4 pm4 an4 cd4 ct4), sl4⟩) (c4 : PySem.W.codeIn K cd4 "filled" = true) (k4 : PySem.W.keepIn K (.ref f4) = true)
    (a5 : PySem.W.nsIn K mainGlobals "cut_fewest" = some (some (.ref f5))) (l5 : K.lookup f5 = some ⟨oc5, od5, .func (PySem.W.fnOf "cut_fewest" "cut_fewest" (defArgs s5) (defBody s5) (defScope s5) (.ref td5) kV5 doc5 pm5 an5 cd5 ct5), sl5⟩) (c5 : PySem.W.codeIn K cd5 "cut_fewest" = true) (k5 : PySem.W.keepIn K (.ref f5) = true)
    (t5 : K.lookup td5 = some ⟨oct5, odt5, .seq #[.int (0) tk5_0] nt5, slt5⟩)
    (a6 : PySem.W.nsIn K mainGlobals "cut_spread" = some (some (.ref f6))) (l6 : K.lookup f6 = some ⟨oc6, od6, .func (PySem.W.fnOf "cut_spread" "cut_spread" (defArgs s6) (defBody s6) (defScope s6) .none kV6 doc6 pm6 an6 cd6 ct6), sl6⟩) (c6 : PySem.W.codeIn K cd6 "cut_spread" = true) (k6 : PySem.W.keepIn K (.ref f6) = true)
    (a7 : PySem.W.nsIn K mainGlobals "_law_cell" = some (some (.ref f7))) (l7 : K.lookup f7 = some ⟨oc7, od7, .func (PySem.W.fnOf "_law_cell" "_law_cell" (defArgs s7) (defBody s7) (defScope s7) .none kV7 doc7 pm7 an7 cd7 ct7), sl7⟩) (c7 : PySem.W.codeIn K cd7 "_law_cell" = true) (k7 : PySem.W.keepIn K (.ref f7) = true)
    (a8 : PySem.W.nsIn K mainGlobals "_law_bag" = some (some (.ref f8))) (l8 : K.lookup f8 = some ⟨oc8, od8, .func (PySem.W.fnOf "_law_bag" "_law_bag" (defArgs s8) (defBody s8) (defScope s8) .none kV8 doc8 pm8 an8 cd8 ct8), sl8⟩) (c8 : PySem.W.codeIn K cd8 "_law_bag" = true) (k8 : PySem.W.keepIn K (.ref f8) = true)
    (a9 : PySem.W.nsIn K mainGlobals "_law_take" = some (some (.ref f9))) (l9 : K.lookup f9 = some ⟨oc9, od9, .func (PySem.W.fnOf "_law_take" "_law_take" (defArgs s9) (defBody s9) (defScope s9) .none kV9 doc9 pm9 an9 cd9 ct9), sl9⟩) (c9 : PySem.W.codeIn K cd9 "_law_take" = true) (k9 : PySem.W.keepIn K (.ref f9) = true)
    (a10 : PySem.W.nsIn K mainGlobals "_law_row" = some (some (.ref f10))) (l10 : K.lookup f10 = some ⟨oc10, od10, .func (PySem.W.fnOf "_law_row" "_law_row" (defArgs s10) (defBody s10) (defScope s10) .none kV10 doc10 pm10 an10 cd10 ct10), sl10⟩) (c10 : PySem.W.codeIn K cd10 "_law_row" = true) (k10 : PySem.W.keepIn K (.ref f10) = true)
    (a11 : PySem.W.nsIn K mainGlobals "_law_cuttings" = some (some (.ref f11))) (l11 : K.lookup f11 = some ⟨oc11, od11, .func (PySem.W.fnOf "_law_cuttings" "_law_cuttings" (defArgs s11) (defBody s11) (defScope s11) .none kV11 doc11 pm11 an11 cd11 ct11), sl11⟩) (c11 : PySem.W.codeIn K cd11 "_law_cuttings" = true) (k11 : PySem.W.keepIn K (.ref f11) = true)
    (a12 : PySem.W.nsIn K mainGlobals "_law_free" = some (some (.ref f12))) (l12 : K.lookup f12 = some ⟨oc12, od12, .func (PySem.W.fnOf "_law_free" "_law_free" (defArgs s12) (defBody s12) (defScope s12) .none kV12 doc12 pm12 an12 cd12 ct12), sl12⟩) (c12 : PySem.W.codeIn K cd12 "_law_free" = true) (k12 : PySem.W.keepIn K (.ref f12) = true)
    (a13 : PySem.W.nsIn K mainGlobals "_law_fits" = some (some (.ref f13))) (l13 : K.lookup f13 = some ⟨oc13, od13, .func (PySem.W.fnOf "_law_fits" "_law_fits" (defArgs s13) (defBody s13) (defScope s13) .none kV13 doc13 pm13 an13 cd13 ct13), sl13⟩) (c13 : PySem.W.codeIn K cd13 "_law_fits" = true) (k13 : PySem.W.keepIn K (.ref f13) = true)
    (a14 : PySem.W.nsIn K mainGlobals "_law_least" = some (some (.ref f14))) (l14 : K.lookup f14 = some ⟨oc14, od14, .func (PySem.W.fnOf "_law_least" "_law_least" (defArgs s14) (defBody s14) (defScope s14) .none kV14 doc14 pm14 an14 cd14 ct14), sl14⟩) (c14 : PySem.W.codeIn K cd14 "_law_least" = true) (k14 : PySem.W.keepIn K (.ref f14) = true)
    (a15 : PySem.W.nsIn K mainGlobals "_law_fewest_right" = some (some (.ref f15))) (l15 : K.lookup f15 = some ⟨oc15, od15, .func (PySem.W.fnOf "_law_fewest_right" "_law_fewest_right" (defArgs s15) (defBody s15) (defScope s15) .none kV15 doc15 pm15 an15 cd15 ct15), sl15⟩) (c15 : PySem.W.codeIn K cd15 "_law_fewest_right" = true) (k15 : PySem.W.keepIn K (.ref f15) = true)
    (a16 : PySem.W.nsIn K mainGlobals "_law_spread_right" = some (some (.ref f16))) (l16 : K.lookup f16 = some ⟨oc16, od16, .func (PySem.W.fnOf "_law_spread_right" "_law_spread_right" (defArgs s16) (defBody s16) (defScope s16) .none kV16 doc16 pm16 an16 cd16 ct16), sl16⟩) (c16 : PySem.W.codeIn K cd16 "_law_spread_right" = true) (k16 : PySem.W.keepIn K (.ref f16) = true)
    (a17 : PySem.W.nsIn K mainGlobals "law" = some (some (.ref f17))) (l17 : K.lookup f17 = some ⟨oc17, od17, .func (PySem.W.fnOf "law" "law" (defArgs s17) (defBody s17) (defScope s17) .none kV17 doc17 pm17 an17 cd17 ct17), sl17⟩) (c17 : PySem.W.codeIn K cd17 "law" = true) (k17 : PySem.W.keepIn K (.ref f17) = true)
    (zn_all : PySem.W.nsIn K mainGlobals "all" = some none)
    (zn_bool : PySem.W.nsIn K mainGlobals "bool" = some none)
    (zn_enumerate : PySem.W.nsIn K mainGlobals "enumerate" = some none)
    (zn_int : PySem.W.nsIn K mainGlobals "int" = some none)
    (zn_isinstance : PySem.W.nsIn K mainGlobals "isinstance" = some none)
    (zn_len : PySem.W.nsIn K mainGlobals "len" = some none)
    (zn_list : PySem.W.nsIn K mainGlobals "list" = some none)
    (zn_max : PySem.W.nsIn K mainGlobals "max" = some none)
    (zn_min : PySem.W.nsIn K mainGlobals "min" = some none)
    (zn_range : PySem.W.nsIn K mainGlobals "range" = some none)
    (zn_repr : PySem.W.nsIn K mainGlobals "repr" = some none)
    (zn_sum : PySem.W.nsIn K mainGlobals "sum" = some none)
    (zn_tuple : PySem.W.nsIn K mainGlobals "tuple" = some none)
    (zn_zip : PySem.W.nsIn K mainGlobals "zip" = some none)
    (zc_MOST_LENGTH : PySem.W.nsIn K mainGlobals "MOST_LENGTH" = some (some (.int 999 tk_MOST_LENGTH)))
    (zc_MOST_SHELVES : PySem.W.nsIn K mainGlobals "MOST_SHELVES" = some (some (.int 40 tk_MOST_SHELVES)))
    (zc_MOST_THINGS : PySem.W.nsIn K mainGlobals "MOST_THINGS" = some (some (.int 60 tk_MOST_THINGS)))
    (zc_MOST_WIDTH : PySem.W.nsIn K mainGlobals "MOST_WIDTH" = some (some (.int 99 tk_MOST_WIDTH)))
    (rA : PySem.W.nsIn K mainGlobals "ShelvesError" = some (some (.ref CR))) (rR : PySem.W.readsIn K CR (.type "type") = true) (rG : PySem.W.specialIn K (.ref CR) "__getattribute__" = some (some (.builtin "type.__getattribute__"))) (rV : PySem.W.findCls K (.ref CR) (.type "type") "__init__" = some (.val (.ref fR))) (rK : PySem.W.keepIn K (.ref fR) = true)
    (rL : K.lookup fR = some ⟨ocR, odR, .func (PySem.W.fnOf "__init__" "ShelvesError.__init__" (defArgs sI_ShelvesError) (defBody sI_ShelvesError) (defScope sI_ShelvesError) .none kwR dcR pmR anR cdR ctR), slR⟩) (rC : PySem.W.codeIn K cdR "ShelvesError.__init__" = true) (rN : PySem.W.nsIn K mainGlobals "ValueError" = some none) (rF : PySem.W.findCls K (.type "ValueError") (.type "type") "__init__" = some (.val (.builtin "ValueError.__init__")))
    (xA_NoList : PySem.W.nsIn K mainGlobals "NoList" = some (some (.ref C_NoList))) (xL_NoList : K.lookup C_NoList = some (excClassObj nm_NoList q_NoList C_NoList N_NoList bs_NoList [.ref CR, .type "ValueError", .type "Exception", .type "BaseException", .type "object"] true sn_NoList sub_NoList ab_NoList col_NoList dd_NoList m0_NoList m1_NoList m2_NoList m3_NoList m5_NoList "ValueError.__new__"))
    (xS_NoList : PySem.W.findIn K (.ref C_NoList) "__setattr__" = some (some (.builtin "object.__setattr__"))) (xI_NoList : PySem.W.findIn K (.ref C_NoList) "__init__" = some (some (.ref fI_NoList))) (xT_NoList : PySem.W.typeIn K (.ref fI_NoList) = some (.type "function")) (xE_NoList : PySem.W.subIn K (.ref C_NoList) (.type "BaseException") = some true) (xY_NoList : PySem.W.typeIn K (.ref C_NoList) = some (.type "type")) (xK_NoList : PySem.W.keepIn K (.ref C_NoList) = true)
    (xX_NoList : PySem.W.findIn K (.ref C_NoList) "__getattribute__" = some (some (.builtin "BaseException.__getattribute__"))) (xG_NoList : PySem.W.findIn K (.ref C_NoList) "__getattr__" = some none) (xH_NoList : PySem.W.hasDictIn K C_NoList = true) (xF_NoList : K.lookup fI_NoList = some ⟨oc_NoList, od_NoList, .func (PySem.W.fnOf "__init__" "NoList.__init__" (defArgs sI_NoList) (defBody sI_NoList) (defScope sI_NoList) .none kw_NoList dc_NoList pm_NoList an_NoList cd_NoList ct_NoList), sl_NoList⟩) (xC_NoList : PySem.W.codeIn K cd_NoList "NoList.__init__" = true) (xJ_NoList : PySem.W.keepIn K (.ref fI_NoList) = true)
    (xN_NoList_found : PySem.W.findIn K (.ref C_NoList) "found" = some none)
    (xA_NoNumber : PySem.W.nsIn K mainGlobals "NoNumber" = some (some (.ref C_NoNumber))) (xL_NoNumber : K.lookup C_NoNumber = some (excClassObj nm_NoNumber q_NoNumber C_NoNumber N_NoNumber bs_NoNumber [.ref CR, .type "ValueError", .type "Exception", .type "BaseException", .type "object"] true sn_NoNumber sub_NoNumber ab_NoNumber col_NoNumber dd_NoNumber m0_NoNumber m1_NoNumber m2_NoNumber m3_NoNumber m5_NoNumber "ValueError.__new__"))
    (xS_NoNumber : PySem.W.findIn K (.ref C_NoNumber) "__setattr__" = some (some (.builtin "object.__setattr__"))) (xI_NoNumber : PySem.W.findIn K (.ref C_NoNumber) "__init__" = some (some (.ref fI_NoNumber))) (xT_NoNumber : PySem.W.typeIn K (.ref fI_NoNumber) = some (.type "function")) (xE_NoNumber : PySem.W.subIn K (.ref C_NoNumber) (.type "BaseException") = some true) (xY_NoNumber : PySem.W.typeIn K (.ref C_NoNumber) = some (.type "type")) (xK_NoNumber : PySem.W.keepIn K (.ref C_NoNumber) = true)
    (xX_NoNumber : PySem.W.findIn K (.ref C_NoNumber) "__getattribute__" = some (some (.builtin "BaseException.__getattribute__"))) (xG_NoNumber : PySem.W.findIn K (.ref C_NoNumber) "__getattr__" = some none) (xH_NoNumber : PySem.W.hasDictIn K C_NoNumber = true) (xF_NoNumber : K.lookup fI_NoNumber = some ⟨oc_NoNumber, od_NoNumber, .func (PySem.W.fnOf "__init__" "NoNumber.__init__" (defArgs sI_NoNumber) (defBody sI_NoNumber) (defScope sI_NoNumber) .none kw_NoNumber dc_NoNumber pm_NoNumber an_NoNumber cd_NoNumber ct_NoNumber), sl_NoNumber⟩) (xC_NoNumber : PySem.W.codeIn K cd_NoNumber "NoNumber.__init__" = true) (xJ_NoNumber : PySem.W.keepIn K (.ref fI_NoNumber) = true)
    (xN_NoNumber_found : PySem.W.findIn K (.ref C_NoNumber) "found" = some none)
    (xA_NoRoom : PySem.W.nsIn K mainGlobals "NoRoom" = some (some (.ref C_NoRoom))) (xL_NoRoom : K.lookup C_NoRoom = some (excClassObj nm_NoRoom q_NoRoom C_NoRoom N_NoRoom bs_NoRoom [.ref CR, .type "ValueError", .type "Exception", .type "BaseException", .type "object"] true sn_NoRoom sub_NoRoom ab_NoRoom col_NoRoom dd_NoRoom m0_NoRoom m1_NoRoom m2_NoRoom m3_NoRoom m5_NoRoom "ValueError.__new__"))
    (xS_NoRoom : PySem.W.findIn K (.ref C_NoRoom) "__setattr__" = some (some (.builtin "object.__setattr__"))) (xI_NoRoom : PySem.W.findIn K (.ref C_NoRoom) "__init__" = some (some (.ref fI_NoRoom))) (xT_NoRoom : PySem.W.typeIn K (.ref fI_NoRoom) = some (.type "function")) (xE_NoRoom : PySem.W.subIn K (.ref C_NoRoom) (.type "BaseException") = some true) (xY_NoRoom : PySem.W.typeIn K (.ref C_NoRoom) = some (.type "type")) (xK_NoRoom : PySem.W.keepIn K (.ref C_NoRoom) = true)
    (xX_NoRoom : PySem.W.findIn K (.ref C_NoRoom) "__getattribute__" = some (some (.builtin "BaseException.__getattribute__"))) (xG_NoRoom : PySem.W.findIn K (.ref C_NoRoom) "__getattr__" = some none) (xH_NoRoom : PySem.W.hasDictIn K C_NoRoom = true) (xF_NoRoom : K.lookup fI_NoRoom = some ⟨oc_NoRoom, od_NoRoom, .func (PySem.W.fnOf "__init__" "NoRoom.__init__" (defArgs sI_NoRoom) (defBody sI_NoRoom) (defScope sI_NoRoom) .none kw_NoRoom dc_NoRoom pm_NoRoom an_NoRoom cd_NoRoom ct_NoRoom), sl_NoRoom⟩) (xC_NoRoom : PySem.W.codeIn K cd_NoRoom "NoRoom.__init__" = true) (xJ_NoRoom : PySem.W.keepIn K (.ref fI_NoRoom) = true)
    (xN_NoRoom_found : PySem.W.findIn K (.ref C_NoRoom) "found" = some none)
    (yE_NoRoom : PySem.W.subIn K (.ref C_NoRoom) (.type "BaseException") = some true) (yI_NoRoom : PySem.W.isClsIn K C_NoRoom = true) (yY_NoRoom : PySem.W.typeIn K (.ref C_NoRoom) = some (.type "type"))
    (ys_NoRoom_NoList : PySem.W.subIn K (.ref C_NoList) (.ref C_NoRoom) = some false)
    (ys_NoRoom_NoNumber : PySem.W.subIn K (.ref C_NoNumber) (.ref C_NoRoom) = some false)
    (ys_NoRoom_NoRoom : PySem.W.subIn K (.ref C_NoRoom) (.ref C_NoRoom) = some true)
    (ok : ∀ ns : List Int, ns.length ≤ 63 → ∃ h', mOf D gl ns 10 d17 [.scr] [] = .ok (.bl true) h') :
    ∃ (fd : FuncData) (ga : Nat → Option Addr) (m : List Int → List Val → Heap → Res Val), (∀ (s : Shared) (u : Value), BindsTo s fd ⟨[u], []⟩ [("script", u)]) ∧ (∀ ns : List Int, ns.length ≤ 63 → ∃ h', m ns [.scr] [] = .ok (.bl true) h') ∧
      ∀ (a : Addr) (ns : List Int) (base : PySem.Heap), K.In base → base.Ns mainGlobals mg → (∃ mm, base.Ns sysModules mm) → FnG P w K mg base 13 fa fd ["script"] (spC ⟨K, ga, a, ns, none⟩ (m ns)) := by
  have e := hfa.symm.trans (PySem.W.mg_of X G a17)
  cases e
  have F : Fx K mg (fun i => match i with | 0 => some C_NoList | 1 => some C_NoNumber | 2 => some C_NoRoom | _ => none) := ⟨⟨⟨_, _, _, ⟨PySem.W.mg_of X G rA, ⟨rR, rG⟩, ⟨rV, rfl⟩, rK⟩, fun_mk (st := sI_ShelvesError) rL rC rK, (fun_mk (st := sI_ShelvesError) rL rC rK).binds (ps := ["self", "text"]) fun _ _ _ _ _ _ us hl => match us, hl with | [_, _], _ => rfl⟩, PySem.W.mg_none_of X G rN, rF⟩,
    ⟨C_NoList, _, _, rfl, ⟨PySem.W.mg_of X G xA_NoList, ⟨⟨_, _, _, _, _, _, _, _, _, _, _, _, _, _, _, xL_NoList, by rfl⟩, xS_NoList, xE_NoList, xY_NoList, xK_NoList⟩, xI_NoList, xT_NoList, ⟨xX_NoList, xG_NoList, xE_NoList, xH_NoList⟩, (by intro f hf; simp only [List.mem_cons, List.not_mem_nil, or_false] at hf; subst hf <;> assumption)⟩, fun_mk (st := sI_NoList) xF_NoList xC_NoList xJ_NoList, (fun_mk (st := sI_NoList) xF_NoList xC_NoList xJ_NoList).binds (ps := ["self", "found"]) fun _ _ _ _ _ _ us hl => match us, hl with | [_, _], _ => rfl⟩,
    ⟨C_NoNumber, _, _, rfl, ⟨PySem.W.mg_of X G xA_NoNumber, ⟨⟨_, _, _, _, _, _, _, _, _, _, _, _, _, _, _, xL_NoNumber, by rfl⟩, xS_NoNumber, xE_NoNumber, xY_NoNumber, xK_NoNumber⟩, xI_NoNumber, xT_NoNumber, ⟨xX_NoNumber, xG_NoNumber, xE_NoNumber, xH_NoNumber⟩, (by intro f hf; simp only [List.mem_cons, List.not_mem_nil, or_false] at hf; subst hf <;> assumption)⟩, fun_mk (st := sI_NoNumber) xF_NoNumber xC_NoNumber xJ_NoNumber, (fun_mk (st := sI_NoNumber) xF_NoNumber xC_NoNumber xJ_NoNumber).binds (ps := ["self", "found"]) fun _ _ _ _ _ _ us hl => match us, hl with | [_, _], _ => rfl⟩,
    ⟨C_NoRoom, _, _, rfl, ⟨PySem.W.mg_of X G xA_NoRoom, ⟨⟨_, _, _, _, _, _, _, _, _, _, _, _, _, _, _, xL_NoRoom, by rfl⟩, xS_NoRoom, xE_NoRoom, xY_NoRoom, xK_NoRoom⟩, xI_NoRoom, xT_NoRoom, ⟨xX_NoRoom, xG_NoRoom, xE_NoRoom, xH_NoRoom⟩, (by intro f hf; simp only [List.mem_cons, List.not_mem_nil, or_false] at hf; subst hf <;> assumption)⟩, fun_mk (st := sI_NoRoom) xF_NoRoom xC_NoRoom xJ_NoRoom, (fun_mk (st := sI_NoRoom) xF_NoRoom xC_NoRoom xJ_NoRoom).binds (ps := ["self", "found"]) fun _ _ _ _ _ _ us hl => match us, hl with | [_, _], _ => rfl⟩,
    ⟨C_NoRoom, PySem.W.mg_of X G xA_NoRoom, fun k C hC => by match k, C, hC with | 0, _, rfl => exact exm_of yE_NoRoom yI_NoRoom yY_NoRoom ys_NoRoom_NoList | 1, _, rfl => exact exm_of yE_NoRoom yI_NoRoom yY_NoRoom ys_NoRoom_NoNumber | 2, _, rfl => exact exm_of yE_NoRoom yI_NoRoom yY_NoRoom ys_NoRoom_NoRoom⟩,
    fun k C hm hC => by simp only [List.mem_cons, List.not_mem_nil, or_false] at hm; subst hm <;> cases hC <;> exact ⟨⟨xX_NoRoom, xG_NoRoom, xE_NoRoom, xH_NoRoom⟩, xN_NoRoom_found⟩,
    PySem.W.mg_none_of X G zn_all,
    PySem.W.mg_none_of X G zn_bool,
    PySem.W.mg_none_of X G zn_enumerate,
    PySem.W.mg_none_of X G zn_int,
    PySem.W.mg_none_of X G zn_isinstance,
    PySem.W.mg_none_of X G zn_len,
    PySem.W.mg_none_of X G zn_list,
    PySem.W.mg_none_of X G zn_max,
    PySem.W.mg_none_of X G zn_min,
    PySem.W.mg_none_of X G zn_range,
    PySem.W.mg_none_of X G zn_repr,
    PySem.W.mg_none_of X G zn_sum,
    PySem.W.mg_none_of X G zn_tuple,
    PySem.W.mg_none_of X G zn_zip,
    ⟨_, PySem.W.mg_of X G zc_MOST_LENGTH⟩,
    ⟨_, PySem.W.mg_of X G zc_MOST_SHELVES⟩,
    ⟨_, PySem.W.mg_of X G zc_MOST_THINGS⟩,
    ⟨_, PySem.W.mg_of X G zc_MOST_WIDTH⟩,
    ⟨⟨_, _, _, _, _, _, _, _, _, _, PySem.W.mg_of X G a0, l0, c0, k0, (fun_mk (st := s0) l0 c0 k0).binds (ps := ["thing", "low", "high"]) fun _ _ _ _ _ _ us hl => match us, hl with | [_, _, _], _ => rfl⟩⟩,
    ⟨⟨_, _, _, _, _, _, _, _, _, _, PySem.W.mg_of X G a1, l1, c1, k1, (fun_mk (st := s1) l1 c1 k1).binds (ps := ["thing", "least", "most", "high"]) fun _ _ _ _ _ _ us hl => match us, hl with | [_, _, _, _], _ => rfl⟩⟩,
    ⟨⟨_, _, _, _, _, _, _, _, _, _, _, [V.int (0)], PySem.W.mg_of X G a2, l2, c2, k2, (fun _ _ => .cons rfl (.nil)), fun j hj => (match j, hj with | 0, _ => (show FunD K "need_both" "need_both" (defArgs s2) (defBody s2) (defScope s2) [V.int (0)] [] f2 _ from ⟨⟨_, _, _, _, _, _, _, _, _, _, rfl, l2, c2, .inr ⟨List.cons_ne_nil _ _, td2, _, [.int (0) tk2_0], _, rfl, t2, rfl, .cons ⟨_, rfl⟩ (.nil)⟩, .inl rfl⟩, k2⟩).binds1 2 0 (List.cons_ne_nil _ _) rfl fun _ _ _ _ _ _ _ us its h1 h2 => (match us, its, h1, h2 with | [_, _], [_], _, _ => ⟨_, rfl, rfl⟩) | 1, _ => (show FunD K "need_both" "need_both" (defArgs s2) (defBody s2) (defScope s2) [V.int (0)] [] f2 _ from ⟨⟨_, _, _, _, _, _, _, _, _, _, rfl, l2, c2, .inr ⟨List.cons_ne_nil _ _, td2, _, [.int (0) tk2_0], _, rfl, t2, rfl, .cons ⟨_, rfl⟩ (.nil)⟩, .inl rfl⟩, k2⟩).binds1 3 1 (List.cons_ne_nil _ _) rfl fun _ _ _ _ _ _ _ us its h1 h2 => (match us, its, h1, h2 with | [_, _, _], [_], _, _ => ⟨_, rfl, rfl⟩) | n + 2, h => absurd h (by simp))⟩⟩,
    ⟨⟨_, _, _, _, _, _, _, _, _, _, PySem.W.mg_of X G a3, l3, c3, k3, (fun_mk (st := s3) l3 c3 k3).binds (ps := ["thing", "high"]) fun _ _ _ _ _ _ us hl => match us, hl with | [_, _], _ => rfl⟩⟩,
    ⟨⟨_, _, _, _, _, _, _, _, _, _, PySem.W.mg_of X G a4, l4, c4, k4, (fun_mk (st := s4) l4 c4 k4).binds (ps := ["widths", "begun", "room"]) fun _ _ _ _ _ _ us hl => match us, hl with | [_, _, _], _ => rfl⟩⟩,
    ⟨⟨_, _, _, _, _, _, _, _, _, _, _, [V.int (0)], PySem.W.mg_of X G a5, l5, c5, k5, (fun _ _ => .cons rfl (.nil)), fun j hj => (match j, hj with | 0, _ => (show FunD K "cut_fewest" "cut_fewest" (defArgs s5) (defBody s5) (defScope s5) [V.int (0)] [] f5 _ from ⟨⟨_, _, _, _, _, _, _, _, _, _, rfl, l5, c5, .inr ⟨List.cons_ne_nil _ _, td5, _, [.int (0) tk5_0], _, rfl, t5, rfl, .cons ⟨_, rfl⟩ (.nil)⟩, .inl rfl⟩, k5⟩).binds1 2 0 (List.cons_ne_nil _ _) rfl fun _ _ _ _ _ _ _ us its h1 h2 => (match us, its, h1, h2 with | [_, _], [_], _, _ => ⟨_, rfl, rfl⟩) | 1, _ => (show FunD K "cut_fewest" "cut_fewest" (defArgs s5) (defBody s5) (defScope s5) [V.int (0)] [] f5 _ from ⟨⟨_, _, _, _, _, _, _, _, _, _, rfl, l5, c5, .inr ⟨List.cons_ne_nil _ _, td5, _, [.int (0) tk5_0], _, rfl, t5, rfl, .cons ⟨_, rfl⟩ (.nil)⟩, .inl rfl⟩, k5⟩).binds1 3 1 (List.cons_ne_nil _ _) rfl fun _ _ _ _ _ _ _ us its h1 h2 => (match us, its, h1, h2 with | [_, _, _], [_], _, _ => ⟨_, rfl, rfl⟩) | n + 2, h => absurd h (by simp))⟩⟩,
    ⟨⟨_, _, _, _, _, _, _, _, _, _, PySem.W.mg_of X G a6, l6, c6, k6, (fun_mk (st := s6) l6 c6 k6).binds (ps := ["widths", "lengths"]) fun _ _ _ _ _ _ us hl => match us, hl with | [_, _], _ => rfl⟩⟩,
    ⟨⟨_, _, _, _, _, _, _, _, _, _, PySem.W.mg_of X G a7, l7, c7, k7, (fun_mk (st := s7) l7 c7 k7).binds (ps := ["script", "k"]) fun _ _ _ _ _ _ us hl => match us, hl with | [_, _], _ => rfl⟩⟩,
    ⟨⟨_, _, _, _, _, _, _, _, _, _, PySem.W.mg_of X G a8, l8, c8, k8, (fun_mk (st := s8) l8 c8 k8).binds (ps := ["cell"]) fun _ _ _ _ _ _ us hl => match us, hl with | [_], _ => rfl⟩⟩,
    ⟨⟨_, _, _, _, _, _, _, _, _, _, PySem.W.mg_of X G a9, l9, c9, k9, (fun_mk (st := s9) l9 c9 k9).binds (ps := ["bag", "many"]) fun _ _ _ _ _ _ us hl => match us, hl with | [_, _], _ => rfl⟩⟩,
    ⟨⟨_, _, _, _, _, _, _, _, _, _, PySem.W.mg_of X G a10, l10, c10, k10, (fun_mk (st := s10) l10 c10 k10).binds (ps := ["bag"]) fun _ _ _ _ _ _ us hl => match us, hl with | [_], _ => rfl⟩⟩,
    ⟨⟨_, _, _, _, _, _, _, _, _, _, PySem.W.mg_of X G a11, l11, c11, k11, (fun_mk (st := s11) l11 c11 k11).binds (ps := ["many", "shelves"]) fun _ _ _ _ _ _ us hl => match us, hl with | [_, _], _ => rfl⟩⟩,
    ⟨⟨_, _, _, _, _, _, _, _, _, _, PySem.W.mg_of X G a12, l12, c12, k12, (fun_mk (st := s12) l12 c12 k12).binds (ps := ["widths", "lengths", "row"]) fun _ _ _ _ _ _ us hl => match us, hl with | [_, _, _], _ => rfl⟩⟩,
    ⟨⟨_, _, _, _, _, _, _, _, _, _, PySem.W.mg_of X G a13, l13, c13, k13, (fun_mk (st := s13) l13 c13 k13).binds (ps := ["widths", "lengths", "keep", "row"]) fun _ _ _ _ _ _ us hl => match us, hl with | [_, _, _, _], _ => rfl⟩⟩,
    ⟨⟨_, _, _, _, _, _, _, _, _, _, PySem.W.mg_of X G a14, l14, c14, k14, (fun_mk (st := s14) l14 c14 k14).binds (ps := ["widths", "lengths", "row"]) fun _ _ _ _ _ _ us hl => match us, hl with | [_, _, _], _ => rfl⟩⟩,
    ⟨⟨_, _, _, _, _, _, _, _, _, _, PySem.W.mg_of X G a15, l15, c15, k15, (fun_mk (st := s15) l15 c15 k15).binds (ps := ["widths", "lengths", "keep", "rows"]) fun _ _ _ _ _ _ us hl => match us, hl with | [_, _, _, _], _ => rfl⟩⟩,
    ⟨⟨_, _, _, _, _, _, _, _, _, _, PySem.W.mg_of X G a16, l16, c16, k16, (fun_mk (st := s16) l16 c16 k16).binds (ps := ["widths", "lengths", "rows"]) fun _ _ _ _ _ _ us hl => match us, hl with | [_, _, _], _ => rfl⟩⟩,
    ⟨⟨_, _, _, _, _, _, _, _, _, _, PySem.W.mg_of X G a17, l17, c17, k17, (fun_mk (st := s17) l17 c17 k17).binds (ps := ["script"]) fun _ _ _ _ _ _ us hl => match us, hl with | [_], _ => rfl⟩⟩⟩
  refine ⟨PySem.W.fnOf "law" "law" (defArgs s17) (defBody s17) (defScope s17) .none kV17 doc17 pm17 an17 cd17 ct17, fun i => match i with | 0 => some C_NoList | 1 => some C_NoNumber | 2 => some C_NoRoom | _ => none, fun ns => mOf D gl ns 10 d17, fun s v => .of_eq rfl, ok, fun a ns base _ _ sm => ?_⟩
  exact fn_law (t := ⟨K, fun i => match i with | 0 => some C_NoList | 1 => some C_NoNumber | 2 => some C_NoRoom | _ => none, a, ns, none⟩) rfl rfl sm l17 c17 sc17 rfl rfl fun A outer s H E O hr => w17 (tx_all (K := K) (mg := mg) (t := ⟨K, fun i => match i with | 0 => some C_NoList | 1 => some C_NoNumber | 2 => some C_NoRoom | _ => none, a, ns, none⟩) rfl rfl sm F 9) O hr
end Mi
open PySem PySem.W PyProof.Rows
set_option maxRecDepth 100000 in
set_option maxHeartbeats 0 in
theorem PySem.Challenge.cw_shelvesmoved_k32_whole_no_cutting_does_b_holds : PySem.Challenge.rw_shelvesmoved_k32_whole_no_cutting_does_b.Holds := by
  w_on; o_law; k_head; (case hw => w_witness2)
  k_fill
  refine Mi.walk_g (l := PySem.Challenge.rw_shelvesmoved_k32_whole_no_cutting_does_b) (n := 63) (k := 13) (x := "script") rfl (by decide) rfl (by decide +kernel) ⟨rfl, by decide, by decide⟩ (fun w h Y => PySem.W.kIn_of Y) ?F
  case F =>
    intro w mg fa h KX G hmg
    refine' Mi.lw_mk KX G hmg ?a0 ?l0 ?c0 ?k0 ?a1 ?l1 ?c1 ?k1 ?a2 ?l2 ?c2 ?k2 ?t2 ?a3 ?l3 ?c3 ?k3 ?a4 ?l4 ?c4 ?k4 ?a5 ?l5 ?c5 ?k5 ?t5 ?a6 ?l6 ?c6 ?k6 ?a7 ?l7 ?c7 ?k7 ?a8 ?l8 ?c8 ?k8 ?a9 ?l9 ?c9 ?k9 ?a10 ?l10 ?c10 ?k10 ?a11 ?l11 ?c11 ?k11 ?a12 ?l12 ?c12 ?k12 ?a13 ?l13 ?c13 ?k13 ?a14 ?l14 ?c14 ?k14 ?a15 ?l15 ?c15 ?k15 ?a16 ?l16 ?c16 ?k16 ?a17 ?l17 ?c17 ?k17 ?zn_all ?zn_bool ?zn_enumerate ?zn_int ?zn_isinstance ?zn_len ?zn_list ?zn_max ?zn_min ?zn_range ?zn_repr ?zn_sum ?zn_tuple ?zn_zip ?zc_MOST_LENGTH ?zc_MOST_SHELVES ?zc_MOST_THINGS ?zc_MOST_WIDTH ?rA ?rR ?rG ?rV ?rK ?rL ?rC ?rN ?rF ?xA_NoList ?xL_NoList ?xS_NoList ?xI_NoList ?xT_NoList ?xE_NoList ?xY_NoList ?xK_NoList ?xX_NoList ?xG_NoList ?xH_NoList ?xF_NoList ?xC_NoList ?xJ_NoList ?xN_NoList_found ?xA_NoNumber ?xL_NoNumber ?xS_NoNumber ?xI_NoNumber ?xT_NoNumber ?xE_NoNumber ?xY_NoNumber ?xK_NoNumber ?xX_NoNumber ?xG_NoNumber ?xH_NoNumber ?xF_NoNumber ?xC_NoNumber ?xJ_NoNumber ?xN_NoNumber_found ?xA_NoRoom ?xL_NoRoom ?xS_NoRoom ?xI_NoRoom ?xT_NoRoom ?xE_NoRoom ?xY_NoRoom ?xK_NoRoom ?xX_NoRoom ?xG_NoRoom ?xH_NoRoom ?xF_NoRoom ?xC_NoRoom ?xJ_NoRoom ?xN_NoRoom_found ?yE_NoRoom ?yI_NoRoom ?yY_NoRoom ?ys_NoRoom_NoList ?ys_NoRoom_NoNumber ?ys_NoRoom_NoRoom Mi.law_ok
    (case a0 => k_is); (case l0 => k_is); (case c0 => k_is); (case k0 => k_is)
    (case a1 => k_is); (case l1 => k_is); (case c1 => k_is); (case k1 => k_is)
    (case a2 => k_is); (case l2 => k_is); (case c2 => k_is); (case k2 => k_is)
    (case t2 => k_is); (case a3 => k_is); (case l3 => k_is); (case c3 => k_is)
    (case k3 => k_is); (case a4 => k_is); (case l4 => k_is); (case c4 => k_is)
    (case k4 => k_is); (case a5 => k_is); (case l5 => k_is); (case c5 => k_is)
    (case k5 => k_is); (case t5 => k_is); (case a6 => k_is); (case l6 => k_is)
    (case c6 => k_is); (case k6 => k_is); (case a7 => k_is); (case l7 => k_is)
    (case c7 => k_is); (case k7 => k_is); (case a8 => k_is); (case l8 => k_is)
    (case c8 => k_is); (case k8 => k_is); (case a9 => k_is); (case l9 => k_is)
    (case c9 => k_is); (case k9 => k_is); (case a10 => k_is); (case l10 => k_is)
    (case c10 => k_is); (case k10 => k_is); (case a11 => k_is); (case l11 => k_is)
    (case c11 => k_is); (case k11 => k_is); (case a12 => k_is); (case l12 => k_is)
    (case c12 => k_is); (case k12 => k_is); (case a13 => k_is); (case l13 => k_is)
    (case c13 => k_is); (case k13 => k_is); (case a14 => k_is); (case l14 => k_is)
    (case c14 => k_is); (case k14 => k_is); (case a15 => k_is); (case l15 => k_is)
    (case c15 => k_is); (case k15 => k_is); (case a16 => k_is); (case l16 => k_is)
    (case c16 => k_is); (case k16 => k_is); (case a17 => k_is); (case l17 => k_is)
    (case c17 => k_is); (case k17 => k_is); (case zn_all => k_is); (case zn_bool => k_is)
    (case zn_enumerate => k_is); (case zn_int => k_is); (case zn_isinstance => k_is); (case zn_len => k_is)
    (case zn_list => k_is); (case zn_max => k_is); (case zn_min => k_is); (case zn_range => k_is)
    (case zn_repr => k_is); (case zn_sum => k_is); (case zn_tuple => k_is); (case zn_zip => k_is)
    (case zc_MOST_LENGTH => k_is); (case zc_MOST_SHELVES => k_is); (case zc_MOST_THINGS => k_is); (case zc_MOST_WIDTH => k_is)
    (case rA => k_is); (case rR => k_is); (case rG => k_is); (case rV => k_is)
    (case rK => k_is); (case rL => k_is); (case rC => k_is); (case rN => k_is)
    (case rF => k_is); (case xA_NoList => k_is); (case xL_NoList => k_is); (case xS_NoList => k_is)
    (case xI_NoList => k_is); (case xT_NoList => k_is); (case xE_NoList => k_is); (case xY_NoList => k_is)
    (case xK_NoList => k_is); (case xX_NoList => k_is); (case xG_NoList => k_is); (case xH_NoList => k_is)
    (case xF_NoList => k_is); (case xC_NoList => k_is); (case xJ_NoList => k_is); (case xN_NoList_found => k_is)
    (case xA_NoNumber => k_is); (case xL_NoNumber => k_is); (case xS_NoNumber => k_is); (case xI_NoNumber => k_is)
    (case xT_NoNumber => k_is); (case xE_NoNumber => k_is); (case xY_NoNumber => k_is); (case xK_NoNumber => k_is)
    (case xX_NoNumber => k_is); (case xG_NoNumber => k_is); (case xH_NoNumber => k_is); (case xF_NoNumber => k_is)
    (case xC_NoNumber => k_is); (case xJ_NoNumber => k_is); (case xN_NoNumber_found => k_is); (case xA_NoRoom => k_is)
    (case xL_NoRoom => k_is); (case xS_NoRoom => k_is); (case xI_NoRoom => k_is); (case xT_NoRoom => k_is)
    (case xE_NoRoom => k_is); (case xY_NoRoom => k_is); (case xK_NoRoom => k_is); (case xX_NoRoom => k_is)
    (case xG_NoRoom => k_is); (case xH_NoRoom => k_is); (case xF_NoRoom => k_is); (case xC_NoRoom => k_is)
    (case xJ_NoRoom => k_is); (case xN_NoRoom_found => k_is); (case yE_NoRoom => k_is); (case yI_NoRoom => k_is)
    (case yY_NoRoom => k_is); (case ys_NoRoom_NoList => k_is); (case ys_NoRoom_NoNumber => k_is); (case ys_NoRoom_NoRoom => k_is)
#print axioms PySem.Challenge.cw_shelvesmoved_k32_whole_no_cutting_does_b_holds

