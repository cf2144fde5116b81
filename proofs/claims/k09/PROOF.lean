import PyProof.Rows.All
import Wide.All
import OpenK.AllK
import Wide.FinOn
import HandS.ForMost
import HandS.Flow
import HandS.IsInst
import HandS.TupAny
import HandS.TupLe
import HandS.Style
import HandS.WordsExc
import HandS.More
import HandS.TupMul
import HandS.TryOnly
import HandS.Codes
import HandS.Defaults
import KE.DataMinMax
import KE.DataCmp
import HandS.Deep
import PyProof.StrOps2
import HandS.Zip
import HandS.TryMany
import HandS.ExcField
import HandS.ExcInit
import HandS.ClsMeth
import HandS.Sort
import PySem.Challenge.RW_shelvesmoved_k09_volumes_order
set_option Elab.async false
set_option linter.all false
set_option maxRecDepth 100000
set_option maxHeartbeats 4000000

/-! # Mi1: a small language of values, heaps, expressions, statements, and what they do (plain functions) -/
namespace Mi
open PySem (Str PyData)
abbrev Key := Sum Int Str
abbrev SL : Nat := 16777216

inductive Val where
  | non | bl (b : Bool) | int (i : Int) | str (x : Str) | ref (n : Nat) | ty (s : String) | glo (x : Nat) | scr
  deriving DecidableEq, Repr
inductive Ob where
  | lst (xs : List Val) | tup (xs : List Val) | dic (kvs : List (Key × Val)) | ins (c : Nat) (fs : List (Str × Val))
  deriving DecidableEq, Repr
abbrev Heap := List Ob
inductive Res (α : Type) where
  | ok (a : α) (h : Heap) | exc (c : Nat) (fs : List (Str × Val)) (h : Heap) | bad
  deriving Repr
def Res.bind {α β : Type} (r : Res α) (f : α → Heap → Res β) : Res β :=
  match r with
  | .ok a h => f a h
  | .exc c fs h => .exc c fs h
  | .bad => .bad
@[simp] theorem Res.bind_ok {α β : Type} (a : α) (h : Heap) (f : α → Heap → Res β) : (Res.ok a h).bind f = f a h := rfl
@[simp] theorem Res.bind_bad {α β : Type} (f : α → Heap → Res β) : (Res.bad : Res α).bind f = .bad := rfl
@[simp] theorem Res.bind_exc {α β : Type} (c : Nat) (fs : List (Str × Val)) (h : Heap) (f : α → Heap → Res β) : (Res.exc c fs h : Res α).bind f = .exc c fs h := rfl
abbrev Sl := List (Option Val)

/-! ## data as trees -/
def mapO {α β : Type} (f : α → Option β) : List α → Option (List β)
  | [] => some []
  | x :: xs => match f x, mapO f xs with
    | some y, some ys => some (y :: ys)
    | _, _ => none
def keyD : Key → PyData
  | .inl i => .int i
  | .inr x => .str x
/-- the data that a value is, as deep as n -/
def rd : Nat → Heap → Val → Option PyData
  | _, _, .non => some .none
  | _, _, .bl b => some (.bool b)
  | _, _, .int i => some (.int i)
  | _, _, .str x => some (.str x)
  | n + 1, h, .ref k => match h[k]? with
    | some (.lst xs) => (mapO (rd n h) xs).map .list
    | some (.tup xs) => (mapO (rd n h) xs).map .tuple
    | some (.dic kvs) => (mapO (fun p : Key × Val => (rd n h p.2).map fun d => (keyD p.1, d)) kvs).map .dict
    | _ => none
  | _, _, _ => none

/-! ## truth, operators -/
def tru (h : Heap) : Val → Option Bool
  | .non => some false
  | .bl b => some b
  | .int i => some (i != 0)
  | .str x => if x.length ≤ SL then some ((x.length : Int) != 0) else none
  | .ref n => match h[n]? with
    | some (.lst xs) => some (!xs.isEmpty)
    | some (.tup xs) => some (!xs.isEmpty)
    | some (.dic kvs) => some (!kvs.isEmpty)
    | _ => none
  | _ => none
inductive Op where
  | add | sub | mul | fdiv | mod | pow | eq | ne | lt | le | gt | ge | is | isnot | in_ | notin
  deriving DecidableEq, Repr
def new (o : Ob) (h : Heap) : Res Val := .ok (.ref h.length) (h ++ [o])
def addV (x y : Val) (h : Heap) : Res Val :=
  match x, y with
  | .int i, .int j => .ok (.int (i + j)) h
  | .str a, .str b => if a.length + b.length ≤ SL then .ok (.str (a ++ b)) h else .bad
  | .ref m, .ref n => match h[m]?, h[n]? with
    | some (.lst xs), some (.lst ys) => if xs.length + ys.length ≤ SL then new (.lst (xs ++ ys)) h else .bad
    | some (.tup xs), some (.tup ys) => if xs.length + ys.length ≤ SL then (if xs = [] then .ok y h else if ys = [] then .ok x h else new (.tup (xs ++ ys)) h) else .bad
    | _, _ => .bad
  | _, _ => .bad
def subV (x y : Val) (h : Heap) : Res Val :=
  match x, y with
  | .int i, .int j => .ok (.int (i - j)) h
  | _, _ => .bad
/-- a text k times over -/
def repS (x : Str) (k : Int) : Str := ⟨(List.replicate k.toNat x.cps.toList).flatten.toArray⟩
def mulV (x y : Val) (h : Heap) : Res Val :=
  match x, y with
  | .int i, .int j => if (-(2 ^ 64) < i ∧ i < 2 ^ 64) ∨ (-(2 ^ 64) < j ∧ j < 2 ^ 64) then .ok (.int (i * j)) h else .bad
  | .ref m, .int k => match h[m]? with
    | some (.lst xs) => if -(2 ^ 63) ≤ k ∧ k < 2 ^ 63 ∧ xs.length * k.toNat ≤ SL then new (.lst (List.replicate k.toNat xs).flatten) h else .bad
    | some (.tup xs) => if xs ≠ [] ∧ 2 ≤ k ∧ k ≤ 1000 ∧ xs.length ≤ 1000 then new (.tup (List.replicate k.toNat xs).flatten) h else .bad
    | _ => .bad
  | .str a, .int k => if -(2 ^ 63) ≤ k ∧ k < 2 ^ 63 ∧ a.length * k.toNat ≤ SL then .ok (.str (repS a k)) h else .bad
  | _, _ => .bad
def fdivV (x y : Val) (h : Heap) : Res Val :=
  match x, y with
  | .int i, .int j => if 0 < j ∧ j < 1073741824 then .ok (.int (i / j)) h else .bad
  | _, _ => .bad
def modV (x y : Val) (h : Heap) : Res Val :=
  match x, y with
  | .int i, .int j => if 0 < j then .ok (.int (i % j)) h else .bad
  | _, _ => .bad
def powV (x y : Val) (h : Heap) : Res Val :=
  match x, y with
  | .int i, .int j => if 0 ≤ j ∧ j ≤ 1000000 ∧ i.natAbs < 2 ^ 64 then .ok (.int (i ^ j.toNat)) h else .bad
  | _, _ => .bad
def eqO (h : Heap) (x y : Val) : Option Bool :=
  match x, y with
  | .int i, .int j => some (decide (i = j))
  | .str a, .str b => some (decide (a = b))
  | .bl a, .bl b => some (decide (a = b))
  | _, _ => match rd 60 h x, rd 60 h y with
    | some d, some e => if PySem.SeqAt.shaped d = true ∧ PySem.SeqAt.shaped e = true then some (PyData.eqv d e) else none
    | _, _ => none
def ofB (o : Option Bool) (h : Heap) : Res Val :=
  match o with
  | some b => .ok (.bl b) h
  | none => .bad
def ltA (x y : Val) : Option Bool :=
  match x, y with
  | .int i, .int j => some (decide (i < j))
  | .str a, .str b => some (decide (a.cps.toList < b.cps.toList))
  | _, _ => none
def isSqD : PyData → Bool
  | .list _ => true
  | .tuple _ => true
  | _ => false
def ltO (h : Heap) (x y : Val) : Option Bool :=
  match x, y with
  | .ref m, .ref n => (match rd 60 h (.ref m), rd 60 h (.ref n) with
    | some d, some e => if PySem.SeqAt.shaped d = true ∧ PySem.SeqAt.shaped e = true ∧ PySem.W.alike d e = true ∧ isSqD d = true ∧ d.depth ≤ 60 then some (PySem.W.dataLt d e) else none
    | _, _ => none)
  | x, y => ltA x y
def leO (x y : Val) : Option Bool :=
  match x, y with
  | .int i, .int j => some (decide (i ≤ j))
  | .str a, .str b => some (!decide (b.cps.toList < a.cps.toList))
  | _, _ => none
def isO (x y : Val) : Option Bool :=
  match y with
  | .non => some (decide (x = .non))
  | .bl b => (match x with
    | .bl a => some (decide (a = b))
    | .scr => none
    | .ref _ => some false
    | .int _ => some false
    | .str _ => some false
    | .non => some false
    | _ => none)
  | _ => none
def flat : Val → Bool
  | .non => true | .bl _ => true | .int _ => true | .str _ => true
  | _ => false
def eqF : Val → Val → Bool
  | .non, .non => true
  | .bl a, .bl b => a == b
  | .bl a, .int b => (if a then 1 else 0) == b
  | .int a, .bl b => a == (if b then 1 else 0)
  | .int a, .int b => a == b
  | .str a, .str b => a == b
  | _, _ => false
def keyV : Val → Option Key
  | .int i => some (.inl i)
  | .str x => some (.inr x)
  | _ => none
def getK (kvs : List (Key × Val)) (k : Key) : Option Val := (kvs.find? fun kv => decide (kv.1 = k)).map (·.2)
def inO (h : Heap) (x y : Val) : Option Bool :=
  match y with
  | .str z => (match x with
    | .str w => (match w.cps.toList with
      | [c] => some (decide (c ∈ z.cps.toList))
      | _ => none)
    | _ => none)
  | .ref n => match h[n]? with
    | some (.lst xs) => if flat x = true ∧ xs.all flat = true then some (xs.any fun y => eqF y x) else none
    | some (.tup xs) => if flat x = true ∧ xs.all flat = true then some (xs.any fun y => eqF y x) else none
    | some (.dic kvs) => (match keyV x with
      | some k => some (getK kvs k).isSome
      | none => none)
    | _ => none
  | _ => none
def inD (h : Heap) (x y : Val) : Option Bool :=
  match rd 60 h x, rd 60 h y with
  | some d, some (.list ds) => if PySem.SeqAt.shaped d = true ∧ PySem.SeqAt.shaped (.list ds) = true then some (ds.any fun z => PyData.eqv z d) else none
  | _, _ => none
def inX (h : Heap) (x y : Val) : Option Bool :=
  match inO h x y with
  | some b => some b
  | none => inD h x y
def bop (o : Op) (x y : Val) (h : Heap) : Res Val :=
  match o with
  | .add => addV x y h
  | .sub => subV x y h
  | .mul => mulV x y h
  | .fdiv => fdivV x y h
  | .mod => modV x y h
  | .pow => powV x y h
  | .eq => ofB (eqO h x y) h
  | .ne => ofB ((eqO h x y).map (!·)) h
  | .lt => ofB (ltO h x y) h
  | .le => ofB (leO x y) h
  | .gt => ofB (ltA y x) h
  | .ge => ofB (leO y x) h
  | .is => ofB (isO x y) h
  | .isnot => ofB ((isO x y).map (!·)) h
  | .in_ => ofB (inX h x y) h
  | .notin => ofB ((inX h x y).map (!·)) h

/-- in place: ints, texts -/
def aop (o : Op) (x y : Val) (h : Heap) : Res Val :=
  match o, x, y with
  | .add, .int i, .int j => .ok (.int (i + j)) h
  | .sub, .int i, .int j => .ok (.int (i - j)) h
  | .add, .str a, .str b => if a.length + b.length ≤ SL then .ok (.str (a ++ b)) h else .bad
  | _, _, _ => .bad

/-! ## the surroundings: what a call gives, the module's constants, the script -/
structure G where
  call : Nat → List Val → Heap → Res Val
  glob : Nat → Option Val
  scr : List Int
  /-- the fields of the exception that is handled -/
  ex : Option (List (Str × Val))

/-! ## items, slices -/
def idxV (g : G) (x y : Val) (h : Heap) : Res Val :=
  match x, y with
  | .scr, .int i => (match L2.atI g.scr i with
    | some n => .ok (.int n) h
    | none => .bad)
  | .str z, .int i => if z.length ≤ SL then (match L2.atI z.cps.toList i with
    | some c => .ok (.str ⟨#[c]⟩) h
    | none => .bad) else .bad
  | .ref n, y => match h[n]? with
    | some (.lst xs) => (match y with
      | .int i => (match L2.atI xs i with
        | some v => .ok v h
        | none => .bad)
      | _ => .bad)
    | some (.tup xs) => (match y with
      | .int i => (match L2.atI xs i with
        | some v => .ok v h
        | none => .bad)
      | _ => .bad)
    | some (.dic kvs) => (match keyV y with
      | some k => (match getK kvs k with
        | some v => .ok v h
        | none => .bad)
      | none => .bad)
    | _ => .bad
  | _, _ => .bad
def slcV (x : Val) (lo hi : Option Int) (h : Heap) : Res Val :=
  match x with
  | .str z => if z.length ≤ SL then .ok (.str (L2.cutS z lo hi)) h else .bad
  | .ref n => match h[n]? with
    | some (.lst xs) => new (.lst ((xs.drop (HT.sIx xs.length 0 lo)).take (HT.sIx xs.length xs.length hi - HT.sIx xs.length 0 lo))) h
    | some (.tup xs) => if HT.sIx xs.length 0 lo = 0 ∧ HT.sIx xs.length xs.length hi = xs.length then .ok x h
      else new (.tup ((xs.drop (HT.sIx xs.length 0 lo)).take (HT.sIx xs.length xs.length hi - HT.sIx xs.length 0 lo))) h
    | _ => .bad
  | _ => .bad

/-! ## built-in functions -/
def intsO : List Val → Option (List Int)
  | [] => some []
  | .int i :: r => (intsO r).map (i :: ·)
  | _ => none
def blsO : List Val → Option (List Bool)
  | [] => some []
  | .bl i :: r => (blsO r).map (i :: ·)
  | _ => none
def strsO : List Val → Option (List Str)
  | [] => some []
  | .str i :: r => (strsO r).map (i :: ·)
  | _ => none
def maxL (ns : List Int) : Int := ns.foldl max (ns.headD 0)
def minL (ns : List Int) : Int := ns.foldl min (ns.headD 0)
/-- the items of a list or a tuple -/
def seqO (h : Heap) : Val → Option (List Val)
  | .ref n => match h[n]? with
    | some (.lst xs) => some xs
    | some (.tup xs) => some xs
    | _ => none
  | _ => none
def lstO (h : Heap) : Val → Option (List Val)
  | .ref n => match h[n]? with
    | some (.lst xs) => some xs
    | _ => none
  | _ => none
/-- isinstance against a built-in type -/
def tyO (h : Heap) : Val → Option String
  | .non => some "NoneType"
  | .bl _ => some "bool"
  | .int _ => some "int"
  | .str _ => some "str"
  | .ref n => match h[n]? with
    | some (.lst _) => some "list"
    | some (.tup _) => some "tuple"
    | some (.dic _) => some "dict"
    | _ => none
  | _ => none
def isTy (a b : String) : Bool := a == b || (a == "bool" && b == "int")
def okTy (b : String) : Bool := b == "int" || b == "bool" || b == "str" || b == "list" || b == "tuple" || b == "dict"
def tysO : List Val → Option (List String)
  | [] => some []
  | .ty i :: r => if okTy i then (tysO r).map (i :: ·) else none
  | _ => none
inductive Pr where
  | len | max | min | sum | all | any | int | str | bool | list | tuple | isinst | repr
  deriving DecidableEq, Repr
def lenV (g : G) (h : Heap) : Val → Option Nat
  | .scr => some g.scr.length
  | .str z => if z.length ≤ SL then some z.length else none
  | .ref n => match h[n]? with
    | some (.lst xs) => some xs.length
    | some (.tup xs) => some xs.length
    | some (.dic kvs) => some kvs.length
    | _ => none
  | _ => none
def maxV (f : Int → Int → Int) (fl : List Int → Int) (h : Heap) (vs : List Val) : Res Val :=
  match vs with
  | [.int i, .int j] => .ok (.int (f i j)) h
  | [x] => (match (seqO h x).bind intsO with
    | some ns => if 0 < ns.length then .ok (.int (fl ns)) h else .bad
    | none => .bad)
  | _ => .bad
def pri (g : G) (p : Pr) (vs : List Val) (h : Heap) : Res Val :=
  match p with
  | .len => (match vs with
    | [x] => (match lenV g h x with
      | some n => .ok (.int n) h
      | none => .bad)
    | _ => .bad)
  | .max => maxV (fun i j => if j > i then j else i) maxL h vs
  | .min => maxV (fun i j => if j < i then j else i) minL h vs
  | .sum => (match vs with
    | [x] => (match (seqO h x).bind intsO with
      | some ns => .ok (.int ns.sum) h
      | none => .bad)
    | _ => .bad)
  | .all => (match vs with
    | [x] => (match (lstO h x).bind blsO with
      | some ns => .ok (.bl (ns.all id)) h
      | none => .bad)
    | _ => .bad)
  | .any => (match vs with
    | [x] => (match (lstO h x).bind blsO with
      | some ns => .ok (.bl (ns.any id)) h
      | none => .bad)
    | _ => .bad)
  | .int => (match vs with
    | [.int i] => .ok (.int i) h
    | [.bl b] => .ok (.int (if b then 1 else 0)) h
    | [.str x] => (match PySem.intText? x with
      | some n => if x.length ≤ 640 then .ok (.int n) h else .bad
      | none => .bad)
    | _ => .bad)
  | .str => (match vs with
    | [.int i] => if i.natAbs.log2 < 1920 then .ok (.str (Str.ofString (toString i))) h else .bad
    | [.str x] => .ok (.str x) h
    | _ => .bad)
  | .bool => (match vs with
    | [.int i] => .ok (.bl (i != 0)) h
    | [.bl b] => .ok (.bl b) h
    | _ => .bad)
  | .list => (match vs with
    | [x] => (match seqO h x with
      | some xs => new (.lst xs) h
      | none => .bad)
    | _ => .bad)
  | .tuple => (match vs with
    | [x] => (match x with
      | .ref n => (match h[n]? with
        | some (.lst xs) => new (.tup xs) h
        | some (.tup _) => .ok x h
        | _ => .bad)
      | _ => .bad)
    | _ => .bad)
  | .isinst => (match vs with
    | [x, .ty t] => (match tyO h x with
      | some s => if okTy t then .ok (.bl (isTy s t)) h else .bad
      | none => .bad)
    | [x, .ref n] => (match tyO h x, h[n]? with
      | some s, some (.tup ts) => (match tysO ts with
        | some us => .ok (.bl (us.any (isTy s))) h
        | none => .bad)
      | _, _ => .bad)
    | _ => .bad)
  | .repr => (match vs with
    | [x] => (match rd 60 h x with
      | some d => if d.showable = true ∧ d.depth ≤ 60 ∧ d.shown.length ≤ SL then .ok (.str d.shown) h else .bad
      | none => .bad)
    | _ => .bad)

/-- xs[::-1] -/
def revV (x : Val) (h : Heap) : Res Val :=
  match lstO h x with
  | some xs => new (.lst xs.reverse) h
  | none => .bad
/-- the two things of a pair -/
def twoV (v : Val) (h : Heap) : Res (Val × Val) :=
  match v with
  | .ref n => (match h[n]? with
    | some (.tup [x, y]) => .ok (x, y) h
    | _ => .bad)
  | _ => .bad

/-! ## methods of built-in types -/
def putK (kvs : List (Key × Val)) (k : Key) (v : Val) : List (Key × Val) :=
  if (kvs.any fun kv => decide (kv.1 = k)) = true then kvs.map (fun kv => if kv.1 = k then (kv.1, v) else kv) else kvs ++ [(k, v)]
inductive Me where
  | append | join | split | insert | pop | clear | extend | sindex
  deriving DecidableEq, Repr
def met (m : Me) (x : Val) (vs : List Val) (h : Heap) : Res Val :=
  match m with
  | .append => (match x, vs with
    | .ref n, [y] => (match h[n]? with
      | some (.lst xs) => if xs.length < SL then .ok .non (h.set n (.lst (xs ++ [y]))) else .bad
      | _ => .bad)
    | _, _ => .bad)
  | .join => (match x, vs with
    | .str a, [y] => (match (seqO h y).bind strsO with
      | some ys => if (ys.map (·.length)).sum + ys.length * a.length ≤ SL then .ok (.str (PySem.Txt.join a ys)) h else .bad
      | none => .bad)
    | _, _ => .bad)
  | .split => (match x, vs with
    | .str a, [.str b] => if (b.length == 0) = false ∧ a.length + 2 ≤ SL then new (.lst ((PySem.Txt.split a b).map .str)) h else .bad
    | _, _ => .bad)
  | .insert => (match x, vs with
    | .ref n, [.int i, y] => (match h[n]? with
      | some (.lst xs) => if xs.length < SL ∧ 0 ≤ i ∧ i < 2 ^ 63 then .ok .non (h.set n (.lst (xs.take i.toNat ++ [y] ++ xs.drop i.toNat))) else .bad
      | _ => .bad)
    | _, _ => .bad)
  | .pop => (match x, vs with
    | .ref n, [] => (match h[n]? with
      | some (.lst xs) => (match xs[xs.length - 1]? with
        | some y => .ok y (h.set n (.lst xs.dropLast))
        | none => .bad)
      | _ => .bad)
    | .ref n, [.int i] => (match h[n]? with
      | some (.lst xs) => (match L2.ixN xs.length i with
        | some k => (match xs[k]? with
          | some y => .ok y (h.set n (.lst (xs.eraseIdx k)))
          | none => .bad)
        | none => .bad)
      | _ => .bad)
    | _, _ => .bad)
  | .clear => (match x, vs with
    | .ref n, [] => (match h[n]? with
      | some (.lst _) => .ok .non (h.set n (.lst []))
      | _ => .bad)
    | _, _ => .bad)
  | .extend => (match x, vs with
    | .ref n, [.ref m] => (match h[n]?, h[m]? with
      | some (.lst xs), some (.lst ys) => if xs.length + ys.length ≤ SL then .ok .non (h.set n (.lst (xs ++ ys))) else .bad
      | _, _ => .bad)
    | _, _ => .bad)
  | .sindex => (match x, vs with
    | .str a, [.str b] => (match PySem.Builtin.Str.occurrences a b 0 a.length 1 with
      | i :: _ => .ok (.int (i : Nat)) h
      | [] => .bad)
    | _, _ => .bad)
/-- what a receiver must be -/
def rcv (m : Me) (x : Val) (h : Heap) : Bool :=
  match m with
  | .append => (lstO h x).isSome
  | .insert => (lstO h x).isSome
  | .pop => (lstO h x).isSome
  | .clear => (lstO h x).isSome
  | .extend => (lstO h x).isSome
  | .join => match x with | .str _ => true | _ => false
  | .split => match x with | .str _ => true | _ => false
  | .sindex => match x with | .str _ => true | _ => false
/-- o[i] = v -/
def setV (o i v : Val) (h : Heap) : Res Unit :=
  match o with
  | .ref n => match h[n]? with
    | some (.lst xs) => (match i with
      | .int k => (match L2.ixN xs.length k with
        | some j => .ok () (h.set n (.lst (xs.set j v)))
        | none => .bad)
      | _ => .bad)
    | some (.dic kvs) => (match keyV i with
      | some k => if kvs.length < SL then .ok () (h.set n (.dic (putK kvs k v))) else .bad
      | none => .bad)
    | _ => .bad
  | _ => .bad

/-! ## expressions -/
/-- where a value goes: a slot, a tuple of slots -/
inductive Tg where
  | nm (i : Nat) | tp (is : List Nat)
  deriving DecidableEq, Repr
def setAll : List Nat → List Val → Sl → Option Sl
  | [], [], σ => some σ
  | i :: is, v :: vs, σ => setAll is vs (σ.set i (some v))
  | _, _, _ => none
def tgV (t : Tg) (v : Val) (σ : Sl) (h : Heap) : Option Sl :=
  match t with
  | .nm i => some (σ.set i (some v))
  | .tp is => match v with
    | .ref n => (match h[n]? with
      | some (.tup vs) => setAll is vs σ
      | some (.lst vs) => setAll is vs σ
      | _ => none)
    | _ => none
/-- what a loop walks: at each turn an item, perhaps a pair that is made there; the things walked must stand -/
inductive It where
  | v (x : Val) | pr (x y : Val)
  deriving DecidableEq, Repr
structure Walk where
  items : List It
  stands : List (Nat × Ob)
def Walk.ok (w : Walk) (h : Heap) : Bool := w.stands.all fun p => decide (h[p.1]? = some p.2)
def yieldI (i : It) (h : Heap) : Val × Heap :=
  match i with
  | .v x => (x, h)
  | .pr x y => (.ref h.length, h ++ [.tup [x, y]])
def walkV (x : Val) (h : Heap) : Option Walk :=
  match x with
  | .str z => some ⟨z.cps.toList.map fun c => .v (.str ⟨#[c]⟩), []⟩
  | .ref n => match h[n]? with
    | some (.lst xs) => some ⟨xs.map .v, [(n, .lst xs)]⟩
    | some (.tup xs) => some ⟨xs.map .v, [(n, .tup xs)]⟩
    | _ => none
  | _ => none
def intItems (lo : Int) : Nat → List It
  | 0 => []
  | n + 1 => .v (.int lo) :: intItems (lo + 1) n
def pairI : List Val → List Val → List It
  | x :: xs, y :: ys => .pr x y :: pairI xs ys
  | _, _ => []
def enumI : Nat → List Val → List It
  | n, x :: xs => .pr (.int n) x :: enumI (n + 1) xs
  | _, [] => []
/-- a list or a tuple with its items -/
def obO (h : Heap) (n : Nat) : Option (Ob × List Val) :=
  match h[n]? with
  | some (.lst xs) => some (.lst xs, xs)
  | some (.tup xs) => some (.tup xs, xs)
  | _ => none
inductive Src where
  | val | rng1 | rng2 | enum | zip
  deriving DecidableEq, Repr
def srcV (s : Src) (vs : List Val) (h : Heap) : Option Walk :=
  match s with
  | .val => (match vs with
    | [x] => walkV x h
    | _ => none)
  | .rng1 => (match vs with
    | [.int j] => if -(2 ^ 62) ≤ j ∧ j < 2 ^ 62 then some ⟨intItems 0 j.toNat, []⟩ else none
    | _ => none)
  | .rng2 => (match vs with
    | [.int i, .int j] => if -(2 ^ 62) ≤ i ∧ i < 2 ^ 62 ∧ -(2 ^ 62) ≤ j ∧ j < 2 ^ 62 then some ⟨intItems i (j - i).toNat, []⟩ else none
    | _ => none)
  | .enum => (match vs with
    | [.ref n] => (match h[n]? with
      | some (.lst xs) => some ⟨enumI 0 xs, [(n, .lst xs)]⟩
      | _ => none)
    | _ => none)
  | .zip => (match vs with
    | [.ref n, .ref m] => (match obO h n, obO h m with
      | some (o, xs), some (o', ys) => some ⟨pairI xs ys, [(n, o), (m, o')]⟩
      | _, _ => none)
    | _ => none)
def srcR (s : Src) (vs : List Val) (h : Heap) : Res Walk :=
  match srcV s vs h with
  | some w => .ok w h
  | none => .bad
def wipe (σ : Sl) : List Nat → Sl
  | [] => σ
  | v :: vs => (wipe σ vs).set v none
/-- a comprehension's loop: what is gathered -/
def lcF (w : Walk) (t : Tg) (c : Sl → Heap → Res Bool) (e : Sl → Heap → Res Val) (σ : Sl) : List It → List Val → Heap → Res (List Val)
  | [], acc, h => if w.ok h then .ok acc h else .bad
  | i :: is, acc, h => if w.ok h then
      match tgV t (yieldI i h).1 σ (yieldI i h).2 with
      | none => .bad
      | some σ' => match c σ' (yieldI i h).2 with
        | .ok true h1 => (match e σ' h1 with
          | .ok v h2 => if acc.length < SL then lcF w t c e σ is (acc ++ [v]) h2 else .bad
          | _ => .bad)
        | .ok false h1 => lcF w t c e σ is acc h1
        | _ => .bad
    else .bad
mutual
inductive Ex where
  | var (i : Nat)
  | cst (v : Val)
  | glb (x : Nat)
  | bin (o : Op) (a b : Ex)
  | neg (a : Ex)
  | not (a : Ex)
  | and (a b : Ex)
  | or (a b : Ex)
  | chn (o p : Op) (a b c : Ex)
  | ite (c a b : Ex)
  | lst (es : Exs)
  | tup (es : Exs)
  | dnew
  | dic (es : Exs)
  | idx (a i : Ex)
  | slc (a : Ex) (lo hi : Exo)
  | rev (a : Ex)
  | efl (i : Nat) (f : Str)
  | inr (neg : Bool) (a : Ex) (es : Exs)
  | cal (f : Nat) (es : Exs)
  | pri (p : Pr) (es : Exs)
  | met (m : Me) (o : Ex) (es : Exs)
  | lc (e : Ex) (t : Tg) (s : Src) (es : Exs) (own : List Nat) (c : Exo)
inductive Exs where
  | nil | cons (e : Ex) (es : Exs)
inductive Exo where
  | none | some (e : Ex)
end
/-- x in range(..) -/
def inrV (neg : Bool) (x : Val) (vs : List Val) (h : Heap) : Res Val :=
  match x with
  | .int i => (match vs with
    | [.int j] => .ok (.bl (xor neg (decide (0 ≤ i ∧ i < j)))) h
    | [.int l, .int j] => .ok (.bl (xor neg (decide (l ≤ i ∧ i < j)))) h
    | _ => .bad)
  | _ => .bad
/-- keys and values, one by one -/
def kvsO : List Val → Option (List (Key × Val))
  | [] => some []
  | k :: v :: r => match keyV k, kvsO r with
    | some k, some r => some ((k, v) :: r)
    | _, _ => none
  | _ => none
def truB (v : Val) (h : Heap) : Res Bool :=
  match tru h v with
  | some b => .ok b h
  | none => .bad
def intO : Val → Heap → Res (Option Int)
  | .int i, h => .ok (some i) h
  | _, _ => .bad
mutual
def den (g : G) : Ex → Sl → Heap → Res Val
  | .var i, σ, h => match σ[i]? with
    | some (some v) => .ok v h
    | _ => .bad
  | .cst v, _, h => .ok v h
  | .glb x, _, h => match g.glob x with
    | some v => .ok v h
    | none => .bad
  | .bin o a b, σ, h => (den g a σ h).bind fun x h => (den g b σ h).bind fun y h => bop o x y h
  | .neg a, σ, h => (den g a σ h).bind fun x h => match x with
    | .int i => .ok (.int (-i)) h
    | _ => .bad
  | .not a, σ, h => (den g a σ h).bind fun x h => (truB x h).bind fun b h => .ok (.bl (!b)) h
  | .and a b, σ, h => (den g a σ h).bind fun x h => (truB x h).bind fun t h => if t then den g b σ h else .ok x h
  | .or a b, σ, h => (den g a σ h).bind fun x h => (truB x h).bind fun t h => if t then .ok x h else den g b σ h
  | .chn o p a b c, σ, h => (den g a σ h).bind fun x h => (den g b σ h).bind fun y h => (bop o x y h).bind fun k h =>
    match k with
    | .bl true => (den g c σ h).bind fun z h => bop p y z h
    | .bl false => .ok (.bl false) h
    | _ => .bad
  | .ite c a b, σ, h => (den g c σ h).bind fun x h => (truB x h).bind fun t h => if t then den g a σ h else den g b σ h
  | .lst es, σ, h => (dens g es σ h).bind fun vs h => if vs.length ≤ SL then new (.lst vs) h else .bad
  | .tup es, σ, h => (dens g es σ h).bind fun vs h => if vs.length ≤ SL then new (.tup vs) h else .bad
  | .dnew, _, h => new (.dic []) h
  | .dic es, σ, h => (dens g es σ h).bind fun vs h => match kvsO vs with
    | some kvs => if kvs.length ≤ 15 then new (.dic (kvs.foldl (fun acc kv => putK acc kv.1 kv.2) [])) h else .bad
    | none => .bad
  | .idx a i, σ, h => (den g a σ h).bind fun x h => (den g i σ h).bind fun y h => idxV g x y h
  | .slc a lo hi, σ, h => (den g a σ h).bind fun x h => (deno g lo σ h).bind fun l h => (deno g hi σ h).bind fun u h => slcV x l u h
  | .rev a, σ, h => (den g a σ h).bind fun x h => revV x h
  | .efl i f, σ, h => match σ[i]? with
    | some none => (match g.ex with
      | some fs => (match fs.lookup f with
        | some v => .ok v h
        | none => .bad)
      | none => .bad)
    | _ => .bad
  | .inr neg a es, σ, h => (den g a σ h).bind fun x h => (dens g es σ h).bind fun vs h => inrV neg x vs h
  | .cal f es, σ, h => (dens g es σ h).bind fun vs h => g.call f vs h
  | .pri p es, σ, h => (dens g es σ h).bind fun vs h => Mi.pri g p vs h
  | .met m o es, σ, h => (den g o σ h).bind fun x h => if rcv m x h then (dens g es σ h).bind fun vs h => Mi.met m x vs h else .bad
  | .lc e t s es own c, σ, h => ((dens g es σ h).bind fun vs h => srcR s vs h).bind fun w h => (lcF w t (denc g c) (den g e) (wipe σ own) w.items [] h).bind fun vs h => new (.lst vs) h
def dens (g : G) : Exs → Sl → Heap → Res (List Val)
  | .nil, _, h => .ok [] h
  | .cons e es, σ, h => (den g e σ h).bind fun v h => (dens g es σ h).bind fun vs h => .ok (v :: vs) h
def deno (g : G) : Exo → Sl → Heap → Res (Option Int)
  | .none, _, h => .ok none h
  | .some e, σ, h => (den g e σ h).bind intO
def denc (g : G) : Exo → Sl → Heap → Res Bool
  | .none, _, h => .ok true h
  | .some e, σ, h => (den g e σ h).bind truB
end
/-- as a test -/
def denT (g : G) (e : Ex) (σ : Sl) (h : Heap) : Res Bool := (den g e σ h).bind truB

/-! ## statements -/
/-- how a statement ends: on, with a value, with an exception (its class, its fields, the slots then) -/
inductive Fl where
  | nx (σ : Sl) | rt (v : Val) | ex (c : Nat) (fs : List (Str × Val)) (σ : Sl)
/-- an expression's end within a statement -/
def Res.sb {α : Type} (σ : Sl) (r : Res α) (f : α → Heap → Res Fl) : Res Fl :=
  match r with
  | .ok a h => f a h
  | .exc c fs h => .ok (.ex c fs σ) h
  | .bad => .bad
@[simp] theorem Res.sb_ok {α : Type} (σ : Sl) (a : α) (h : Heap) (f : α → Heap → Res Fl) : (Res.ok a h).sb σ f = f a h := rfl
@[simp] theorem Res.sb_bad {α : Type} (σ : Sl) (f : α → Heap → Res Fl) : (Res.bad : Res α).sb σ f = .bad := rfl
@[simp] theorem Res.sb_exc {α : Type} (σ : Sl) (c : Nat) (fs : List (Str × Val)) (h : Heap) (f : α → Heap → Res Fl) : (Res.exc c fs h : Res α).sb σ f = .ok (.ex c fs σ) h := rfl
/-- go on where it goes on -/
def Fl.go (f : Fl) (h : Heap) (k : Sl → Heap → Res Fl) : Res Fl :=
  match f with
  | .nx σ => k σ h
  | .rt v => .ok (.rt v) h
  | .ex c fs σ => .ok (.ex c fs σ) h
@[simp] theorem Fl.go_nx (σ : Sl) (h : Heap) (k : Sl → Heap → Res Fl) : (Fl.nx σ).go h k = k σ h := rfl
@[simp] theorem Fl.go_rt (v : Val) (h : Heap) (k : Sl → Heap → Res Fl) : (Fl.rt v).go h k = .ok (.rt v) h := rfl
@[simp] theorem Fl.go_ex (c : Nat) (fs : List (Str × Val)) (σ : Sl) (h : Heap) (k : Sl → Heap → Res Fl) : (Fl.ex c fs σ).go h k = .ok (.ex c fs σ) h := rfl
mutual
inductive St where
  | pass
  | exp (e : Ex)
  | ret (e : Ex)
  | asg (t : Tg) (e : Ex)
  | par (is : List Nat) (es : Exs)
  | sti (o i e : Ex)
  | sw2 (o i p j e : Ex)
  | aug (o : Op) (i : Nat) (e : Ex)
  | ite (c : Ex) (a b : Sts)
  | whl (c : Ex) (b : Sts)
  | frr (t : Tg) (s : Src) (es : Exs) (b : Sts)
  | nvr
  | rse (c : Nat) (fs : List Str) (es : Exs)
  | tri (b : Sts) (hs : Hds)
inductive Sts where
  | nil | cons (s : St) (ss : Sts)
/-- except clauses: the classes that they take, the slot of the name, the suite -/
inductive Hds where
  | nil | cons (ids : List Nat) (sl : Option Nat) (b : Sts) (r : Hds)
end
/-- the name of a clause goes -/
def goneS : Option Nat → Sl → Sl
  | none, σ => σ
  | some i, σ => σ.set i none
/-- a suite's end -/
def unx (sl : Option Nat) (f : Fl) (h : Heap) : Res Fl :=
  match f with
  | .nx σ => .ok (.nx (goneS sl σ)) h
  | .rt v => .ok (.rt v) h
  | .ex _ _ _ => .bad
def loopF (w : Walk) (t : Tg) (b : Sl → Heap → Res Fl) : List It → Sl → Heap → Res Fl
  | [], σ, h => if w.ok h then .ok (.nx σ) h else .bad
  | i :: is, σ, h => if w.ok h then
      match tgV t (yieldI i h).1 σ (yieldI i h).2 with
      | none => .bad
      | some σ' => (b σ' (yieldI i h).2).bind fun f h => f.go h (loopF w t b is)
    else .bad
def loopW (c : Sl → Heap → Res Bool) (b : Sl → Heap → Res Fl) : Nat → Sl → Heap → Res Fl
  | 0, _, _ => .bad
  | n + 1, σ, h => (c σ h).sb σ fun t h => if t then (b σ h).bind fun f h => f.go h (loopW c b n) else .ok (.nx σ) h
def turns : Nat := 1000000
def setT (t : Tg) (v : Val) (σ : Sl) (h : Heap) : Res Fl :=
  match tgV t v σ h with
  | some σ' => .ok (.nx σ') h
  | none => .bad
def setP (is : List Nat) (vs : List Val) (σ : Sl) (h : Heap) : Res Fl :=
  match setAll is vs σ with
  | some σ' => .ok (.nx σ') h
  | none => .bad
mutual
def exe (g : G) : St → Sl → Heap → Res Fl
  | .pass, σ, h => .ok (.nx σ) h
  | .exp e, σ, h => (den g e σ h).sb σ fun _ h => .ok (.nx σ) h
  | .ret e, σ, h => (den g e σ h).sb σ fun v h => .ok (.rt v) h
  | .asg t e, σ, h => (den g e σ h).sb σ fun v h => setT t v σ h
  | .par is es, σ, h => (dens g es σ h).sb σ fun vs h => setP is vs σ h
  | .sti o i e, σ, h => (den g e σ h).sb σ fun v h => (den g o σ h).sb σ fun x h => (den g i σ h).sb σ fun y h => (setV x y v h).sb σ fun _ h => .ok (.nx σ) h
  | .sw2 o i p j e, σ, h => (den g e σ h).sb σ fun v h => (twoV v h).sb σ fun xy h => (den g o σ h).sb σ fun x h => (den g i σ h).sb σ fun y h => (setV x y xy.1 h).sb σ fun _ h =>
    (den g p σ h).sb σ fun x h => (den g j σ h).sb σ fun y h => (setV x y xy.2 h).sb σ fun _ h => .ok (.nx σ) h
  | .aug o i e, σ, h => (den g (.var i) σ h).sb σ fun x h => (den g e σ h).sb σ fun y h => (aop o x y h).sb σ fun v h => .ok (.nx (σ.set i (some v))) h
  | .ite c a b, σ, h => (denT g c σ h).sb σ fun t h => if t then exes g a σ h else exes g b σ h
  | .whl c b, σ, h => loopW (denT g c) (exes g b) turns σ h
  | .frr t s es b, σ, h => ((dens g es σ h).bind fun vs h => srcR s vs h).sb σ fun w h => loopF w t (exes g b) w.items σ h
  | .nvr, _, _ => .bad
  | .rse c fs es, σ, h => (dens g es σ h).sb σ fun vs h => if vs.length = fs.length then .ok (.ex c (fs.zip vs).reverse σ) h else .bad
  | .tri b hs, σ, h => (exes g b σ h).bind fun f h => match f with
    | .ex c fs σ' => hands g hs c fs σ' h
    | .nx σ' => .ok (.nx σ') h
    | .rt v => .ok (.rt v) h
def exes (g : G) : Sts → Sl → Heap → Res Fl
  | .nil, σ, h => .ok (.nx σ) h
  | .cons s ss, σ, h => (exe g s σ h).bind fun f h => f.go h (exes g ss)
/-- the clauses, one by one -/
def hands (g : G) : Hds → Nat → List (Str × Val) → Sl → Heap → Res Fl
  | .nil, c, fs, σ, h => .ok (.ex c fs σ) h
  | .cons ids sl b r, c, fs, σ, h => if c ∈ ids then (exes { g with ex := some fs } b (goneS sl σ) h).bind fun f h => unx sl f h else hands g r c fs σ h
end

/-! ## defs and calls -/
structure Def where
  params : Nat
  slots : Nat
  dflt : List Val
  body : Sts
def startV (d : Def) (vs : List Val) : Sl := vs.map some ++ List.replicate (d.slots - vs.length) none
def Fl.out (f : Fl) (h : Heap) : Res Val :=
  match f with
  | .nx _ => .ok .non h
  | .rt v => .ok v h
  | .ex c fs _ => .exc c fs h
def Res.fin (r : Res Fl) : Res Val :=
  match r with
  | .ok f h => f.out h
  | .exc _ _ _ => .bad
  | .bad => .bad
@[simp] theorem Res.fin_ok (f : Fl) (h : Heap) : (Res.ok f h).fin = f.out h := rfl
@[simp] theorem Res.fin_bad : (Res.bad : Res Fl).fin = .bad := rfl
@[simp] theorem Fl.out_rt (v : Val) (h : Heap) : (Fl.rt v).out h = .ok v h := rfl
@[simp] theorem Fl.out_nx (σ : Sl) (h : Heap) : (Fl.nx σ).out h = .ok .non h := rfl
@[simp] theorem Fl.out_ex (c : Nat) (fs : List (Str × Val)) (σ : Sl) (h : Heap) : (Fl.ex c fs σ).out h = .exc c fs h := rfl
def runDef (g : G) (d : Def) (vs : List Val) (h : Heap) : Res Val :=
  if vs.length = d.params then (exes g d.body (startV d vs) h).fin else .bad
/-- calls at most n deep -/
def calls (D : Nat → Option Def) (gl : Nat → Option Val) (scr : List Int) : Nat → Nat → List Val → Heap → Res Val
  | 0, _, _, _ => .bad
  | n + 1, f, vs, h => match D f with
    | some d => runDef ⟨calls D gl scr n, gl, scr, none⟩ d (vs ++ d.dflt.drop (d.dflt.length + vs.length - d.params)) h
    | none => .bad
end Mi


/-! # Mi2: what the small language says, and the abstract heap of the hand layer -/
namespace Mi
open PySem PySem.Spec PyProof.Rows L2

/-- what stands fast: the written part, where the classes and defs stand, the script -/
structure Th where
  K : PySem.W.Frag
  ga : Nat → Option Addr
  sa : Addr
  S : List Int
  /-- the exception that is handled: the slot of its name, where it stands, its dict, its fields -/
  ex : Option (Nat × Addr × Addr × List (Str × Val)) := none

theorem pr_get {α β : Type} {F : α → β → Prop} : ∀ {xs : List α} {ys : List β} {i : Nat} {x : α}, Paired F xs ys → xs[i]? = some x → ∃ y, ys[i]? = some y ∧ F x y
  | _, _, _, _, .nil, e => by simp at e
  | _, _, 0, _, .cons r _, e => by simp at e; subst e; exact ⟨_, rfl, r⟩
  | _, _, i + 1, x, .cons _ t, e => by
    obtain ⟨u, h1, h2⟩ := pr_get (i := i) (x := x) t (by simpa using e)
    exact ⟨u, by simpa using h1, h2⟩
theorem pr_set {α β : Type} {F : α → β → Prop} {x : α} {u : β} (r : F x u) : ∀ {xs : List α} {us : List β} (i : Nat), Paired F xs us → Paired F (xs.set i x) (us.set i u)
  | _, _, _, .nil => .nil
  | _, _, 0, .cons _ t => .cons r t
  | _, _, i + 1, .cons q t => .cons q (pr_set r i t)
theorem pr_append {α β : Type} {F : α → β → Prop} : ∀ {xs ys : List α} {us ws : List β}, Paired F xs us → Paired F ys ws → Paired F (xs ++ ys) (us ++ ws)
  | _, _, _, _, .nil, s => s
  | _, _, _, _, .cons r t, s => .cons r (pr_append t s)
theorem pr_take {α β : Type} {F : α → β → Prop} : ∀ {xs : List α} {us : List β} (n : Nat), Paired F xs us → Paired F (xs.take n) (us.take n)
  | _, _, 0, _ => .nil
  | _, _, _ + 1, .nil => .nil
  | _, _, n + 1, .cons r t => .cons r (pr_take n t)
theorem pr_drop {α β : Type} {F : α → β → Prop} : ∀ {xs : List α} {us : List β} (n : Nat), Paired F xs us → Paired F (xs.drop n) (us.drop n)
  | _, _, 0, r => r
  | _, _, _ + 1, .nil => .nil
  | _, _, n + 1, .cons _ t => pr_drop n t
theorem pr_mono {α β : Type} {F F' : α → β → Prop} (h : ∀ a b, F a b → F' a b) : ∀ {xs : List α} {us : List β}, Paired F xs us → Paired F' xs us
  | _, _, .nil => .nil
  | _, _, .cons r t => .cons (h _ _ r) (pr_mono h t)
theorem pr_rep {α β : Type} {F : α → β → Prop} {xs : List α} {us : List β} (r : Paired F xs us) : ∀ n : Nat, Paired F (List.replicate n xs).flatten (List.replicate n us).flatten
  | 0 => .nil
  | n + 1 => by
    rw [List.replicate_succ, List.replicate_succ, List.flatten_cons, List.flatten_cons]
    exact pr_append r (pr_rep r n)
theorem pr_erase {α β : Type} {F : α → β → Prop} : ∀ {xs : List α} {us : List β} (n : Nat), Paired F xs us → Paired F (xs.eraseIdx n) (us.eraseIdx n)
  | _, _, _, .nil => .nil
  | _, _, 0, .cons _ t => t
  | _, _, n + 1, .cons r t => .cons r (pr_erase n t)
theorem pr_dropLast {α β : Type} {F : α → β → Prop} {xs : List α} {us : List β} (r : Paired F xs us) : Paired F xs.dropLast us.dropLast := by
  rw [List.dropLast_eq_take, List.dropLast_eq_take, r.length]
  exact pr_take _ r
theorem pr_map {α β α' β' : Type} {F : α → β → Prop} {F' : α' → β' → Prop} {f : α → α'} {g : β → β'} (h : ∀ a b, F a b → F' (f a) (g b)) : ∀ {xs : List α} {us : List β}, Paired F xs us → Paired F' (xs.map f) (us.map g)
  | _, _, .nil => .nil
  | _, _, .cons r t => .cons (h _ _ r) (pr_map h t)

section
variable (t : Th)
def VR (ρ : List Addr) : Val → V → Prop
  | .non, y => y = .non
  | .bl b, y => y = .bl b
  | .int i, y => y = .int i
  | .str x, y => y = .str x
  | .ref n, y => ∃ a, ρ[n]? = some a ∧ y = .ref a
  | .ty s, y => y = .ty s
  | .glo x, y => ∃ a, t.ga x = some a ∧ y = .ref a
  | .scr, y => y = .ref t.sa
abbrev VRs (ρ : List Addr) : List Val → List V → Prop := Paired (VR t ρ)
abbrev KRs (ρ : List Addr) : List (Key × Val) → List (Key × V) → Prop := Paired fun p q => p.1 = q.1 ∧ VR t ρ p.2 q.2
abbrev FRs (ρ : List Addr) : List (Str × Val) → List (Str × V) → Prop := Paired fun p q => p.1 = q.1 ∧ VR t ρ p.2 q.2
def SO (ρ : List Addr) : Option Val → Option V → Prop
  | some v, some y => VR t ρ v y
  | none, _ => True
  | _, _ => False
structure SR (ρ : List Addr) (s : Sl) (σ : L2.St) : Prop where
  pr : Paired (SO t ρ) s σ
  px : ∀ i a d fs, t.ex = some (i, a, d, fs) → s[i]? = some none → σ[i]? = some (some (.ref a))
def OR (ρ : List Addr) (H : Hp) (a : Addr) : Ob → Prop
  | .lst xs => ∃ ys, H a = some (.lst ys) ∧ VRs t ρ xs ys
  | .tup xs => ∃ ys, H a = some (.tup ys) ∧ VRs t ρ xs ys
  | .dic xs => ∃ ys, H a = some (.dK ys) ∧ KRs t ρ xs ys
  | .ins c fs => ∃ C dx ys, t.ga c = some C ∧ H a = some (.ins C dx ys) ∧ FRs t ρ fs ys
def ScrOk (H : Hp) : Prop := (∃ o, H t.sa = some (.frz o (.lst (t.S.map V.int)))) ∨
  ∃ (o : Obj) (its : Array Value) (n : Nat), t.K.lookup t.sa = some o ∧ o.cls = .type "list" ∧ o.dict = none ∧ o.data = .seq its n ∧ its.size ≤ sizeLine ∧ Vals (t.S.map V.int) its.toList
/-- what is known of the exception that is handled -/
def XOk (ρ : List Addr) (H : Hp) : Prop := ∀ i a d fs, t.ex = some (i, a, d, fs) → ∃ ys, H d = some (.xd ys) ∧ FRs t ρ fs ys
structure HR (ρ : List Addr) (h : Heap) (H : Hp) : Prop where
  len : ρ.length = h.length
  nd : ρ.Nodup
  ob : ∀ (n : Nat) (o : Ob) (a : Addr), h[n]? = some o → ρ[n]? = some a → OR t ρ H a o
  sc : ScrOk t H
  xs : XOk t ρ H
end
structure Ext (ρ : List Addr) (H : Hp) (ρ' : List Addr) (H' : Hp) : Prop where
  pre : ∃ τ, ρ' = ρ ++ τ
  keep : ∀ a o, a ∉ ρ → H a = some o → H' a = some o
  nu : ∀ a, a ∈ ρ' → a ∉ ρ → H a = none

section
variable {t : Th} {ρ ρ' ρ1 ρ2 τ : List Addr} {h h' : Heap} {H H' H1 H2 : Hp} {v : Val} {y : V} {a : Addr} {n : Nat}
theorem ScrOk.sq (x : ScrOk t H) : SqL t.K H t.sa (t.S.map V.int) := by
  rcases x with ⟨o, h⟩ | h
  · exact .inl (.inr ⟨o, h⟩)
  · exact .inr h
theorem Ext.refl (ρ : List Addr) (H : Hp) : Ext ρ H ρ H := ⟨⟨[], by simp⟩, fun _ _ _ h => h, fun a h1 h2 => absurd h1 h2⟩
theorem Ext.sub (e : Ext ρ H ρ' H') (ha : a ∈ ρ) : a ∈ ρ' := by
  obtain ⟨τ, rfl⟩ := e.pre
  exact List.mem_append_left _ ha
theorem Ext.trans (e : Ext ρ H ρ1 H1) (f : Ext ρ1 H1 ρ2 H2) : Ext ρ H ρ2 H2 := by
  refine ⟨?_, fun a o ha ho => ?_, fun a h1 h2 => ?_⟩
  · obtain ⟨τ, rfl⟩ := e.pre
    obtain ⟨τ', rfl⟩ := f.pre
    exact ⟨τ ++ τ', by rw [List.append_assoc]⟩
  · refine f.keep a o (fun hm => ?_) (e.keep a o ha ho)
    have := e.nu a hm ha
    rw [ho] at this; cases this
  · by_cases hm : a ∈ ρ1
    · exact e.nu a hm h2
    · have z := f.nu a h1 hm
      cases q : H a with
      | none => rfl
      | some o =>
        have := e.keep a o h2 q
        rw [z] at this; cases this
theorem VR.app : VR t ρ v y → VR t (ρ ++ τ) v y := by
  cases v <;> intro r <;> try exact r
  obtain ⟨b, e, r⟩ := r
  exact ⟨b, by rw [List.getElem?_append_left (List.getElem?_eq_some_iff.mp e).1]; exact e, r⟩
theorem VR.ext (e : Ext ρ H ρ' H') (r : VR t ρ v y) : VR t ρ' v y := by
  obtain ⟨τ, rfl⟩ := e.pre
  exact r.app
theorem VRs.ext (e : Ext ρ H ρ' H') {xs : List Val} {ys : List V} (r : VRs t ρ xs ys) : VRs t ρ' xs ys := pr_mono (fun _ _ q => VR.ext e q) r
theorem SO.app : ∀ {o : Option Val} {p : Option V}, SO t ρ o p → SO t (ρ ++ τ) o p
  | some _, some _, r => VR.app (show VR t ρ _ _ from r)
  | none, _, _ => trivial
  | some _, none, r => r.elim
theorem SR.ext (e : Ext ρ H ρ' H') {s : Sl} {σ : L2.St} (r : SR t ρ s σ) : SR t ρ' s σ := by
  obtain ⟨τ, rfl⟩ := e.pre
  exact ⟨pr_mono (fun _ _ q => SO.app q) r.pr, r.px⟩
/-- a slot is stored -/
theorem SR.put {s : Sl} {σ : L2.St} (i : Nat) (r : VR t ρ v y) (x : SR t ρ s σ) : SR t ρ (s.set i (some v)) (σ.set i (some y)) := by
  refine ⟨pr_set (x := some v) (u := some y) (show SO t ρ (some v) (some y) from r) i x.pr, fun j a d fs e1 e2 => ?_⟩
  by_cases h : i = j
  · subst h
    by_cases hl : i < s.length
    · rw [List.getElem?_set_self hl] at e2; cases e2
    · rw [List.getElem?_eq_none (by rw [List.length_set]; omega)] at e2; cases e2
  · rw [List.getElem?_set_ne h] at e2 ⊢
    exact x.px j a d fs e1 e2
theorem OR.app {o : Ob} (r : OR t ρ H a o) : OR t (ρ ++ τ) H a o := by
  cases o with
  | lst xs => obtain ⟨ys, e, q⟩ := r; exact ⟨ys, e, pr_mono (fun _ _ z => z.app) q⟩
  | tup xs => obtain ⟨ys, e, q⟩ := r; exact ⟨ys, e, pr_mono (fun _ _ z => z.app) q⟩
  | dic xs => obtain ⟨ys, e, q⟩ := r; exact ⟨ys, e, pr_mono (fun _ _ z => ⟨z.1, z.2.app⟩) q⟩
  | ins c fs => obtain ⟨C, dx, ys, e1, e, q⟩ := r; exact ⟨C, dx, ys, e1, e, pr_mono (fun _ _ z => ⟨z.1, z.2.app⟩) q⟩
theorem OR.at {o : Ob} (e : H' a = H a) (r : OR t ρ H a o) : OR t ρ H' a o := by
  cases o with
  | lst xs => obtain ⟨ys, q⟩ := r; exact ⟨ys, by rw [e]; exact q⟩
  | tup xs => obtain ⟨ys, q⟩ := r; exact ⟨ys, by rw [e]; exact q⟩
  | dic xs => obtain ⟨ys, q⟩ := r; exact ⟨ys, by rw [e]; exact q⟩
  | ins c fs => obtain ⟨C, dx, ys, q⟩ := r; exact ⟨C, dx, ys, by rw [e]; exact q⟩
theorem OR.tr {o : Ob} (r : OR t ρ H a o) : ∃ u, H a = some u ∧ (∀ ob w, u ≠ .frz ob w) ∧ ∀ ys, u ≠ .xd ys := by
  cases o with
  | lst xs => obtain ⟨ys, q, _⟩ := r; exact ⟨_, q, fun _ _ => nofun, fun _ => nofun⟩
  | tup xs => obtain ⟨ys, q, _⟩ := r; exact ⟨_, q, fun _ _ => nofun, fun _ => nofun⟩
  | dic xs => obtain ⟨ys, q, _⟩ := r; exact ⟨_, q, fun _ _ => nofun, fun _ => nofun⟩
  | ins c fs => obtain ⟨C, dx, ys, _, q, _⟩ := r; exact ⟨_, q, fun _ _ => nofun, fun _ => nofun⟩
theorem HR.at (x : HR t ρ h H) {o : Ob} (e : h[n]? = some o) : ∃ a, ρ[n]? = some a ∧ OR t ρ H a o := by
  have hn : n < ρ.length := by rw [x.len]; exact (List.getElem?_eq_some_iff.mp e).1
  exact ⟨ρ[n], List.getElem?_eq_getElem hn, x.ob n o _ e (List.getElem?_eq_getElem hn)⟩
theorem HR.tr (x : HR t ρ h H) (ha : a ∈ ρ) : ∃ u, H a = some u ∧ (∀ ob w, u ≠ .frz ob w) ∧ ∀ ys, u ≠ .xd ys := by
  obtain ⟨n, hn, e⟩ := List.getElem_of_mem ha
  have hn' : n < h.length := by rw [← x.len]; exact hn
  exact (x.ob n _ a (List.getElem?_eq_getElem hn') (by rw [List.getElem?_eq_getElem hn, e])).tr
theorem HR.free (x : HR t ρ h H) (hp : H a = none) : a ∉ ρ := fun ha => by
  obtain ⟨u, e, _⟩ := x.tr ha
  rw [hp] at e; cases e
theorem HR.ref (x : HR t ρ h H) {o : Ob} (e : h[n]? = some o) (r : VR t ρ (.ref n) y) : ∃ a, y = .ref a ∧ ρ[n]? = some a ∧ OR t ρ H a o := by
  obtain ⟨a, e1, rfl⟩ := r
  exact ⟨a, rfl, e1, x.ob n o a e e1⟩
/-- a new object -/
theorem HR.new (x : HR t ρ h H) (hp : H a = none) {u : HO} {o : Ob} (k : OR t (ρ ++ [a]) (upd H a u) a o) : HR t (ρ ++ [a]) (h ++ [o]) (upd H a u) := by
  have hf := x.free hp
  refine ⟨by simp [x.len], ?_, fun n ob b e1 e2 => ?_, ?_, fun _ _ d fs ed => ?_⟩
  · rw [List.nodup_append]
    refine ⟨x.nd, by simp, fun b hb c hc e => ?_⟩
    have : c = a := by simpa using hc
    subst this; subst e
    exact hf hb
  · by_cases hn : n < h.length
    · rw [List.getElem?_append_left hn] at e1
      rw [List.getElem?_append_left (by rw [x.len]; exact hn)] at e2
      have q := x.ob n ob b e1 e2
      have hb : b ≠ a := fun z => hf (z ▸ List.mem_of_getElem? e2)
      exact (q.at (upd_ne hb)).app
    · have hn2 : n = h.length := by
        have := (List.getElem?_eq_some_iff.mp e1).1
        simp at this; omega
      subst hn2
      simp at e1
      rw [← x.len] at e2
      simp at e2
      subst e1; subst e2
      exact k
  · rcases x.sc with ⟨o, e⟩ | e
    · exact .inl ⟨o, by rw [upd_ne (ne_of_none e hp)]; exact e⟩
    · exact .inr e
  · obtain ⟨ys, e, q⟩ := x.xs _ _ d fs ed
    exact ⟨ys, by rw [upd_ne (ne_of_none e hp)]; exact e, pr_mono (fun _ _ z => ⟨z.1, z.2.app⟩) q⟩
theorem Ext.new (x : HR t ρ h H) (hp : H a = none) {u : HO} : Ext ρ H (ρ ++ [a]) (upd H a u) := by
  refine ⟨⟨_, rfl⟩, fun b o hb e => by rw [upd_ne (ne_of_none e hp)]; exact e, fun b h1 h2 => ?_⟩
  rcases List.mem_append.mp h1 with z | z
  · exact absurd z h2
  · have : b = a := by simpa using z
    rw [this]; exact hp
theorem VR.new (x : HR t ρ h H) : VR t (ρ ++ [a]) (.ref h.length) (.ref a) := ⟨a, by rw [← x.len]; simp, rfl⟩
/-- an object is written -/
theorem HR.write (x : HR t ρ h H) (e : ρ[n]? = some a) {u : HO} {o : Ob} (k : OR t ρ (upd H a u) a o) : HR t ρ (h.set n o) (upd H a u) := by
  refine ⟨by simp [x.len], x.nd, fun m ob b e1 e2 => ?_, ?_, fun _ _ d fs ed => ?_⟩
  · by_cases hm : m = n
    · subst hm
      rw [e] at e2; cases e2
      have hn : m < h.length := by rw [← x.len]; exact (List.getElem?_eq_some_iff.mp e).1
      rw [List.getElem?_set_self hn] at e1
      cases e1
      exact k
    · rw [List.getElem?_set_ne (fun z => hm z.symm)] at e1
      refine (x.ob m ob b e1 e2).at (upd_ne fun z => hm ?_)
      subst z
      obtain ⟨hm1, e1'⟩ := List.getElem?_eq_some_iff.mp e2
      obtain ⟨hm2, e2'⟩ := List.getElem?_eq_some_iff.mp e
      exact (List.getElem_inj x.nd).mp (e1'.trans e2'.symm)
  · rcases x.sc with ⟨o, es⟩ | es
    · refine .inl ⟨o, ?_⟩
      obtain ⟨w, ew, nf, _⟩ := x.tr (List.mem_of_getElem? e)
      rw [upd_ne]
      · exact es
      · intro z
        rw [← z, es] at ew; cases ew
        exact nf _ _ rfl
    · exact .inr es
  · obtain ⟨ys, e', q⟩ := x.xs _ _ d fs ed
    obtain ⟨w, ew, _, nx⟩ := x.tr (List.mem_of_getElem? e)
    exact ⟨ys, by rw [upd_ne fun z => by rw [← z, e'] at ew; cases ew; exact nx _ rfl]; exact e', q⟩
theorem Ext.write (e : ρ[n]? = some a) {u : HO} : Ext ρ H ρ (upd H a u) :=
  ⟨⟨[], by simp⟩, fun b o hb q => by rw [upd_ne fun z => hb (by rw [z]; exact List.mem_of_getElem? e)]; exact q, fun b h1 h2 => absurd h1 h2⟩
end

/-! ## what is wanted behind a result -/
section
variable {α β : Type} (t : Th)
/-- behind an expression: k of the value, the heaps; E of an exception -/
def Post (ρ : List Addr) (H : Hp) (r : Res α) (k : α → Heap → List Addr → Hp → Prop) (E : Value → Option Addr → Hp → Prop) : Prop :=
  match r with
  | .ok a h' => ∀ ρ' H', Ext ρ H ρ' H' → HR t ρ' h' H' → k a h' ρ' H'
  | .exc c fs h' => ∀ ρ' H' C d ys, Ext ρ H ρ' H' → HR t ρ' h' H' → t.ga c = some C → H' d = some (.xd ys) → FRs t ρ' fs ys → E (.ref C) (some d) H'
  | .bad => False
end
section
variable {α β : Type} {t : Th} {ρ ρ' : List Addr} {h : Heap} {H H' : Hp} {E : Value → Option Addr → Hp → Prop}
theorem Post.ext {r : Res α} {k : α → Heap → List Addr → Hp → Prop} (e : Ext ρ H ρ' H') (p : Post t ρ H r k E) : Post t ρ' H' r k E := by
  cases r with
  | ok a h => exact fun ρ2 H2 e2 => p ρ2 H2 (e.trans e2)
  | exc c fs h => exact fun ρ2 H2 C d ys e2 => p ρ2 H2 C d ys (e.trans e2)
  | bad => exact p
theorem Post.imp {r : Res α} {k k' : α → Heap → List Addr → Hp → Prop} (p : Post t ρ H r k E) (h : ∀ a h' ρ' H', Ext ρ H ρ' H' → HR t ρ' h' H' → k a h' ρ' H' → k' a h' ρ' H') : Post t ρ H r k' E := by
  cases r with
  | ok a h1 => exact fun ρ2 H2 e2 x => h _ _ _ _ e2 x (p ρ2 H2 e2 x)
  | exc c fs h => exact p
  | bad => exact p
theorem Post.impe {r : Res α} {k k' : α → Heap → List Addr → Hp → Prop} (p : Post t ρ H r k E) (h : ∀ a h' ρ' H', r = .ok a h' → Ext ρ H ρ' H' → HR t ρ' h' H' → k a h' ρ' H' → k' a h' ρ' H') : Post t ρ H r k' E := by
  cases r with
  | ok a h1 => exact fun ρ2 H2 e2 x => h _ _ _ _ rfl e2 x (p ρ2 H2 e2 x)
  | exc c fs h => exact p
  | bad => exact p
theorem Post.bind {r : Res α} {f : α → Heap → Res β} {k : β → Heap → List Addr → Hp → Prop} (p : Post t ρ H (r.bind f) k E) : Post t ρ H r (fun a h1 ρ1 H1 => Post t ρ1 H1 (f a h1) k E) E := by
  cases r with
  | ok a h1 => exact fun ρ2 H2 e2 x => Post.ext e2 p
  | exc c fs h => exact p
  | bad => exact p
theorem Post.ok {a : α} {k : α → Heap → List Addr → Hp → Prop} (x : HR t ρ h H) (p : Post t ρ H (.ok a h) k E) : k a h ρ H := p ρ H (Ext.refl ρ H) x
/-- where nothing is raised -/
def NoX (r : Res α) : Prop := ∀ c fs h, r ≠ .exc c fs h
theorem Post.nox {r : Res α} {k : α → Heap → List Addr → Hp → Prop} {E' : Value → Option Addr → Hp → Prop} (n : NoX r) (p : Post t ρ H r k E) : Post t ρ H r k E' := by
  cases r with
  | ok a h1 => exact p
  | exc c fs h => exact absurd rfl (n c fs h)
  | bad => exact p
end
end Mi


/-! # Mi3: the operators -/
namespace Mi
open PySem PySem.Spec PyProof.Rows L2

section
variable {t : Th} {ρ ρ' : List Addr} {h h' : Heap} {H H' : Hp} {E : Value → Option Addr → Hp → Prop}
abbrev E0' : Value → Option Addr → Hp → Prop := fun _ _ _ => False
theorem Post.new {o : Ob} {a : Addr} {u : HO} {k : Val → Heap → List Addr → Hp → Prop} (x : HR t ρ h H) (p : Post t ρ H (Mi.new o h) k E) (hp : H a = none) (r : OR t (ρ ++ [a]) (upd H a u) a o) :
    k (.ref h.length) (h ++ [o]) (ρ ++ [a]) (upd H a u) := p _ _ (Ext.new x hp) (x.new hp r)
theorem or_lst {a : Addr} {xs : List Val} {ys : List V} (r : VRs t ρ xs ys) : OR t (ρ ++ [a]) (upd H a (.lst ys)) a (.lst xs) := ⟨ys, upd_same, pr_mono (fun _ _ z => z.app) r⟩
theorem or_tup {a : Addr} {xs : List Val} {ys : List V} (r : VRs t ρ xs ys) : OR t (ρ ++ [a]) (upd H a (.tup ys)) a (.tup xs) := ⟨ys, upd_same, pr_mono (fun _ _ z => z.app) r⟩

/-- what is wanted of a value's relatives -/
abbrev KV1 (t : Th) (Q : VK) : Val → Heap → List Addr → Hp → Prop := fun v _ ρ' H' => ∀ z, VR t ρ' v z → Q z H'
def rOp (t : Th) (f : Val → Val → Heap → Res Val) : R2 := fun x y H Q => ∃ ρ h a b, HR t ρ h H ∧ VR t ρ a x ∧ VR t ρ b y ∧ Post t ρ H (f a b h) (KV1 t Q) E0'

/-- the data that a value is, over the abstract heap -/
theorem mapO_cons {α β : Type} {f : α → Option β} {x : α} {xs : List α} {ys : List β} (e : mapO f (x :: xs) = some ys) : ∃ z zs, f x = some z ∧ mapO f xs = some zs ∧ ys = z :: zs := by
  unfold mapO at e
  cases h1 : f x with
  | none => rw [h1] at e; cases e
  | some z =>
    cases h2 : mapO f xs with
    | none => rw [h1, h2] at e; cases e
    | some zs => rw [h1, h2] at e; cases e; exact ⟨z, zs, rfl, rfl, rfl⟩
theorem dp_all {f : Val → Option PyData} : ∀ {xs : List Val} {ys : List V} {ds : List PyData}, (∀ v y d, f v = some d → d.canLay0 = true → VR t ρ v y → Dp t.K H y d) → mapO f xs = some ds → PyData.canLayAll0 ds = true → VRs t ρ xs ys → DpAll t.K H ys ds
  | [], _, _, _, e, _, .nil => by cases e; exact .nil
  | x :: xs, _, _, hf, e, c, .cons r rs => by
    obtain ⟨z, zs, e1, e2, rfl⟩ := mapO_cons e
    have c' : z.canLay0 = true ∧ PyData.canLayAll0 zs = true := by simpa [PyData.canLayAll0] using c
    exact .cons (hf _ _ _ e1 c'.1 r) (dp_all hf e2 c'.2 rs)
theorem rd_dp (x : HR t ρ h H) : ∀ (n : Nat) (v : Val) (y : V) (d : PyData), rd n h v = some d → d.canLay0 = true → VR t ρ v y → Dp t.K H y d
  | n, .non, y, d, e, _, r => by cases n <;> (cases e; cases r; exact .non)
  | n, .bl b, y, d, e, _, r => by cases n <;> (cases e; cases r; exact .bl _)
  | n, .int i, y, d, e, _, r => by cases n <;> (cases e; cases r; exact .int _)
  | n, .str z, y, d, e, _, r => by cases n <;> (cases e; cases r; exact .str _)
  | 0, .ref k, y, d, e, _, r => by cases e
  | n + 1, .ref k, y, d, e, c, r => by
    unfold rd at e
    split at e
    · rename_i xs hk
      obtain ⟨ds, e1, rfl⟩ := Option.map_eq_some_iff.mp e
      obtain ⟨a, rfl, _, ys, hy, rr⟩ := x.ref hk r
      exact .lst (.of hy) (dp_all (fun v y d => rd_dp x n v y d) e1 (by simpa [PyData.canLay0] using c) rr)
    · rename_i xs hk
      obtain ⟨ds, e1, rfl⟩ := Option.map_eq_some_iff.mp e
      obtain ⟨a, rfl, _, ys, hy, rr⟩ := x.ref hk r
      exact .tup (.of hy) (dp_all (fun v y d => rd_dp x n v y d) e1 (by simpa [PyData.canLay0] using c) rr)
    · rename_i xs hk
      obtain ⟨ds, e1, rfl⟩ := Option.map_eq_some_iff.mp e
      simp [PyData.canLay0] at c
    · cases e
  | n, .ty s, y, d, e, _, r => by cases n <;> cases e
  | n, .glo s, y, d, e, _, r => by cases n <;> cases e
  | n, .scr, y, d, e, _, r => by cases n <;> cases e
theorem vr_flat {v : Val} {y : V} (r : VR t ρ v y) (f : flat v = true) : flatV y = true := by
  cases v <;> simp [flat] at f <;> (cases r; rfl)
theorem vr_eqF {v w : Val} {y z : V} (r : VR t ρ v y) (q : VR t ρ w z) (f : flat v = true) (g : flat w = true) : eqV y z = eqF v w := by
  cases v <;> simp [flat] at f <;> cases w <;> simp [flat] at g <;> (cases r; cases q; rfl)
theorem vrs_flat : ∀ {xs : List Val} {ys : List V}, VRs t ρ xs ys → xs.all flat = true → ys.all flatV = true
  | _, _, .nil, _ => rfl
  | _, _, .cons r rs, f => by
    simp only [List.all_cons, Bool.and_eq_true] at f ⊢
    exact ⟨vr_flat r f.1, vrs_flat rs f.2⟩
theorem vrs_in {v : Val} {y : V} (r : VR t ρ v y) (f : flat v = true) : ∀ {xs : List Val} {ys : List V}, VRs t ρ xs ys → xs.all flat = true → inV y ys = xs.any fun z => eqF z v
  | _, _, .nil, _ => rfl
  | _, _, .cons q qs, g => by
    simp only [List.all_cons, Bool.and_eq_true] at g
    have ih := vrs_in r f qs g.2
    unfold inV at ih ⊢
    simp only [List.any_cons]
    rw [ih, vr_eqF q r g.1 f]
theorem kr_get {k : Key} : ∀ {xs : List (Key × Val)} {ys : List (Key × V)}, KRs t ρ xs ys → (∀ v, getK xs k = some v → ∃ y, valV ys k = some y ∧ VR t ρ v y) ∧ (getK xs k = none → valV ys k = none)
  | _, _, .nil => ⟨fun v e => by simp [getK] at e, fun _ => rfl⟩
  | (a, v) :: xs, (b, y) :: ys, .cons ⟨e, r⟩ qs => by
    have e : a = b := e
    subst e
    have r : VR t ρ v y := r
    have ih := kr_get (k := k) qs
    by_cases hk : a = k
    · subst hk
      refine ⟨fun w e => ?_, fun e => ?_⟩
      · simp [getK] at e
        subst e
        exact ⟨y, valV_pos rfl, r⟩
      · simp [getK] at e
    · have e1 : getK ((a, v) :: xs) k = getK xs k := by simp [getK, List.find?_cons, hk]
      have e2 : valV ((a, y) :: ys) k = valV ys k := valV_neg hk
      rw [e1, e2]
      exact ih
theorem key_vr {v : Val} {y : V} {k : Key} (e : keyV v = some k) (r : VR t ρ v y) : y = kV k := by
  cases v <;> simp [keyV] at e <;> (subst e; cases r; rfl)
end

/-! ## one rule an operator -/
section
variable {t : Th} {X : Cx}
theorem op1 (hK : t.K = X.K) : OpR X (binaryOp .Add) (rOp t (bop .add)) := by
  intro pins s σ H x y u v Q I rx ry ⟨ρ, h, a, b, hr, va, vb, p⟩
  unfold bop addV at p
  dsimp only at p
  split at p
  · cases va; cases vb
    exact op_add pins s σ H _ _ u v Q I rx ry ⟨_, _, rfl, rfl, p.ok hr _ rfl⟩
  · split at p
    · cases va; cases vb
      exact op_add_str pins s σ H _ _ u v Q I rx ry ⟨_, _, rfl, rfl, by assumption, p.ok hr _ rfl⟩
    · exact p.elim
  · split at p
    · rename_i m n _ _ xs ys e1 e2
      split at p
      · rename_i hz
        obtain ⟨l, rfl, l1, zs, hl, r1⟩ := hr.ref e1 va
        obtain ⟨k, rfl, k1, ws, hk, r2⟩ := hr.ref e2 vb
        refine op_cat pins s σ H _ _ u v Q I rx ry ⟨l, k, zs, ws, rfl, rfl, hl, hk, by rw [← Paired.length r1, ← Paired.length r2]; exact hz, fun q hq => ?_⟩
        exact Post.new hr p hq (or_lst (pr_append r1 r2)) _ (VR.new hr)
      · exact p.elim
    · rename_i m n _ _ xs ys e1 e2
      split at p
      · rename_i hz
        obtain ⟨l, rfl, l1, zs, hl, r1⟩ := hr.ref e1 va
        obtain ⟨k, rfl, k1, ws, hk, r2⟩ := hr.ref e2 vb
        have n1 := Paired.length r1
        have n2 := Paired.length r2
        refine op_catA pins s σ H _ _ u v Q I rx ry ⟨l, k, zs, ws, rfl, rfl, hK ▸ .of hl, hK ▸ .of hk, by rw [← n1, ← n2]; exact hz, fun z => ?_, fun z z2 => ?_, fun z z2 q hq => ?_⟩
        · have : xs = [] := by subst z; exact List.length_eq_zero_iff.mp n1
          rw [if_pos this] at p
          exact p.ok hr _ vb
        · have h1 : xs ≠ [] := fun w => z (by subst w; exact List.length_eq_zero_iff.mp n1.symm)
          have h2 : ys = [] := by subst z2; exact List.length_eq_zero_iff.mp n2
          rw [if_neg h1, if_pos h2] at p
          exact p.ok hr _ va
        · have h1 : xs ≠ [] := fun w => z (by subst w; exact List.length_eq_zero_iff.mp n1.symm)
          have h2 : ys ≠ [] := fun w => z2 (by subst w; exact List.length_eq_zero_iff.mp n2.symm)
          rw [if_neg h1, if_neg h2] at p
          exact Post.new hr p hq (or_tup (pr_append r1 r2)) _ (VR.new hr)
      · exact p.elim
    · exact p.elim
  · exact p.elim
theorem op2 : OpR X (binaryOp .Sub) (rOp t (bop .sub)) := by
  intro pins s σ H x y u v Q I rx ry ⟨ρ, h, a, b, hr, va, vb, p⟩
  unfold bop subV at p
  dsimp only at p
  split at p
  · cases va; cases vb
    exact op_sub pins s σ H _ _ u v Q I rx ry ⟨_, _, rfl, rfl, p.ok hr _ rfl⟩
  · exact p.elim
theorem rep_flat : ∀ (n : Nat) (a : List Nat) (acc : Array Nat), ((List.replicate n a.toArray).foldl (· ++ ·) acc) = acc ++ (List.replicate n a).flatten.toArray
  | 0, a, acc => by simp
  | n + 1, a, acc => by
    rw [List.replicate_succ, List.foldl_cons, rep_flat n a, List.replicate_succ, List.flatten_cons]
    simp [Array.append_assoc]
theorem repS_made {x : Str} {k : Int} {t' : Tok} {Q : Value → Shared → Prop} {s : Shared} (hl : x.length * k.toNat ≤ SL) (q : ∀ t' tk, Q (.str (repS x k) t') { s with toks := tk }) :
    (if k < 1 then Made.str Str.empty else if (k == 1 || x.length == 0) = true then Made.val (.str x t') else Made.str ⟨(List.replicate k.toNat x.cps).foldl (· ++ ·) #[]⟩).post Q s := by
  by_cases h1 : k < 1
  · rw [if_pos h1]
    have e : repS x k = Str.empty := by
      unfold repS
      rw [show k.toNat = 0 by omega]
      rfl
    refine ⟨by decide, ?_⟩
    have := q s.toks (s.toks + 1)
    rw [e] at this
    exact this
  · rw [if_neg h1]
    by_cases h2 : (k == 1 || x.length == 0) = true
    · rw [if_pos h2]
      have e : repS x k = x := by
        unfold repS
        rw [Bool.or_eq_true] at h2
        rcases h2 with h2 | h2
        · rw [eq_of_beq h2]
          show (⟨(List.replicate 1 x.cps.toList).flatten.toArray⟩ : Str) = x
          simp
        · have h3 : x.cps.toList = [] := by
            have := eq_of_beq h2
            exact List.eq_nil_of_length_eq_zero (by simpa [Str.length] using this)
          rw [h3]
          have : x = ⟨#[]⟩ := by
            cases x with
            | mk c => simp at h3; rw [h3]
          rw [this]
          simp
      have := q t' s.toks
      rw [e] at this
      exact this
    · rw [if_neg h2]
      have e : (List.replicate k.toNat x.cps).foldl (· ++ ·) #[] = (List.replicate k.toNat x.cps.toList).flatten.toArray := by
        have := rep_flat k.toNat x.cps.toList #[]
        simpa using this
      rw [e]
      refine ⟨?_, q _ _⟩
      show (⟨(List.replicate k.toNat x.cps.toList).flatten.toArray⟩ : Str).length ≤ _
      have : (⟨(List.replicate k.toNat x.cps.toList).flatten.toArray⟩ : Str).length = k.toNat * x.length := by
        simp [Str.length]
      rw [this, Nat.mul_comm]
      exact hl
theorem op3s {a : Str} {k : Int} {pins : List (Addr × Obj)} {s : Shared} {σ : L2.St} {H : Hp} {u v : Value} {Q : VK} (I : Inv X pins σ H s) (rx : RelV (.str a) u) (ry : RelV (.int k) v) (h1 : -(2 ^ 63) ≤ k) (h2 : k < 2 ^ 63) (hl : a.length * k.toNat ≤ SL) (q : Q (.str (repS a k)) H) :
    wpAny (model X.prog X.w) X.A (binaryOp .Mult u v) (fun w s' => ∃ y H', Inv X pins σ H' s' ∧ RelV y w ∧ Q y H') X.xe s := by
  obtain ⟨t1, rfl⟩ := rx
  obtain ⟨t2, rfl⟩ := ry
  refine PySem.P.mul_str (by simp; omega) (fun c _ => ?_) (fun _ _ => ?_) (repS_made hl fun t' tk => ⟨V.str (repS a k), H, I.tok _, ⟨_, rfl⟩, q⟩)
  · have c' : 0 < k := by omega
    have : (a.length : Int) * k ≤ 2 ^ 63 - 1 := by
      have e : ((a.length * k.toNat : Nat) : Int) = (a.length : Int) * k := by rw [Int.natCast_mul, Int.toNat_of_nonneg (by omega)]
      rw [← e]
      have : a.length * k.toNat ≤ 16777216 := hl
      omega
    have := (Int.le_ediv_iff_mul_le c').mpr this
    omega
  · unfold PySem.Builtin.Str.tooLong
    exact decide_eq_false (by have : a.length * k.toNat ≤ 16777216 := hl; show ¬ (a.length * k.toNat > 16777216); omega)
theorem op3 : OpR X (binaryOp .Mult) (rOp t (bop .mul)) := by
  intro pins s σ H x y u v Q I rx ry ⟨ρ, h, a, b, hr, va, vb, p⟩
  unfold bop mulV at p
  dsimp only at p
  split at p
  · split at p
    · cases va; cases vb
      exact op_mul pins s σ H _ _ u v Q I rx ry ⟨_, _, rfl, rfl, by assumption, p.ok hr _ rfl⟩
    · exact p.elim
  · split at p
    · rename_i m k _ xs e1
      split at p
      · rename_i hz
        cases vb
        obtain ⟨l, rfl, l1, zs, hl, r1⟩ := hr.ref e1 va
        refine op_rep pins s σ H _ _ u v Q I rx ry ⟨l, k, zs, rfl, rfl, hl, hz.1, hz.2.1, by rw [← Paired.length r1]; exact hz.2.2, fun q hq => ?_⟩
        exact Post.new hr p hq (or_lst (pr_rep r1 _)) _ (VR.new hr)
      · exact p.elim
    · rename_i m k _ xs e1
      split at p
      · rename_i hz
        cases vb
        obtain ⟨l, rfl, l1, zs, hl, r1⟩ := hr.ref e1 va
        refine op_repT pins s σ H _ _ u v Q I rx ry ⟨l, k, zs, rfl, rfl, SqT.of hl, fun z => hz.1 (by rw [z] at r1; cases r1; rfl), hz.2.1, hz.2.2.1, by rw [← Paired.length r1]; exact hz.2.2.2, fun q hq => ?_⟩
        exact Post.new hr p hq (or_tup (pr_rep r1 _)) _ (VR.new hr)
      · exact p.elim
    · exact p.elim
  · split at p
    · rename_i hz
      cases va; cases vb
      exact op3s I rx ry hz.1 hz.2.1 hz.2.2 (p.ok hr _ rfl)
    · exact p.elim
  · exact p.elim
theorem op4 : OpR X (binaryOp .FloorDiv) (rOp t (bop .fdiv)) := by
  intro pins s σ H x y u v Q I rx ry ⟨ρ, h, a, b, hr, va, vb, p⟩
  unfold bop fdivV at p
  dsimp only at p
  split at p
  · split at p
    · cases va; cases vb
      exact op_fdiv pins s σ H _ _ u v Q I rx ry ⟨_, _, rfl, rfl, by assumption, p.ok hr _ rfl⟩
    · exact p.elim
  · exact p.elim
theorem op5 : OpR X (binaryOp .Mod) (rOp t (bop .mod)) := by
  intro pins s σ H x y u v Q I rx ry ⟨ρ, h, a, b, hr, va, vb, p⟩
  unfold bop modV at p
  dsimp only at p
  split at p
  · split at p
    · cases va; cases vb
      exact op_mod pins s σ H _ _ u v Q I rx ry ⟨_, _, rfl, rfl, by assumption, p.ok hr _ rfl⟩
    · exact p.elim
  · exact p.elim
theorem op6 : OpR X (binaryOp .Pow) (rOp t (bop .pow)) := by
  intro pins s σ H x y u v Q I rx ry ⟨ρ, h, a, b, hr, va, vb, p⟩
  unfold bop powV at p
  dsimp only at p
  split at p
  · split at p
    · cases va; cases vb
      exact op_pow pins s σ H _ _ u v Q I rx ry ⟨_, _, rfl, rfl, by assumption, p.ok hr _ rfl⟩
    · exact p.elim
  · exact p.elim
/-- what is wanted of a truth -/
theorem ofB_ok {ρ : List Addr} {h : Heap} {H : Hp} {o : Option Bool} {Q : VK} (hr : HR t ρ h H) (p : Post t ρ H (ofB o h) (KV1 t Q) E0') : ∃ b, o = some b ∧ Q (.bl b) H := by
  cases o with
  | none => exact p.elim
  | some b => exact ⟨b, rfl, Post.ok hr p _ rfl⟩
theorem eq_core {ρ : List Addr} {h : Heap} {H : Hp} {a b : Val} {x y : V} {k : Bool} (hr : HR t ρ h H) (va : VR t ρ a x) (vb : VR t ρ b y) (e : eqO h a b = some k) :
    (scal x y = true ∧ k = decide (x = y)) ∨ ∃ d d', Dp t.K H x d ∧ Dp t.K H y d' ∧ SeqAt.shaped d = true ∧ SeqAt.shaped d' = true ∧ k = PyData.eqv d d' := by
  unfold eqO at e
  split at e
  · cases va; cases vb; cases e
    exact .inl ⟨rfl, by simp⟩
  · cases va; cases vb; cases e
    exact .inl ⟨rfl, by simp⟩
  · cases va; cases vb; cases e
    exact .inl ⟨rfl, by simp⟩
  · split at e
    · rename_i d d' e1 e2
      split at e
      · rename_i hs
        cases e
        exact .inr ⟨d, d', rd_dp hr _ _ _ _ e1 (SeqAt.canLay_of_shaped hs.1) va, rd_dp hr _ _ _ _ e2 (SeqAt.canLay_of_shaped hs.2) vb, hs.1, hs.2, rfl⟩
      · cases e
    · cases e
theorem op7 (hK : t.K = X.K) (hu : X.A.units + 100 < cLine) : OpR X (compareOp .Eq) (rOp t (bop .eq)) := by
  intro pins s σ H x y u v Q I rx ry ⟨ρ, h, a, b, hr, va, vb, p⟩
  obtain ⟨k, e, q⟩ := ofB_ok hr (show Post t ρ H (ofB (eqO h a b) h) (KV1 t Q) E0' from p)
  rcases eq_core hr va vb e with ⟨hs, rfl⟩ | ⟨d, d', h1, h2, h3, h4, rfl⟩
  · exact op_eq pins s σ H _ _ u v Q I rx ry ⟨hs, q⟩
  · exact op_eqD (by omega) pins s σ H _ _ u v Q I rx ry ⟨d, d', hK ▸ h1, hK ▸ h2, h3, h4, q⟩
theorem op8 (hK : t.K = X.K) (hu : X.A.units + 100 < cLine) : OpR X (compareOp .NotEq) (rOp t (bop .ne)) := by
  intro pins s σ H x y u v Q I rx ry ⟨ρ, h, a, b, hr, va, vb, p⟩
  obtain ⟨k, e, q⟩ := ofB_ok hr (show Post t ρ H (ofB ((eqO h a b).map (!·)) h) (KV1 t Q) E0' from p)
  obtain ⟨k', e', rfl⟩ := Option.map_eq_some_iff.mp e
  rcases eq_core hr va vb e' with ⟨hs, rfl⟩ | ⟨d, d', h1, h2, h3, h4, rfl⟩
  · exact op_ne pins s σ H _ _ u v Q I rx ry ⟨hs, q⟩
  · exact op_neD (by omega) pins s σ H _ _ u v Q I rx ry ⟨d, d', hK ▸ h1, hK ▸ h2, h3, h4, q⟩
theorem op_ltD (hu : X.A.units + 60 < cLine) : OpR X (compareOp .Lt) (fun x y H Q => ∃ d e, Dp X.K H x d ∧ Dp X.K H y e ∧ PySem.W.alike d e = true ∧ d ≠ .none ∧ d.depth ≤ 60 ∧ Q (.bl (PySem.W.dataLt d e)) H) := by
  intro pins s σ H x y v u Q I rx ry h
  obtain ⟨d, e, hd, he, ha, hn, hdp, q⟩ := h
  obtain ⟨as, r1⟩ := Dp.reads I d x v hd rx
  obtain ⟨bs, r2⟩ := Dp.reads I e y u he ry
  exact PySem.W.lt_data r1 r2 ha hn (by omega) ⟨.bl _, H, I, rfl, q⟩
theorem lt_core {a b : Val} {k : Bool} (e : ltA a b = some k) : (∃ i j, a = .int i ∧ b = .int j ∧ k = decide (i < j)) ∨ ∃ i j, a = .str i ∧ b = .str j ∧ k = decide (i.cps.toList < j.cps.toList) := by
  unfold ltA at e
  split at e
  · cases e; exact .inl ⟨_, _, rfl, rfl, rfl⟩
  · cases e; exact .inr ⟨_, _, rfl, rfl, rfl⟩
  · cases e
theorem le_core {a b : Val} {k : Bool} (e : leO a b = some k) : (∃ i j, a = .int i ∧ b = .int j ∧ k = decide (i ≤ j)) ∨ ∃ i j, a = .str i ∧ b = .str j ∧ k = !decide (j.cps.toList < i.cps.toList) := by
  unfold leO at e
  split at e
  · cases e; exact .inl ⟨_, _, rfl, rfl, rfl⟩
  · cases e; exact .inr ⟨_, _, rfl, rfl, rfl⟩
  · cases e
theorem op9 (hK : t.K = X.K) (hu : X.A.units + 100 < cLine) : OpR X (compareOp .Lt) (rOp t (bop .lt)) := by
  intro pins s σ H x y u v Q I rx ry ⟨ρ, h, a, b, hr, va, vb, p⟩
  obtain ⟨k, e, q⟩ := ofB_ok hr (show Post t ρ H (ofB (ltO h a b) h) (KV1 t Q) E0' from p)
  unfold ltO at e
  split at e
  · split at e
    · rename_i m n d d' e1 e2
      split at e
      · rename_i hs
        obtain ⟨h1, h2, h3, h4, h5⟩ := hs
        cases e
        exact op_ltD (by omega) pins s σ H _ _ u v Q I rx ry ⟨d, d', hK ▸ rd_dp hr _ _ _ _ e1 (SeqAt.canLay_of_shaped h1) va, hK ▸ rd_dp hr _ _ _ _ e2 (SeqAt.canLay_of_shaped h2) vb, h3, fun z => (by rw [z] at h4; cases h4), h5, q⟩
      · cases e
    · cases e
  · rcases lt_core e with ⟨i, j, rfl, rfl, rfl⟩ | ⟨i, j, rfl, rfl, rfl⟩ <;> cases va <;> cases vb
    · exact op_lt pins s σ H _ _ u v Q I rx ry ⟨_, _, rfl, rfl, q⟩
    · exact op_lt_str pins s σ H _ _ u v Q I rx ry ⟨_, _, rfl, rfl, q⟩
theorem op10 : OpR X (compareOp .LtE) (rOp t (bop .le)) := by
  intro pins s σ H x y u v Q I rx ry ⟨ρ, h, a, b, hr, va, vb, p⟩
  obtain ⟨k, e, q⟩ := ofB_ok hr (show Post t ρ H (ofB (leO a b) h) (KV1 t Q) E0' from p)
  rcases le_core e with ⟨i, j, rfl, rfl, rfl⟩ | ⟨i, j, rfl, rfl, rfl⟩ <;> cases va <;> cases vb
  · exact op_le pins s σ H _ _ u v Q I rx ry ⟨_, _, rfl, rfl, q⟩
  · exact op_le_str pins s σ H _ _ u v Q I rx ry ⟨_, _, rfl, rfl, q⟩
theorem op11 : OpR X (compareOp .Gt) (rOp t (bop .gt)) := by
  intro pins s σ H x y u v Q I rx ry ⟨ρ, h, a, b, hr, va, vb, p⟩
  obtain ⟨k, e, q⟩ := ofB_ok hr (show Post t ρ H (ofB (ltA b a) h) (KV1 t Q) E0' from p)
  rcases lt_core e with ⟨i, j, rfl, rfl, rfl⟩ | ⟨i, j, rfl, rfl, rfl⟩ <;> cases va <;> cases vb
  · exact op_gt pins s σ H _ _ u v Q I rx ry ⟨_, _, rfl, rfl, q⟩
  · exact op_gt_str pins s σ H _ _ u v Q I rx ry ⟨_, _, rfl, rfl, q⟩
theorem op12 : OpR X (compareOp .GtE) (rOp t (bop .ge)) := by
  intro pins s σ H x y u v Q I rx ry ⟨ρ, h, a, b, hr, va, vb, p⟩
  obtain ⟨k, e, q⟩ := ofB_ok hr (show Post t ρ H (ofB (leO b a) h) (KV1 t Q) E0' from p)
  rcases le_core e with ⟨i, j, rfl, rfl, rfl⟩ | ⟨i, j, rfl, rfl, rfl⟩ <;> cases va <;> cases vb
  · exact op_ge pins s σ H _ _ u v Q I rx ry ⟨_, _, rfl, rfl, q⟩
  · exact op_ge_str pins s σ H _ _ u v Q I rx ry ⟨_, _, rfl, rfl, q⟩
theorem vr_non {ρ : List Addr} {v : Val} {y : V} (r : VR t ρ v y) : decide (y = .non) = decide (v = .non) := by
  cases v with
  | ref n => obtain ⟨_, _, rfl⟩ := r; rfl
  | glo n => obtain ⟨_, _, rfl⟩ := r; rfl
  | _ => cases r; simp
theorem is_other {ρ : List Addr} {a : Val} {c k : Bool} {x : V} {u : Value} (va : VR t ρ a x) (rx : RelV x u) (e : isO a (.bl c) = some k) : PySem.plainIs u (.bool c) = true ∧ (k = (u == .bool c)) := by
  unfold isO at e
  cases a with
  | bl b => cases va; cases rx; cases e; exact ⟨rfl, by rw [Bool.eq_iff_iff]; simp⟩
  | non => cases va; cases rx; cases e; exact ⟨rfl, rfl⟩
  | int i => cases va; obtain ⟨tk, rfl⟩ := rx; cases e; exact ⟨rfl, rfl⟩
  | str i => cases va; obtain ⟨tk, rfl⟩ := rx; cases e; exact ⟨rfl, rfl⟩
  | ref i => obtain ⟨_, _, rfl⟩ := va; cases rx; cases e; exact ⟨rfl, rfl⟩
  | ty s => cases e
  | glo s => cases e
  | scr => cases e
theorem op13 : OpR X (compareOp .Is) (rOp t (bop .is)) := by
  intro pins s σ H x y u v Q I rx ry ⟨ρ, h, a, b, hr, va, vb, p⟩
  obtain ⟨k, e, q⟩ := ofB_ok hr (show Post t ρ H (ofB (isO a b) h) (KV1 t Q) E0' from p)
  cases b with
  | non =>
    cases vb; cases e
    exact op_isN pins s σ H _ _ u v Q I rx ry ⟨rfl, by rw [vr_non va]; exact q⟩
  | bl c =>
    cases vb; cases ry
    obtain ⟨h1, rfl⟩ := is_other va rx e
    exact PySem.wpAny_is_plain h1 ⟨.bl _, H, I, rfl, q⟩
  | int _ => cases e
  | str _ => cases e
  | ref _ => cases e
  | ty _ => cases e
  | glo _ => cases e
  | scr => cases e
theorem op14 : OpR X (compareOp .IsNot) (rOp t (bop .isnot)) := by
  intro pins s σ H x y u v Q I rx ry ⟨ρ, h, a, b, hr, va, vb, p⟩
  obtain ⟨k, e, q⟩ := ofB_ok hr (show Post t ρ H (ofB ((isO a b).map (!·)) h) (KV1 t Q) E0' from p)
  obtain ⟨k', e', rfl⟩ := Option.map_eq_some_iff.mp e
  cases b with
  | non =>
    cases vb; cases e'
    exact op_notN pins s σ H _ _ u v Q I rx ry ⟨rfl, by rw [vr_non va]; exact q⟩
  | bl c =>
    cases vb; cases ry
    obtain ⟨h1, rfl⟩ := is_other va rx e'
    exact PySem.wpAny_isNot_plain h1 ⟨.bl _, H, I, rfl, q⟩
  | int _ => cases e'
  | str _ => cases e'
  | ref _ => cases e'
  | ty _ => cases e'
  | glo _ => cases e'
  | scr => cases e'
theorem in_core {ρ : List Addr} {h : Heap} {H : Hp} {a b : Val} {x y : V} {k : Bool} (hr : HR t ρ h H) (va : VR t ρ a x) (vb : VR t ρ b y) (e : inO h a b = some k) :
    (∃ (c : Nat) (z : Str), x = .str ⟨#[c]⟩ ∧ y = .str z ∧ k = decide (c ∈ z.cps.toList)) ∨ (∃ p xs, y = .ref p ∧ (SqL t.K H p xs ∨ SqT t.K H p xs) ∧ flatV x = true ∧ xs.all flatV = true ∧ k = inV x xs) ∨
      ∃ p o, y = .ref p ∧ DGet H p x o ∧ k = o.isSome := by
  unfold inO at e
  split at e
  · split at e
    · rename_i z _ w
      split at e
      · rename_i c hc
        cases va; cases vb; cases e
        refine .inl ⟨c, z, ?_, rfl, rfl⟩
        obtain ⟨⟨l⟩⟩ := w
        have hc' : l = [c] := hc
        subst hc'; rfl
      · cases e
    · cases e
  · split at e
    · rename_i xs hk
      obtain ⟨l, rfl, l1, zs, hl, r1⟩ := hr.ref hk vb
      split at e
      · rename_i hf
        cases e
        exact .inr (.inl ⟨l, zs, rfl, .inl (.of hl), vr_flat va hf.1, vrs_flat r1 hf.2, (vrs_in va hf.1 r1 hf.2).symm⟩)
      · cases e
    · rename_i xs hk
      obtain ⟨l, rfl, l1, zs, hl, r1⟩ := hr.ref hk vb
      split at e
      · rename_i hf
        cases e
        exact .inr (.inl ⟨l, zs, rfl, .inr (.of hl), vr_flat va hf.1, vrs_flat r1 hf.2, (vrs_in va hf.1 r1 hf.2).symm⟩)
      · cases e
    · rename_i xs hk
      obtain ⟨l, rfl, l1, zs, hl, r1⟩ := hr.ref hk vb
      split at e
      · rename_i kk hkk
        cases e
        have := key_vr hkk va
        subst this
        refine .inr (.inr ⟨l, valV zs kk, rfl, DGet.k hl, ?_⟩)
        have g := kr_get (k := kk) r1
        cases q : getK xs kk with
        | none => rw [g.2 q]; rfl
        | some w => obtain ⟨z, e, _⟩ := g.1 w q; rw [e]; rfl
      · cases e
    · cases e
  · cases e
theorem inD_core {ρ : List Addr} {h : Heap} {H : Hp} {a b : Val} {x y : V} {k : Bool} (hr : HR t ρ h H) (va : VR t ρ a x) (vb : VR t ρ b y) (e : inD h a b = some k) :
    ∃ d ds, Dp t.K H x d ∧ Dp t.K H y (.list ds) ∧ SeqAt.shaped d = true ∧ SeqAt.shaped (.list ds) = true ∧ k = ds.any fun z => PyData.eqv z d := by
  unfold inD at e
  split at e
  · rename_i d ds e1 e2
    split at e
    · rename_i hs
      cases e
      exact ⟨d, ds, rd_dp hr _ _ _ _ e1 (SeqAt.canLay_of_shaped hs.1) va, rd_dp hr _ _ _ _ e2 (SeqAt.canLay_of_shaped hs.2) vb, hs.1, hs.2, rfl⟩
    · cases e
  · cases e
theorem op15 (hK : t.K = X.K) (hu : X.A.units + 100 < cLine) : OpR X (compareOp .In) (rOp t (bop .in_)) := by
  intro pins s σ H x y u v Q I rx ry ⟨ρ, h, a, b, hr, va, vb, p⟩
  obtain ⟨k, e, q⟩ := ofB_ok hr (show Post t ρ H (ofB (inX h a b) h) (KV1 t Q) E0' from p)
  unfold inX at e
  split at e
  · rename_i e0
    cases e
    rcases in_core hr va vb e0 with ⟨c, z, rfl, rfl, rfl⟩ | ⟨l, zs, rfl, h1, h2, h3, rfl⟩ | ⟨l, o, rfl, g, rfl⟩
    · exact op_in_sign pins s σ H _ _ u v Q I rx ry ⟨c, z, rfl, rfl, q⟩
    · exact op_in_seq pins s σ H _ _ u v Q I rx ry ⟨l, zs, rfl, hK ▸ h1, h2, h3, q⟩
    · obtain rfl : v = Value.ref l := ry
      exact d_in (by omega) I g rx fun s3 I3 => ⟨.bl o.isSome, H, I3, rfl, q⟩
  · obtain ⟨d, ds, h1, h2, h3, h4, rfl⟩ := inD_core hr va vb e
    exact op_inD (by omega) pins s σ H _ _ u v Q I rx ry ⟨d, ds, hK ▸ h1, hK ▸ h2, h3, h4, q⟩
theorem op16 (hK : t.K = X.K) (hu : X.A.units + 100 < cLine) : OpR X (compareOp .NotIn) (rOp t (bop .notin)) := by
  intro pins s σ H x y u v Q I rx ry ⟨ρ, h, a, b, hr, va, vb, p⟩
  obtain ⟨k, e, q⟩ := ofB_ok hr (show Post t ρ H (ofB ((inX h a b).map (!·)) h) (KV1 t Q) E0' from p)
  obtain ⟨k', e', rfl⟩ := Option.map_eq_some_iff.mp e
  unfold inX at e'
  split at e'
  · rename_i e0
    cases e'
    rcases in_core hr va vb e0 with ⟨c, z, rfl, rfl, rfl⟩ | ⟨l, zs, rfl, h1, h2, h3, rfl⟩ | ⟨l, o, rfl, g, rfl⟩
    · exact op_notIn_sign pins s σ H _ _ u v Q I rx ry ⟨c, z, rfl, rfl, q⟩
    · exact op_notIn_seq pins s σ H _ _ u v Q I rx ry ⟨l, zs, rfl, hK ▸ h1, h2, h3, q⟩
    · obtain rfl : v = Value.ref l := ry
      exact d_notIn (by omega) I g rx fun s3 I3 => ⟨.bl (!o.isSome), H, I3, rfl, q⟩
  · obtain ⟨d, ds, h1, h2, h3, h4, rfl⟩ := inD_core hr va vb e'
    exact op_notInD (by omega) pins s σ H _ _ u v Q I rx ry ⟨d, ds, hK ▸ h1, hK ▸ h2, h3, h4, q⟩
end
end Mi


/-! # Mi4: expressions -/
namespace Mi
open PySem PySem.Spec PyProof.Rows L2

/-- the surroundings of a piece of code -/
structure Ok (X : Cx) (t : Th) (W : L2.WX) : Prop where
  hK : t.K = X.K
  nd : X.N.Nodup
  hu : X.A.units + 150 < cLine
  hg : X.A.guards = some []
  sm : ∃ mm, X.base.Ns sysModules mm
  own : PassesOwn (model X.prog X.w) X.A X.env X.xe
  tk : Takes X W
/-- .. where nothing is handled -/
structure OkC (X : Cx) (t : Th) (W : L2.WX) : Prop extends Ok X t W where
  calm : X.calm = true
  px : t.ex = none
theorem Ok.ok {X : Cx} {t : Th} {W : L2.WX} (O : Ok X t W) : Ok X t W := O
theorem OkC.ok {X : Cx} {t : Th} {W : L2.WX} (O : OkC X t W) : Ok X t W := O.toOk
instance {X : Cx} {t : Th} {W : L2.WX} : Coe (OkC X t W) (Ok X t W) := ⟨OkC.toOk⟩

section
variable (t : Th) (W : L2.WX)
abbrev EW (σ : L2.St) : Value → Option Addr → Hp → Prop := fun c d H' => W c d σ H'
def tE (f : Sl → Heap → Res Val) : TE := fun σ H Q => ∃ ρ h s, HR t ρ h H ∧ SR t ρ s σ ∧ Post t ρ H (f s h) (KV1 t Q) (EW W σ)
def tT (f : Sl → Heap → Res Bool) : TT := fun σ H Q => ∃ ρ h s, HR t ρ h H ∧ SR t ρ s σ ∧ Post t ρ H (f s h) (fun b _ _ H' => Q b H') (EW W σ)
abbrev KVs (Q : List V → Hp → Prop) : List Val → Heap → List Addr → Hp → Prop := fun v _ ρ' H' => ∀ z, VRs t ρ' v z → Q z H'
def tA (f : Sl → Heap → Res (List Val)) : TA := fun σ H Q => ∃ ρ h s, HR t ρ h H ∧ SR t ρ s σ ∧ Post t ρ H (f s h) (KVs t Q) (EW W σ)
def tO (f : Sl → Heap → Res (Option Int)) : TO := fun σ H Q => ∃ ρ h s, HR t ρ h H ∧ SR t ρ s σ ∧ Post t ρ H (f s h) (fun b _ _ H' => Q b H') (EW W σ)
end
theorem PEi {X : Cx} {e : Expr} {t t' : TE} (p : PE X e t) (h : ∀ σ H Q, t' σ H Q → t σ H Q) : PE X e t' := ⟨fun pins s σ H Q I q => p.run pins s σ H Q I (h σ H Q q)⟩
theorem PTi {X : Cx} {e : Expr} {t t' : TT} (p : PT X e t) (h : ∀ σ H Q, t' σ H Q → t σ H Q) : PT X e t' := ⟨fun pins s σ H Q I q => p.run pins s σ H Q I (h σ H Q q)⟩
theorem PWi {X : Cx} {e : Expr} {t t' : TT} (p : PW X e t) (h : ∀ σ H Q, t' σ H Q → t σ H Q) : PW X e t' := ⟨fun wh pins s σ H Q I q => p.run wh pins s σ H Q I (h σ H Q q)⟩
theorem PAi {X : Cx} {e : List Expr} {t t' : TA} (p : PA X e t) (h : ∀ σ H Q, t' σ H Q → t σ H Q) : PA X e t' := ⟨fun pos pins s σ H Q I q => p.run pos pins s σ H Q I (h σ H Q q)⟩
theorem POi {X : Cx} {e : Option Expr} {t t' : TO} (p : PO X e t) (h : ∀ σ H Q, t' σ H Q → t σ H Q) : PO X e t' := ⟨fun pins s σ H Q I q => p.run pins s σ H Q I (h σ H Q q)⟩

theorem nox_ok {α : Type} {a : α} {h : Heap} : NoX (Res.ok a h) := fun _ _ _ => nofun
theorem nox_bad {α : Type} : NoX (Res.bad : Res α) := fun _ _ _ => nofun
theorem nox_new {o : Ob} {h : Heap} : NoX (new o h) := fun _ _ _ => nofun
theorem nox_ofB {o : Option Bool} {h : Heap} : NoX (ofB o h) := by
  cases o <;> exact fun _ _ _ => nofun
theorem nox_bop (o : Op) (x y : Val) (h : Heap) : NoX (bop o x y h) := by
  unfold bop addV subV mulV fdivV modV powV
  repeat' split
  all_goals first | exact nox_ofB | exact nox_new | exact nox_ok | exact nox_bad
theorem nox_idx (g : G) (x y : Val) (h : Heap) : NoX (idxV g x y h) := by
  unfold idxV
  repeat' split
  all_goals first | exact nox_new | exact nox_ok | exact nox_bad
theorem nox_slc (x : Val) (l u : Option Int) (h : Heap) : NoX (slcV x l u h) := by
  unfold slcV
  repeat' split
  all_goals first | exact nox_new | exact nox_ok | exact nox_bad
theorem nox_pri (g : G) (p : Pr) (vs : List Val) (h : Heap) : NoX (pri g p vs h) := by
  unfold pri maxV
  repeat' split
  all_goals first | exact nox_new | exact nox_ok | exact nox_bad
theorem nox_met (m : Me) (x : Val) (vs : List Val) (h : Heap) : NoX (met m x vs h) := by
  unfold met
  repeat' split
  all_goals first | exact nox_new | exact nox_ok | exact nox_bad

section
variable {t : Th} {ρ : List Addr} {h : Heap} {H : Hp}
theorem tru_V {v : Val} {y : V} {b : Bool} (x : HR t ρ h H) (r : VR t ρ v y) (e : tru h v = some b) : TruV t.K y H b := by
  unfold tru at e
  split at e
  · cases r; cases e; rfl
  · cases r; cases e; rfl
  · cases r; cases e; rfl
  · split at e
    · cases r; cases e; exact ⟨by assumption, rfl⟩
    · cases e
  · split at e
    · rename_i xs hk
      obtain ⟨l, rfl, l1, zs, hl, r1⟩ := x.ref hk r
      cases e
      refine .inl ⟨zs, .of hl, ?_⟩
      cases r1 <;> rfl
    · rename_i xs hk
      obtain ⟨l, rfl, l1, zs, hl, r1⟩ := x.ref hk r
      cases e
      refine .inr (.inl ⟨zs, .of hl, ?_⟩)
      cases r1 <;> rfl
    · rename_i xs hk
      obtain ⟨l, rfl, l1, zs, hl, r1⟩ := x.ref hk r
      cases e
      refine .inr (.inr ⟨zs, hl, ?_⟩)
      cases r1 <;> rfl
    · cases e
  · cases e
/-- a truth asked -/
theorem post_tru {v : Val} {y : V} {E : Value → Option Addr → Hp → Prop} {k : Bool → Heap → List Addr → Hp → Prop} (x : HR t ρ h H) (r : VR t ρ v y) (p : Post t ρ H (truB v h) k E) : ∃ b, tru h v = some b ∧ TruV t.K y H b ∧ k b h ρ H := by
  unfold truB at p
  split at p
  · rename_i b e
    exact ⟨b, e, tru_V x r e, p.ok x⟩
  · exact p.elim
end

section
variable {X : Cx} {t : Th} {W : L2.WX} {g : G} {a b c e : Expr} {es : List Expr} {ma mb mc m : Ex} {ms : Exs} {pos : Pos}
variable (O : Ok X t W)
include O

theorem e_var {i : Nat} {x : Str} {p : Pos} (hN : X.N[i]? = some x := by rfl) (hv : Vis X.env.scope x := by first | exact Or.inl rfl | exact Or.inr (Or.inl rfl) | exact Or.inr (Or.inr rfl)) (hd : (x == ("__debug__" : Str)) = false := by decide)
    (hcd : (x == ("__classdict__" : Str)) = false := by decide) : PE X (.Name x p) (tE t W (den g (.var i))) := by
  refine PEi (pe_var hN hv hd hcd) fun σ H Q ⟨ρ, h, s, hr, sr, p⟩ => ?_
  unfold den at p
  split at p
  · rename_i v e
    obtain ⟨o, e1, r⟩ := pr_get sr.pr e
    cases o with
    | none => exact r.elim
    | some y => exact ⟨y, e1, p.ok hr y r⟩
  · exact p.elim
theorem e_int {i : Int} {j : Nat} : PE X (.Constant (.int i) j pos) (tE t W (den g (.cst (.int i)))) :=
  PEi pe_int fun σ H Q ⟨ρ, h, s, hr, sr, p⟩ => Post.ok hr p _ rfl
theorem e_bl {i : Bool} {j : Nat} : PE X (.Constant (.bool i) j pos) (tE t W (den g (.cst (.bl i)))) :=
  PEi pe_bl fun σ H Q ⟨ρ, h, s, hr, sr, p⟩ => Post.ok hr p _ rfl
theorem e_str {i : Str} {j : Nat} : PE X (.Constant (.str i) j pos) (tE t W (den g (.cst (.str i)))) :=
  PEi pe_str fun σ H Q ⟨ρ, h, s, hr, sr, p⟩ => Post.ok hr p _ rfl
theorem e_non {j : Nat} : PE X (.Constant .none j pos) (tE t W (den g (.cst .non))) :=
  PEi pe_non fun σ H Q ⟨ρ, h, s, hr, sr, p⟩ => Post.ok hr p _ rfl
/-- a built-in type by its name -/
theorem e_ty {x : Str} {s : String} {p : Pos} (hg : Gl X x) (hm : X.mg x = none) (hv : bootBuiltins x = some (.type s)) (hn : x ≠ "__name__" := by decide) (hd : (x == ("__debug__" : Str)) = false := by decide) :
    PE X (.Name x p) (tE t W (den g (.cst (.ty s)))) :=
  PEi (pe_bltn (v := .ty s) hg hm hv rfl hn hd) fun σ H Q ⟨ρ, h, s, hr, sr, p⟩ => Post.ok hr p _ rfl
/-- a constant of the module: an int, a text -/
theorem e_glbI {x : Str} {j : Nat} {i : Int} {p : Pos} (hg : Gl X x) (hm : ∃ u, X.mg x = some (.int i u)) (he : g.glob j = some (.int i)) (hd : (x == ("__debug__" : Str)) = false := by decide) : PE X (.Name x p) (tE t W (den g (.glb j))) := by
  obtain ⟨u, hm⟩ := hm
  refine PEi (pe_glob (v := .int i) hg hm ⟨u, rfl⟩ hd) fun σ H Q ⟨ρ, h, s, hr, sr, p⟩ => ?_
  unfold den at p
  rw [he] at p
  exact Post.ok hr p _ rfl
theorem e_glbS {x i : Str} {j : Nat} {p : Pos} (hg : Gl X x) (hm : ∃ u, X.mg x = some (.str i u)) (he : g.glob j = some (.str i)) (hd : (x == ("__debug__" : Str)) = false := by decide) : PE X (.Name x p) (tE t W (den g (.glb j))) := by
  obtain ⟨u, hm⟩ := hm
  refine PEi (pe_glob (v := .str i) hg hm ⟨u, rfl⟩ hd) fun σ H Q ⟨ρ, h, s, hr, sr, p⟩ => ?_
  unfold den at p
  rw [he] at p
  exact Post.ok hr p _ rfl

/-- two values, one after the other -/
theorem two {f : Val → Val → Heap → Res Val} {σ : L2.St} {H : Hp} {Q : VK} {r : V → V → Hp → Prop}
    (q : tE t W (fun s h => (den g ma s h).bind fun x h => (den g mb s h).bind fun y h => f x y h) σ H Q)
    (k : ∀ ρ h H x y u v, HR t ρ h H → VR t ρ x u → VR t ρ y v → Post t ρ H (f x y h) (KV1 t Q) (EW W σ) → r u v H) :
    tE t W (den g ma) σ H fun u H1 => tE t W (den g mb) σ H1 fun v H2 => r u v H2 := by
  obtain ⟨ρ, h, s, hr, sr, p⟩ := q
  exact ⟨ρ, h, s, hr, sr, (Post.bind p).imp fun x h1 ρ1 H1 e1 x1 p1 u ru => ⟨ρ1, h1, s, x1, SR.ext e1 sr, (Post.bind p1).imp fun y h2 ρ2 H2 e2 x2 p2 v rv => k ρ2 h2 H2 x y u v x2 (ru.ext e2) rv p2⟩⟩
theorem e_bin {op : Operator} {o : Op} (ho : OpR X (binaryOp op) (rOp t (bop o))) (ha : PE X a (tE t W (den g ma))) (hb : PE X b (tE t W (den g mb))) : PE X (.BinOp a op b pos) (tE t W (den g (.bin o ma mb))) :=
  PEi (pe_op ho ha hb) fun σ H Q q => two O (f := bop o) (by unfold tE den at q; exact q) fun ρ h H x y u v hr ru rv p => ⟨ρ, h, x, y, hr, ru, rv, p.nox (nox_bop _ _ _ _)⟩
theorem e_cmp {op : CmpOp} {o : Op} (ho : OpR X (compareOp op) (rOp t (bop o))) (ha : PE X a (tE t W (den g ma))) (hb : PE X b (tE t W (den g mb))) (hm : behindInMarks op b = false) : PE X (.Compare a [op] [b] pos) (tE t W (den g (.bin o ma mb))) :=
  PEi (pe_cmpR ho ha hb hm) fun σ H Q q => two O (f := bop o) (by unfold tE den at q; exact q) fun ρ h H x y u v hr ru rv p => ⟨ρ, h, x, y, hr, ru, rv, p.nox (nox_bop _ _ _ _)⟩
theorem truB_ofB {z : Val} {h : Heap} (hz : ∃ k, z = .bl k) : ∃ k, z = .bl k ∧ truB z h = .ok k h := by
  obtain ⟨k, rfl⟩ := hz
  exact ⟨k, rfl, rfl⟩
/-- what a comparison gives is a truth -/
def isB (r : Res Val) : Prop := ∀ v h, r = .ok v h → ∃ k, v = .bl k
omit O in
theorem isB_ofB {o : Option Bool} {h : Heap} : isB (ofB o h) := by
  cases o with
  | none => exact fun _ _ => nofun
  | some b => exact fun v h' e => ⟨b, by injection e with e1 _; exact e1.symm⟩
theorem t_cmp {op : CmpOp} {o : Op} (ho : OpR X (compareOp op) (rOp t (bop o))) (hB : ∀ x y h, isB (bop o x y h)) (ha : PE X a (tE t W (den g ma))) (hb : PE X b (tE t W (den g mb))) (hm : behindInMarks op b = false) : PT X (.Compare a [op] [b] pos) (tT t W (denT g (.bin o ma mb))) := by
  refine PTi (pt_cmpR ho ha hb hm) fun σ H Q ⟨ρ, h, s, hr, sr, p⟩ => ?_
  refine two O (f := bop o) (ma := ma) (mb := mb) (Q := fun v H' => ∃ k, v = .bl k ∧ Q k H') ?_ fun ρ h H x y u v hr ru rv p => ⟨ρ, h, x, y, hr, ru, rv, p.nox (nox_bop _ _ _ _)⟩
  refine ⟨ρ, h, s, hr, sr, ?_⟩
  unfold denT at p
  refine Post.imp (k := fun v h' ρ' H' => (∃ k, v = .bl k) ∧ Post t ρ' H' (truB v h') (fun b _ _ H' => Q b H') (EW W σ)) ?_ fun v h' ρ' H' e x q z rz => ?_
  · have p1 := Post.bind p
    show Post t ρ H ((den g ma s h).bind fun x h => (den g mb s h).bind fun y h => bop o x y h) _ _
    unfold den at p1
    generalize he : ((den g ma s h).bind fun x h => (den g mb s h).bind fun y h => bop o x y h) = r at p1 ⊢
    cases r with
    | ok v h1 =>
      refine fun ρ2 H2 e2 x2 => ⟨?_, p1 ρ2 H2 e2 x2⟩
      cases hx : den g ma s h with
      | ok x1 h1' =>
        rw [hx] at he
        cases hy : den g mb s h1' with
        | ok y1 h2' => simp only [Res.bind_ok, hy] at he; exact hB _ _ _ _ _ he
        | exc _ _ _ => simp only [Res.bind_ok, hy] at he; cases he
        | bad => simp only [Res.bind_ok, hy] at he; cases he
      | exc _ _ _ => rw [hx] at he; cases he
      | bad => rw [hx] at he; cases he
    | exc _ _ _ => exact p1
    | bad => exact p1
  · obtain ⟨⟨k, rfl⟩, q⟩ := q
    cases rz
    exact ⟨k, rfl, q.ok x⟩
theorem e_neg (ha : PE X a (tE t W (den g ma))) : PE X (.UnaryOp .USub a pos) (tE t W (den g (.neg ma))) := by
  refine PEi (pe_un un_neg ha) fun σ H Q ⟨ρ, h, s, hr, sr, p⟩ => ?_
  unfold den at p
  refine ⟨ρ, h, s, hr, sr, (Post.bind p).imp fun x h1 ρ1 H1 e1 x1 p1 u ru => ?_⟩
  split at p1
  · cases ru
    exact ⟨_, rfl, p1.ok x1 _ rfl⟩
  · exact p1.elim
theorem e_not (ha : PE X a (tE t W (den g ma))) : PE X (.UnaryOp .Not a pos) (tE t W (den g (.not ma))) := by
  refine PEi (pe_notT ha) fun σ H Q ⟨ρ, h, s, hr, sr, p⟩ => ?_
  unfold den at p
  refine ⟨ρ, h, s, hr, sr, (Post.bind p).imp fun x h1 ρ1 H1 e1 x1 p1 u ru => ?_⟩
  obtain ⟨b, _, tv, q⟩ := post_tru x1 ru (Post.bind p1)
  exact ⟨b, O.hK ▸ tv, q.ok x1 _ rfl⟩
theorem e_one {op : PySem.BoolOp} (ha : PE X a (tE t W (den g ma))) : PE X (.BoolOp op [a] pos) (tE t W (den g ma)) := pe_one ha
theorem e_and (ha : PE X a (tE t W (den g ma))) (hb : PE X (.BoolOp .And (b :: es) pos) (tE t W (den g mb))) : PE X (.BoolOp .And (a :: b :: es) pos) (tE t W (den g (.and ma mb))) := by
  refine PEi (pe_andT ha hb) fun σ H Q ⟨ρ, h, s, hr, sr, p⟩ => ?_
  unfold den at p
  refine ⟨ρ, h, s, hr, sr, (Post.bind p).imp fun x h1 ρ1 H1 e1 x1 p1 u ru => ?_⟩
  obtain ⟨k, _, tv, q⟩ := post_tru x1 ru (Post.bind p1)
  refine ⟨k, O.hK ▸ tv, ?_⟩
  cases k with
  | true => rw [if_pos rfl] at q ⊢; exact ⟨ρ1, h1, s, x1, SR.ext e1 sr, q⟩
  | false => rw [if_neg Bool.false_ne_true] at q ⊢; exact q.ok x1 _ ru
theorem e_or (ha : PE X a (tE t W (den g ma))) (hb : PE X (.BoolOp .Or (b :: es) pos) (tE t W (den g mb))) : PE X (.BoolOp .Or (a :: b :: es) pos) (tE t W (den g (.or ma mb))) := by
  refine PEi (pe_orT ha hb) fun σ H Q ⟨ρ, h, s, hr, sr, p⟩ => ?_
  unfold den at p
  refine ⟨ρ, h, s, hr, sr, (Post.bind p).imp fun x h1 ρ1 H1 e1 x1 p1 u ru => ?_⟩
  obtain ⟨k, _, tv, q⟩ := post_tru x1 ru (Post.bind p1)
  refine ⟨k, O.hK ▸ tv, ?_⟩
  cases k with
  | true => rw [if_pos rfl] at q ⊢; exact q.ok x1 _ ru
  | false => rw [if_neg Bool.false_ne_true] at q ⊢; exact ⟨ρ1, h1, s, x1, SR.ext e1 sr, q⟩
/-- tests -/
theorem t_plain (ha : PE X a (tE t W (den g ma))) (he : ∀ whole, isTrue a X.env whole = (do let v ← whole; standAt a.pos; holding [v] (truthy v)) := by intro _; rfl) : PT X a (tT t W (denT g ma)) := by
  refine PTi (pt_truth ha he) fun σ H Q ⟨ρ, h, s, hr, sr, p⟩ => ?_
  unfold denT at p
  refine ⟨ρ, h, s, hr, sr, (Post.bind p).imp fun x h1 ρ1 H1 e1 x1 p1 u ru => ?_⟩
  obtain ⟨k, _, tv, q⟩ := post_tru x1 ru p1
  exact ⟨k, O.hK ▸ tv, q⟩
omit O in
theorem denT_not (s : Sl) (h : Heap) : denT g (.not ma) s h = (denT g ma s h).bind fun b h => .ok (!b) h := by
  unfold denT
  conv => lhs; unfold den
  cases den g ma s h with
  | ok v h1 =>
    simp only [Res.bind_ok]
    cases q : truB v h1 <;> rfl
  | exc _ _ _ => rfl
  | bad => rfl
omit O in
theorem truB_heap {v : Val} {h h' : Heap} {b : Bool} (e : truB v h = .ok b h') : h' = h ∧ tru h v = some b := by
  unfold truB at e
  split at e
  · injection e with e1 e2; subst e1; exact ⟨e2.symm, by assumption⟩
  · cases e
omit O in
theorem denT_and (s : Sl) (h : Heap) : denT g (.and ma mb) s h = (denT g ma s h).bind fun b h => if b then denT g mb s h else .ok false h := by
  unfold denT
  conv => lhs; unfold den
  cases den g ma s h with
  | ok v h1 =>
    simp only [Res.bind_ok]
    cases q : truB v h1 with
    | ok b h2 =>
      obtain ⟨rfl, e⟩ := truB_heap q
      cases b with
      | true => rfl
      | false => simp only [Res.bind_ok]; exact q
    | exc _ _ _ => rfl
    | bad => rfl
  | exc _ _ _ => rfl
  | bad => rfl
omit O in
theorem denT_or (s : Sl) (h : Heap) : denT g (.or ma mb) s h = (denT g ma s h).bind fun b h => if b then .ok true h else denT g mb s h := by
  unfold denT
  conv => lhs; unfold den
  cases den g ma s h with
  | ok v h1 =>
    simp only [Res.bind_ok]
    cases q : truB v h1 with
    | ok b h2 =>
      obtain ⟨rfl, e⟩ := truB_heap q
      cases b with
      | false => rfl
      | true => simp only [Res.bind_ok]; exact q
    | exc _ _ _ => rfl
    | bad => rfl
  | exc _ _ _ => rfl
  | bad => rfl
theorem t_not (ha : PT X a (tT t W (denT g ma))) : PT X (.UnaryOp .Not a pos) (tT t W (denT g (.not ma))) := by
  refine PTi (pt_not ha) fun σ H Q ⟨ρ, h, s, hr, sr, p⟩ => ?_
  rw [denT_not] at p
  exact ⟨ρ, h, s, hr, sr, (Post.bind p).imp fun x h1 ρ1 H1 e1 x1 p1 => p1.ok x1⟩
theorem w_and1 (ha : PT X a (tT t W (denT g ma))) : PW X (.BoolOp .And [a] pos) (tT t W (denT g ma)) := pw_and1 ha
theorem w_or1 (ha : PT X a (tT t W (denT g ma))) : PW X (.BoolOp .Or [a] pos) (tT t W (denT g ma)) := pw_or1 ha
theorem w_and (ha : PT X a (tT t W (denT g ma))) (hb : PW X (.BoolOp .And (b :: es) pos) (tT t W (denT g mb))) : PW X (.BoolOp .And (a :: b :: es) pos) (tT t W (denT g (.and ma mb))) := by
  refine PWi (pw_and ha hb) fun σ H Q ⟨ρ, h, s, hr, sr, p⟩ => ?_
  rw [denT_and] at p
  refine ⟨ρ, h, s, hr, sr, (Post.bind p).imp fun k h1 ρ1 H1 e1 x1 q => ?_⟩
  cases k with
  | true => exact ⟨ρ1, h1, s, x1, SR.ext e1 sr, q⟩
  | false => exact q.ok x1
theorem w_or (ha : PT X a (tT t W (denT g ma))) (hb : PW X (.BoolOp .Or (b :: es) pos) (tT t W (denT g mb))) : PW X (.BoolOp .Or (a :: b :: es) pos) (tT t W (denT g (.or ma mb))) := by
  refine PWi (pw_or ha hb) fun σ H Q ⟨ρ, h, s, hr, sr, p⟩ => ?_
  rw [denT_or] at p
  refine ⟨ρ, h, s, hr, sr, (Post.bind p).imp fun k h1 ρ1 H1 e1 x1 q => ?_⟩
  cases k with
  | false => exact ⟨ρ1, h1, s, x1, SR.ext e1 sr, q⟩
  | true => exact q.ok x1
theorem e_ite (hc : PT X c (tT t W (denT g mc))) (ha : PE X a (tE t W (den g ma))) (hb : PE X b (tE t W (den g mb))) : PE X (.IfExp c a b pos) (tE t W (den g (.ite mc ma mb))) := by
  refine PEi (pe_ifExp hc ha hb) fun σ H Q ⟨ρ, h, s, hr, sr, p⟩ => ?_
  have e : den g (.ite mc ma mb) s h = (denT g mc s h).bind fun k h => if k then den g ma s h else den g mb s h := by
    conv => lhs; unfold den
    unfold denT
    cases den g mc s h <;> rfl
  rw [e] at p
  refine ⟨ρ, h, s, hr, sr, (Post.bind p).imp fun k h1 ρ1 H1 e1 x1 q => ?_⟩
  cases k with
  | true => exact ⟨ρ1, h1, s, x1, SR.ext e1 sr, q⟩
  | false => exact ⟨ρ1, h1, s, x1, SR.ext e1 sr, q⟩
/-- a op b op c -/
theorem e_chn {op op' : CmpOp} {o o' : Op} (ho : OpR X (compareOp op) (rOp t (bop o))) (ho' : OpR X (compareOp op') (rOp t (bop o'))) (hB : ∀ x y h, isB (bop o x y h)) (ha : PE X a (tE t W (den g ma))) (hb : PE X b (tE t W (den g mb))) (hc : PE X c (tE t W (den g mc)))
    (hm : lastMarks [op, op'] [b, c] = false := by with_unfolding_all rfl) : PE X (.Compare a [op, op'] [b, c] pos) (tE t W (den g (.chn o o' ma mb mc))) := by
  refine PEi (pe_chain ho ho' ha hb hc hm) fun σ H Q ⟨ρ, h, s, hr, sr, p⟩ => ?_
  unfold den at p
  refine ⟨ρ, h, s, hr, sr, (Post.bind p).imp fun x h1 ρ1 H1 e1 x1 p1 u ru => ⟨ρ1, h1, s, x1, SR.ext e1 sr, (Post.bind p1).imp fun y h2 ρ2 H2 e2 x2 p2 v rv => ⟨ρ2, h2, x, y, x2, ru.ext e2, rv, ?_⟩⟩⟩
  have p3 := Post.bind p2
  generalize hz : bop o x y h2 = r at p3 ⊢
  cases r with
  | bad => exact p3
  | exc c fs h' => exact absurd hz (nox_bop o x y h2 c fs h')
  | ok z h3 =>
    obtain ⟨k, rfl⟩ := hB x y h2 z h3 hz
    refine fun ρ3 H3 e3 x3 w rw => ?_
    cases rw
    refine ⟨k, rfl, ?_⟩
    have q := p3 ρ3 H3 e3 x3
    cases k with
    | true =>
      rw [if_pos rfl]
      exact ⟨ρ3, h3, s, x3, SR.ext (e1.trans (e2.trans e3)) sr, (Post.bind q).imp fun z' h4 ρ4 H4 e4 x4 p4 w' rw' => ⟨ρ4, h4, y, z', x4, (rv.ext e3).ext e4, rw', p4.nox (nox_bop _ _ _ _)⟩⟩
    | false =>
      rw [if_neg Bool.false_ne_true]
      exact q.ok x3 _ rfl
theorem t_chn {op op' : CmpOp} {o o' : Op} (ho : OpR X (compareOp op) (rOp t (bop o))) (ho' : OpR X (compareOp op') (rOp t (bop o'))) (hB : ∀ x y h, isB (bop o x y h)) (hB' : ∀ x y h, isB (bop o' x y h)) (ha : PE X a (tE t W (den g ma))) (hb : PE X b (tE t W (den g mb))) (hc : PE X c (tE t W (den g mc)))
    (hm : lastMarks [op, op'] [b, c] = false := by with_unfolding_all rfl) : PT X (.Compare a [op, op'] [b, c] pos) (tT t W (denT g (.chn o o' ma mb mc))) := by
  refine PTi (pt_chain ho ho' ha hb hc hm) fun σ H Q ⟨ρ, h, s, hr, sr, p⟩ => ?_
  have e : denT g (.chn o o' ma mb mc) s h = (den g ma s h).bind fun x h => (den g mb s h).bind fun y h => (bop o x y h).bind fun k h => (match k with
      | .bl true => (den g mc s h).bind fun z h => bop o' y z h
      | .bl false => .ok (.bl false) h
      | _ => .bad : Res Val).bind truB := by
    unfold denT
    conv => lhs; unfold den
    cases den g ma s h with
    | ok x h1 =>
      simp only [Res.bind_ok]
      cases den g mb s h1 with
      | ok y h2 =>
        simp only [Res.bind_ok]
        cases bop o x y h2 <;> rfl
      | exc _ _ _ => rfl
      | bad => rfl
    | exc _ _ _ => rfl
    | bad => rfl
  rw [e] at p
  refine ⟨ρ, h, s, hr, sr, (Post.bind p).imp fun x h1 ρ1 H1 e1 x1 p1 u ru => ⟨ρ1, h1, s, x1, SR.ext e1 sr, (Post.bind p1).imp fun y h2 ρ2 H2 e2 x2 p2 v rv => ⟨ρ2, h2, x, y, x2, ru.ext e2, rv, ?_⟩⟩⟩
  have p3 := Post.bind p2
  generalize hz : bop o x y h2 = r at p3 ⊢
  cases r with
  | bad => exact p3
  | exc c fs h' => exact absurd hz (nox_bop o x y h2 c fs h')
  | ok z h3 =>
    obtain ⟨k, rfl⟩ := hB x y h2 z h3 hz
    refine fun ρ3 H3 e3 x3 w rw => ?_
    cases rw
    refine ⟨k, rfl, ?_⟩
    have q := p3 ρ3 H3 e3 x3
    cases k with
    | true =>
      rw [if_pos rfl]
      refine ⟨ρ3, h3, s, x3, SR.ext (e1.trans (e2.trans e3)) sr, ?_⟩
      have q : Post t ρ3 H3 (((den g mc s h3).bind fun z h => bop o' y z h).bind truB) (fun b _ _ H' => Q b H') (EW W σ) := q
      have e' : ((den g mc s h3).bind fun z h => bop o' y z h).bind truB = (den g mc s h3).bind fun z h => (bop o' y z h).bind truB := by
        cases den g mc s h3 <;> rfl
      rw [e'] at q
      refine (Post.bind q).imp fun z' h4 ρ4 H4 e4 x4 p4 w' rw' => ⟨ρ4, h4, y, z', x4, (rv.ext e3).ext e4, rw', ?_⟩
      have p5 := Post.bind p4
      generalize hz' : bop o' y z' h4 = r' at p5 ⊢
      cases r' with
      | bad => exact p5
      | exc c fs h' => exact absurd hz' (nox_bop o' y z' h4 c fs h')
      | ok z2 h5 =>
        obtain ⟨k2, rfl⟩ := hB' y z' h4 z2 h5 hz'
        refine fun ρ5 H5 e5 x5 w2 rw2 => ?_
        cases rw2
        exact ⟨k2, rfl, (p5 ρ5 H5 e5 x5).ok x5⟩
    | false =>
      rw [if_neg Bool.false_ne_true]
      exact ⟨false, rfl, Post.ok x3 q⟩
/-- argument lists -/
theorem a_nil : PA X [] (tA t W (dens g .nil)) := PAi pa_nil fun σ H Q ⟨ρ, h, s, hr, sr, p⟩ => Post.ok hr p _ .nil
theorem a_cons (ha : PE X a (tE t W (den g ma))) (hb : PA X es (tA t W (dens g ms))) (hs : starEach (a :: es) X.env = (false, eval a X.env) :: starEach es X.env := by rfl) : PA X (a :: es) (tA t W (dens g (.cons ma ms))) := by
  refine PAi (pa_cons ha hb hs) fun σ H Q ⟨ρ, h, s, hr, sr, p⟩ => ?_
  unfold dens at p
  exact ⟨ρ, h, s, hr, sr, (Post.bind p).imp fun x h1 ρ1 H1 e1 x1 p1 u ru => ⟨ρ1, h1, s, x1, SR.ext e1 sr, (Post.bind p1).imp fun y h2 ρ2 H2 e2 x2 p2 v rv => p2.ok x2 _ (.cons (ru.ext e2) rv)⟩⟩
theorem e_lst (ha : PA X es (tA t W (dens g ms))) : PE X (.List es pos) (tE t W (den g (.lst ms))) := by
  refine PEi (pe_lst ha) fun σ H Q ⟨ρ, h, s, hr, sr, p⟩ => ?_
  unfold den at p
  refine ⟨ρ, h, s, hr, sr, (Post.bind p).imp fun x h1 ρ1 H1 e1 x1 p1 u ru => ?_⟩
  split at p1
  · exact ⟨by rw [← Paired.length ru]; assumption, fun q hq => Post.new x1 p1 hq (or_lst ru) _ (VR.new x1)⟩
  · exact p1.elim
theorem e_tup {k : Nat} (ha : PA X es (tA t W (dens g ms))) : PE X (.Tuple es k pos) (tE t W (den g (.tup ms))) := by
  refine PEi (pe_tup ha) fun σ H Q ⟨ρ, h, s, hr, sr, p⟩ => ?_
  unfold den at p
  refine ⟨ρ, h, s, hr, sr, (Post.bind p).imp fun x h1 ρ1 H1 e1 x1 p1 u ru => ?_⟩
  split at p1
  · exact ⟨by rw [← Paired.length ru]; assumption, fun q hq => Post.new x1 p1 hq (or_tup ru) _ (VR.new x1)⟩
  · exact p1.elim
theorem e_dnew : PE X (.Dict [] [] pos) (tE t W (den g .dnew)) := by
  refine PEi pe_dnewK fun σ H Q ⟨ρ, h, s, hr, sr, p⟩ => ?_
  unfold den at p
  exact fun q hq => Post.new hr p hq ⟨[], upd_same, .nil⟩ _ (VR.new hr)
end
end Mi


/-! # Mi5: items, slices, built-in functions and methods -/
namespace Mi
open PySem PySem.Spec PyProof.Rows L2

section
variable {t : Th} {ρ : List Addr} {h : Heap} {H : Hp} {g : G}
theorem atI_pr {α β : Type} {F : α → β → Prop} {xs : List α} {ys : List β} {i : Int} {v : α} (r : Paired F xs ys) (e : atI xs i = some v) : ∃ y, atI ys i = some y ∧ F v y := by
  unfold atI at e ⊢
  rw [← r.length]
  cases q : ixN xs.length i with
  | none => rw [q] at e; cases e
  | some j =>
    rw [q] at e
    obtain ⟨y, e1, r1⟩ := pr_get r e
    exact ⟨y, e1, r1⟩
theorem atI_map {α β : Type} {f : α → β} {xs : List α} {i : Int} {v : α} (e : atI xs i = some v) : atI (xs.map f) i = some (f v) := by
  unfold atI at e ⊢
  rw [List.length_map]
  cases q : ixN xs.length i with
  | none => rw [q] at e; cases e
  | some j =>
    rw [q] at e
    have e : xs[j]? = some v := e
    show (xs.map f)[j]? = some (f v)
    rw [List.getElem?_map, e]; rfl
theorem ints_vr : ∀ {xs : List Val} {ys : List V} {ns : List Int}, VRs t ρ xs ys → intsO xs = some ns → ys = ns.map V.int
  | _, _, _, .nil, e => by cases e; rfl
  | x :: xs, y :: ys, ns, .cons r rs, e => by
    cases x <;> simp [intsO] at e
    obtain ⟨ms, e1, rfl⟩ := e
    cases r
    rw [ints_vr rs e1]; rfl
theorem bls_vr : ∀ {xs : List Val} {ys : List V} {ns : List Bool}, VRs t ρ xs ys → blsO xs = some ns → ys = ns.map V.bl
  | _, _, _, .nil, e => by cases e; rfl
  | x :: xs, y :: ys, ns, .cons r rs, e => by
    cases x <;> simp [blsO] at e
    obtain ⟨ms, e1, rfl⟩ := e
    cases r
    rw [bls_vr rs e1]; rfl
theorem strs_vr : ∀ {xs : List Val} {ys : List V} {ns : List Str}, VRs t ρ xs ys → strsO xs = some ns → ys = ns.map V.str
  | _, _, _, .nil, e => by cases e; rfl
  | x :: xs, y :: ys, ns, .cons r rs, e => by
    cases x <;> simp [strsO] at e
    obtain ⟨ms, e1, rfl⟩ := e
    cases r
    rw [strs_vr rs e1]; rfl
theorem lst_of {v : Val} {y : V} {xs : List Val} (x : HR t ρ h H) (r : VR t ρ v y) (e : lstO h v = some xs) : ∃ a ys, y = .ref a ∧ H a = some (.lst ys) ∧ VRs t ρ xs ys := by
  unfold lstO at e
  split at e
  · split at e
    · rename_i zs hk
      cases e
      obtain ⟨l, rfl, l1, ys, hl, r1⟩ := x.ref hk r
      exact ⟨l, ys, rfl, hl, r1⟩
    · cases e
  · cases e
theorem seq_of {v : Val} {y : V} {xs : List Val} (x : HR t ρ h H) (r : VR t ρ v y) (e : seqO h v = some xs) : ∃ a ys, y = .ref a ∧ (H a = some (.lst ys) ∨ H a = some (.tup ys)) ∧ VRs t ρ xs ys := by
  unfold seqO at e
  split at e
  · split at e
    · rename_i zs hk
      cases e
      obtain ⟨l, rfl, l1, ys, hl, r1⟩ := x.ref hk r
      exact ⟨l, ys, rfl, .inl hl, r1⟩
    · rename_i zs hk
      cases e
      obtain ⟨l, rfl, l1, ys, hl, r1⟩ := x.ref hk r
      exact ⟨l, ys, rfl, .inr hl, r1⟩
    · cases e
  · cases e
theorem foldl_max (ns : List Int) : ∀ a : Int, (∀ y ∈ ns, y ≤ ns.foldl max a) ∧ a ≤ ns.foldl max a ∧ (ns.foldl max a = a ∨ ns.foldl max a ∈ ns) := by
  induction ns with
  | nil => intro a; simp
  | cons n ns ih =>
    intro a
    obtain ⟨h1, h2, h3⟩ := ih (max a n)
    simp only [List.foldl_cons, List.mem_cons]
    refine ⟨fun y hy => ?_, by omega, ?_⟩
    · rcases hy with rfl | hy
      · omega
      · exact h1 y hy
    · rcases h3 with h3 | h3
      · rcases Int.le_total a n with q | q
        · right; left; rw [h3]; omega
        · left; rw [h3]; omega
      · right; right; exact h3
theorem foldl_min (ns : List Int) : ∀ a : Int, (∀ y ∈ ns, ns.foldl min a ≤ y) ∧ ns.foldl min a ≤ a ∧ (ns.foldl min a = a ∨ ns.foldl min a ∈ ns) := by
  induction ns with
  | nil => intro a; simp
  | cons n ns ih =>
    intro a
    obtain ⟨h1, h2, h3⟩ := ih (min a n)
    simp only [List.foldl_cons, List.mem_cons]
    refine ⟨fun y hy => ?_, by omega, ?_⟩
    · rcases hy with rfl | hy
      · omega
      · exact h1 y hy
    · rcases h3 with h3 | h3
      · rcases Int.le_total a n with q | q
        · left; rw [h3]; omega
        · right; left; rw [h3]; omega
      · right; right; exact h3
theorem maxL_ge {ns : List Int} {y : Int} (hy : y ∈ ns) : y ≤ maxL ns := (foldl_max ns _).1 y hy
theorem maxL_mem {ns : List Int} (h : 0 < ns.length) : maxL ns ∈ ns := by
  cases ns with
  | nil => simp at h
  | cons n ns =>
    rcases (foldl_max (n :: ns) n).2.2 with q | q
    · show List.foldl max n (n :: ns) ∈ n :: ns
      rw [q]; simp
    · exact q
theorem minL_le {ns : List Int} {y : Int} (hy : y ∈ ns) : minL ns ≤ y := (foldl_min ns _).1 y hy
theorem minL_mem {ns : List Int} (h : 0 < ns.length) : minL ns ∈ ns := by
  cases ns with
  | nil => simp at h
  | cons n ns =>
    rcases (foldl_min (n :: ns) n).2.2 with q | q
    · show List.foldl min n (n :: ns) ∈ n :: ns
      rw [q]; simp
    · exact q
theorem max_is {ns : List Int} {m : Int} (h1 : m ∈ ns) (h2 : ∀ y, y ∈ ns → y ≤ m) : m = maxL ns := by
  have := maxL_ge h1
  have := h2 _ (maxL_mem (List.length_pos_of_mem h1))
  omega
theorem min_is {ns : List Int} {m : Int} (h1 : m ∈ ns) (h2 : ∀ y, y ∈ ns → m ≤ y) : m = minL ns := by
  have := minL_le h1
  have := h2 _ (minL_mem (List.length_pos_of_mem h1))
  omega
end

/-! ## items -/
section
variable {X : Cx} {t : Th} {W : L2.WX} {g : G} {a b c e : Expr} {es : List Expr} {ma mb mc m : Ex} {ms : Exs} {pos : Pos}
theorem ix_V (hK : t.K = X.K) (hS : g.scr = t.S) (hu : X.A.units + 150 < cLine) : IxR X (rOp t (idxV g)) := by
  intro value slice pins s σ H x y v u Q I rx ry ⟨ρ, h, a, b, hr, va, vb, p⟩ hs
  unfold idxV at p
  split at p
  · split at p
    · rename_i n e
      cases va; cases vb
      rw [hS] at e
      exact ix_list value slice pins s σ H _ _ v u Q I rx ry ⟨_, _, _, _, rfl, rfl, hK ▸ hr.sc.sq, atI_map e, p.ok hr _ rfl⟩ hs
    · exact p.elim
  · split at p
    · split at p
      · rename_i hz _ n e
        cases va; cases vb
        exact ix_str value slice pins s σ H _ _ v u Q I rx ry ⟨_, _, _, rfl, rfl, hz, e, p.ok hr _ rfl⟩ hs
      · exact p.elim
    · exact p.elim
  · split at p
    · rename_i xs hk
      obtain ⟨l, rfl, l1, ys, hl, r1⟩ := hr.ref hk va
      split at p
      · split at p
        · rename_i w e
          cases vb
          obtain ⟨z, e1, r2⟩ := atI_pr r1 e
          exact ix_list value slice pins s σ H _ _ v u Q I rx ry ⟨_, _, _, _, rfl, rfl, SqL.of hl, e1, p.ok hr _ r2⟩ hs
        · exact p.elim
      · exact p.elim
    · rename_i xs hk
      obtain ⟨l, rfl, l1, ys, hl, r1⟩ := hr.ref hk va
      split at p
      · split at p
        · rename_i w e
          cases vb
          obtain ⟨z, e1, r2⟩ := atI_pr r1 e
          exact ix_tup value slice pins s σ H _ _ v u Q I rx ry ⟨_, _, _, _, rfl, rfl, SqT.of hl, e1, p.ok hr _ r2⟩ hs
        · exact p.elim
      · exact p.elim
    · rename_i xs hk
      obtain ⟨l, rfl, l1, ys, hl, r1⟩ := hr.ref hk va
      split at p
      · rename_i kk hkk
        split at p
        · rename_i w e
          have := key_vr hkk vb
          subst this
          obtain ⟨z, e1, r2⟩ := (kr_get (k := kk) r1).1 w e
          obtain rfl : v = Value.ref l := rx
          have gd : DGet H l (kV kk) (some z) := by rw [← e1]; exact DGet.k hl
          exact tail_any (dict_typeIs I gd) PySem.F.slot_dict_getitem.lookup (d_getItem (by omega) I gd ry fun w' s3 I3 rw' => ⟨z, H, I3, rw', p.ok hr _ r2⟩) hs
        · exact p.elim
      · exact p.elim
    · exact p.elim
  · exact p.elim
variable (O : Ok X t W)
include O
theorem e_idx (hS : g.scr = t.S) (ha : PE X a (tE t W (den g ma))) (hb : PE X b (tE t W (den g mb))) (hs : PlainIx b := by exact fun _ _ => rfl) : PE X (.Subscript a b pos) (tE t W (den g (.idx ma mb))) :=
  PEi (pe_ix (ix_V O.hK hS O.hu) ha hb hs) fun σ H Q q => two O (f := idxV g) (by unfold tE den at q; exact q) fun ρ h H x y u v hr ru rv p => ⟨ρ, h, x, y, hr, ru, rv, p.nox (nox_idx _ _ _ _)⟩
omit O in
theorem sl_V (hK : t.K = X.K) : SlR X (fun x l u H Q => ∃ ρ h a, HR t ρ h H ∧ VR t ρ a x ∧ Post t ρ H (slcV a l u h) (KV1 t Q) E0') := by
  intro pins s σ H x v vl vu lo hi sl Q I rx hs pl pu ⟨ρ, h, a, hr, va, p⟩
  unfold slcV at p
  split at p
  · split at p
    · cases va
      exact sl_str pins s σ H _ v vl vu lo hi sl Q I rx hs pl pu ⟨_, rfl, by assumption, p.ok hr _ rfl⟩
    · exact p.elim
  · split at p
    · rename_i xs hk
      obtain ⟨l, rfl, l1, ys, hl, r1⟩ := hr.ref hk va
      refine sl_list pins s σ H _ v vl vu lo hi sl Q I rx hs pl pu ⟨_, _, rfl, SqL.of hl, fun q hq => ?_⟩
      have rr := pr_take (HT.sIx xs.length xs.length hi - HT.sIx xs.length 0 lo) (pr_drop (HT.sIx xs.length 0 lo) r1)
      have := Post.new hr p hq (or_lst rr) _ (VR.new hr)
      unfold cutV
      rw [← r1.length]
      exact this
    · rename_i xs hk
      obtain ⟨l, rfl, l1, ys, hl, r1⟩ := hr.ref hk va
      refine sl_tupA pins s σ H _ v vl vu lo hi sl Q I rx hs pl pu ⟨_, _, rfl, SqT.of hl, fun hw => ?_, fun hw q hq => ?_⟩
      · rw [← r1.length] at hw
        rw [if_pos hw] at p
        exact p.ok hr _ va
      · rw [← r1.length] at hw
        rw [if_neg hw] at p
        have rr := pr_take (HT.sIx xs.length xs.length hi - HT.sIx xs.length 0 lo) (pr_drop (HT.sIx xs.length 0 lo) r1)
        have := Post.new hr p hq (or_tup rr) _ (VR.new hr)
        unfold cutV
        rw [← r1.length]
        exact this
    · exact p.elim
  · exact p.elim
theorem o_none : PO X none (tO t W (deno g .none)) := POi po_none fun σ H Q ⟨ρ, h, s, hr, sr, p⟩ => Post.ok hr p
theorem o_some (ha : PE X a (tE t W (den g ma))) : PO X (some a) (tO t W (deno g (.some ma))) := by
  refine POi (po_some ha) fun σ H Q ⟨ρ, h, s, hr, sr, p⟩ => ?_
  unfold deno at p
  refine ⟨ρ, h, s, hr, sr, (Post.bind p).imp fun x h1 ρ1 H1 e1 x1 p1 u ru => ?_⟩
  unfold intO at p1
  split at p1
  · cases ru
    exact ⟨_, rfl, p1.ok x1⟩
  · exact p1.elim
theorem e_slc {l u : Option Expr} {ml mu : Exo} {p2 : Pos} (ha : PE X a (tE t W (den g ma))) (hl : PO X l (tO t W (deno g ml))) (hu : PO X u (tO t W (deno g mu))) : PE X (.Subscript a (.Slice l u none p2) pos) (tE t W (den g (.slc ma ml mu))) := by
  refine PEi (pe_slice (sl_V O.hK) ha hl hu) fun σ H Q ⟨ρ, h, s, hr, sr, p⟩ => ?_
  unfold den at p
  exact ⟨ρ, h, s, hr, sr, (Post.bind p).imp fun x h1 ρ1 H1 e1 x1 p1 y ry => ⟨ρ1, h1, s, x1, SR.ext e1 sr, (Post.bind p1).imp fun i h2 ρ2 H2 e2 x2 p2 => ⟨ρ2, h2, s, x2, SR.ext (e1.trans e2) sr, (Post.bind p2).imp fun j h3 ρ3 H3 e3 x3 p3 =>
    ⟨ρ3, h3, x, x3, (ry.ext e2).ext e3, p3.nox (nox_slc _ _ _ _)⟩⟩⟩⟩

omit O in
theorem pr_rev {α β : Type} {F : α → β → Prop} : ∀ {xs : List α} {ys : List β}, Paired F xs ys → Paired F xs.reverse ys.reverse
  | _, _, .nil => .nil
  | _, _, .cons r t => by
    rw [List.reverse_cons, List.reverse_cons]
    exact pr_append (pr_rev t) (.cons r .nil)
theorem e_rev {k : Nat} {p1 p2 p3 : Pos} (ha : PE X a (tE t W (den g ma))) : PE X (.Subscript a (.Slice none none (some (.UnaryOp .USub (.Constant (.int 1) k p1) p2)) p3) pos) (tE t W (den g (.rev ma))) := by
  refine PEi (pe_revL ha) fun σ H Q ⟨ρ, h, s, hr, sr, p⟩ => ?_
  unfold den at p
  refine ⟨ρ, h, s, hr, sr, (Post.bind p).imp fun x h1 ρ1 H1 e1 x1 p1 y ry => ?_⟩
  unfold revV at p1
  split at p1
  · rename_i xs e
    obtain ⟨l, ys, rfl, hl, rr⟩ := lst_of x1 ry e
    exact ⟨l, ys, rfl, .of hl, fun q hq => p1 _ _ (Ext.new x1 hq) (x1.new hq (or_lst (pr_rev rr))) _ (VR.new x1)⟩
  · exact p1.elim

/-! ## built-in functions -/
omit O
def rCl (t : Th) (f : List Val → Heap → Res Val) : List V → Hp → VK → Prop := fun xs H Q => ∃ ρ h vs, HR t ρ h H ∧ VRs t ρ vs xs ∧ Post t ρ H (f vs h) (KV1 t Q) E0'
theorem vrs1 {ρ : List Addr} {v : Val} {ys : List V} (r : VRs t ρ [v] ys) : ∃ y, ys = [y] ∧ VR t ρ v y := by
  cases r with
  | cons r rs => cases rs; exact ⟨_, rfl, r⟩
theorem vrs2 {ρ : List Addr} {v w : Val} {ys : List V} (r : VRs t ρ [v, w] ys) : ∃ y z, ys = [y, z] ∧ VR t ρ v y ∧ VR t ρ w z := by
  cases r with
  | cons r rs =>
    obtain ⟨z, rfl, r2⟩ := vrs1 rs
    exact ⟨_, z, rfl, r, r2⟩
theorem cl_len (hK : t.K = X.K) (hS : g.scr = t.S) : CallR X (.builtin "len") (rCl t (pri g .len)) := by
  intro pins s σ H xs us Q I r ⟨ρ, h, vs, hr, rv, p⟩
  unfold pri at p
  dsimp only at p
  split at p
  · rename_i x
    obtain ⟨y, rfl, ry⟩ := vrs1 rv
    split at p
    · rename_i n e
      unfold lenV at e
      split at e
      · cases e; cases ry
        exact call_len_seq pins s σ H _ us Q I r ⟨_, _, rfl, .inl (hK ▸ hr.sc.sq), by rw [List.length_map, ← hS]; exact p.ok hr _ rfl⟩
      · split at e
        · cases e; cases ry
          exact call_len_str pins s σ H _ us Q I r ⟨_, rfl, by assumption, p.ok hr _ rfl⟩
        · cases e
      · split at e
        · rename_i zs hk
          cases e
          obtain ⟨l, rfl, l1, ys, hl, r1⟩ := hr.ref hk ry
          exact call_len_seq pins s σ H _ us Q I r ⟨_, _, rfl, .inl (SqL.of hl), by rw [← r1.length]; exact p.ok hr _ rfl⟩
        · rename_i zs hk
          cases e
          obtain ⟨l, rfl, l1, ys, hl, r1⟩ := hr.ref hk ry
          exact call_len_seq pins s σ H _ us Q I r ⟨_, _, rfl, .inr (SqT.of hl), by rw [← r1.length]; exact p.ok hr _ rfl⟩
        · rename_i zs hk
          cases e
          obtain ⟨l, rfl, l1, ys, hl, r1⟩ := hr.ref hk ry
          exact call_lenD pins s σ H _ us Q I r ⟨_, _, rfl, hl, by rw [← Paired.length r1]; exact p.ok hr _ rfl⟩
        · cases e
      · cases e
    · exact p.elim
  · exact p.elim
theorem reads_ints {h : PySem.Heap} : ∀ {ns : List Int} {vs : List Value}, Vals (ns.map V.int) vs → ReadsAll h vs (ns.map PyData.int) []
  | [], _, .nil => .nil
  | n :: ns, _, .cons ⟨k, e⟩ r => by subst e; exact .cons (.int n k) (reads_ints r)
theorem alike_ints (ns : List Int) : PySem.W.AlikeAll (ns.map PyData.int) := by
  refine ⟨fun x hx y hy => ?_, fun x hx => ?_⟩
  · obtain ⟨i, _, rfl⟩ := List.mem_map.mp hx
    obtain ⟨j, _, rfl⟩ := List.mem_map.mp hy
    rfl
  · obtain ⟨i, _, rfl⟩ := List.mem_map.mp hx
    exact nofun
theorem depth_ints : ∀ ns : List Int, PyData.depthAll (ns.map PyData.int) ≤ 1
  | [] => Nat.zero_le _
  | n :: ns => Nat.max_le.mpr ⟨by show (0:Nat) ≤ 1; decide, depth_ints ns⟩
theorem min_tup {pins : List (Addr × PySem.Obj)} {s : Shared} {σ : L2.St} {H : Hp} {a : Addr} {ns : List Int} {Q : VK} (hu : X.A.units + 150 < cLine) (hc : X.calm = true) (I : Inv X pins σ H s) (hs : SqT X.K H a (ns.map V.int)) (h0 : 0 < ns.length) (q : Q (.int (minL ns)) H) :
    wpAny (model X.prog X.w) X.A (PySem.call (.builtin "min") [.ref a]) (fun w s' => ∃ y H', Inv X pins σ H' s' ∧ RelV y w ∧ Q y H') X.xe s := by
  obtain ⟨its, rv, hl, _⟩ := I.tuple hs
  match ns, h0 with
  | n :: ns, _ =>
    have hd := depth_ints (n :: ns)
    refine PySem.W.min_tuple_data (I.ok.hd hc) hl (reads_ints (ns := n :: ns) (by simpa using rv)) (alike_ints (n :: ns)) (by show X.A.units + 1 + PyData.depthAll (List.map PyData.int (n :: ns)) < cLine; omega) fun i v h' tk bs _ r hk => ?_
    rw [PySem.W.minD_ints] at r
    cases r with
    | int _ k => exact ⟨.int _, H, I.kept hk, ⟨_, rfl⟩, by rw [show ns.foldl min n = minL (n :: ns) from by simp [minL]]; exact q⟩
theorem max_tup {pins : List (Addr × PySem.Obj)} {s : Shared} {σ : L2.St} {H : Hp} {a : Addr} {ns : List Int} {Q : VK} (hu : X.A.units + 150 < cLine) (hc : X.calm = true) (I : Inv X pins σ H s) (hs : SqT X.K H a (ns.map V.int)) (h0 : 0 < ns.length) (q : Q (.int (maxL ns)) H) :
    wpAny (model X.prog X.w) X.A (PySem.call (.builtin "max") [.ref a]) (fun w s' => ∃ y H', Inv X pins σ H' s' ∧ RelV y w ∧ Q y H') X.xe s := by
  obtain ⟨its, rv, hl, _⟩ := I.tuple hs
  match ns, h0 with
  | n :: ns, _ =>
    have hd := depth_ints (n :: ns)
    refine PySem.W.max_tuple_data (I.ok.hd hc) hl (reads_ints (ns := n :: ns) (by simpa using rv)) (alike_ints (n :: ns)) (by show X.A.units + 1 + PyData.depthAll (List.map PyData.int (n :: ns)) < cLine; omega) fun i v h' tk bs _ r hk => ?_
    rw [PySem.W.maxD_ints] at r
    cases r with
    | int _ k => exact ⟨.int _, H, I.kept hk, ⟨_, rfl⟩, by rw [show ns.foldl max n = maxL (n :: ns) from by simp [maxL]]; exact q⟩
theorem cl_max (hK : t.K = X.K) (hc : X.calm = true) (hu : X.A.units + 150 < cLine) : CallR X (.builtin "max") (rCl t (pri g .max)) := by
  intro pins s σ H xs us Q I r ⟨ρ, h, vs, hr, rv, p⟩
  unfold pri maxV at p
  dsimp only at p
  split at p
  · obtain ⟨y, z, rfl, ry, rz⟩ := vrs2 rv
    cases ry; cases rz
    exact call_max2 hc pins s σ H _ us Q I r ⟨_, _, rfl, p.ok hr _ rfl⟩
  · rename_i x
    obtain ⟨y, rfl, ry⟩ := vrs1 rv
    split at p
    · rename_i ns e
      obtain ⟨ws, e1, e2⟩ := Option.bind_eq_some_iff.mp e
      obtain ⟨l, ys, rfl, hl, r1⟩ := seq_of hr ry e1
      have := ints_vr r1 e2
      subst this
      split at p
      · rcases hl with hl | hl
        · exact cr_max hc pins s σ H _ us Q I r ⟨_, ns, rfl, SqL.of hl, by assumption, fun m h1 h2 => by rw [max_is h1 h2]; exact p.ok hr _ rfl⟩
        · rw [Vals.ref1 r]
          exact max_tup hu hc I (SqT.of hl) (by assumption) (p.ok hr _ rfl)
      · exact p.elim
    · exact p.elim
  · exact p.elim
theorem cl_min (hK : t.K = X.K) (hc : X.calm = true) (hu : X.A.units + 150 < cLine) : CallR X (.builtin "min") (rCl t (pri g .min)) := by
  intro pins s σ H xs us Q I r ⟨ρ, h, vs, hr, rv, p⟩
  unfold pri maxV at p
  dsimp only at p
  split at p
  · obtain ⟨y, z, rfl, ry, rz⟩ := vrs2 rv
    cases ry; cases rz
    exact call_min2 hc pins s σ H _ us Q I r ⟨_, _, rfl, p.ok hr _ rfl⟩
  · rename_i x
    obtain ⟨y, rfl, ry⟩ := vrs1 rv
    split at p
    · rename_i ns e
      obtain ⟨ws, e1, e2⟩ := Option.bind_eq_some_iff.mp e
      obtain ⟨l, ys, rfl, hl, r1⟩ := seq_of hr ry e1
      have := ints_vr r1 e2
      subst this
      split at p
      · rcases hl with hl | hl
        · exact cr_min hc pins s σ H _ us Q I r ⟨_, ns, rfl, SqL.of hl, by assumption, fun m h1 h2 => by rw [min_is h1 h2]; exact p.ok hr _ rfl⟩
        · rw [Vals.ref1 r]
          exact min_tup hu hc I (SqT.of hl) (by assumption) (p.ok hr _ rfl)
      · exact p.elim
    · exact p.elim
  · exact p.elim
theorem sum_tup {pins : List (Addr × Obj)} {s : Shared} {σ : L2.St} {H : Hp} {a : Addr} {ns : List Int} {Q : VK} (hc : X.calm = true) (I : Inv X pins σ H s) (hs : SqT X.K H a (ns.map V.int)) (q : Q (.int ns.sum) H) :
    wpAny (model X.prog X.w) X.A (PySem.call (.builtin "sum") [.ref a]) (fun w s' => ∃ y H', Inv X pins σ H' s' ∧ RelV y w ∧ Q y H') X.xe s := by
  obtain ⟨its, rv, hl, _⟩ := I.tuple hs
  have hi := rv.ints
  obtain ⟨xs, e⟩ := hi.allInts.items
  have hn : numsOf (PySem.intItems xs).toList = ns := by rw [← e]; exact hi.numsOf
  rw [nums_intItems] at hn
  rw [e] at hl
  have hh := I.ok.hd hc
  refine PySem.call_sum_walkG (PySem.W.iter_tupleW (A := X.A.in1) hh (show s.heap.IsTuple a (PySem.intItems xs) from hl) fun s₂ es W st hfp hnew hold => ?_)
  have hlt : a < s.heap.objs.size := by obtain ⟨_, e, _⟩ := hl; exact Heap.lt_size e
  subst es
  refine ⟨_, _, _, _, _, _, numAt xs, rfl, Walks.tuple (A := X.A.in1) hh _ a (Nat.ne_of_lt hlt) (PySem.intItems xs), st, hfp, (fun _ _ => intItems_at), fun h' tk t' hk => ?_⟩
  refine ⟨.int ns.sum, H, I.kept (t' := tk) fun b o eb => hk b o (hnew b o eb) (hold b o eb), ⟨t', ?_⟩, q⟩
  rw [preSum_eq, List.take_of_length_le (by simp [PySem.intItems]), hn]
theorem cl_sum (hK : t.K = X.K) (hc : X.calm = true) : CallR X (.builtin "sum") (rCl t (pri g .sum)) := by
  intro pins s σ H xs us Q I r ⟨ρ, h, vs, hr, rv, p⟩
  unfold pri at p
  dsimp only at p
  split at p
  · rename_i x
    obtain ⟨y, rfl, ry⟩ := vrs1 rv
    split at p
    · rename_i ns e
      obtain ⟨ws, e1, e2⟩ := Option.bind_eq_some_iff.mp e
      obtain ⟨l, ys, rfl, hl, r1⟩ := seq_of hr ry e1
      have := ints_vr r1 e2
      subst this
      rcases hl with hl | hl
      · exact cr_sum hc pins s σ H _ us Q I r ⟨_, ns, rfl, SqL.of hl, p.ok hr _ rfl⟩
      · rw [Vals.ref1 r]
        exact sum_tup hc I (SqT.of hl) (p.ok hr _ rfl)
    · exact p.elim
  · exact p.elim
theorem cl_all (hK : t.K = X.K) (hc : X.calm = true) : CallR X (.builtin "all") (rCl t (pri g .all)) := by
  intro pins s σ H xs us Q I r ⟨ρ, h, vs, hr, rv, p⟩
  unfold pri at p
  dsimp only at p
  split at p
  · rename_i x
    obtain ⟨y, rfl, ry⟩ := vrs1 rv
    split at p
    · rename_i ns e
      obtain ⟨ws, e1, e2⟩ := Option.bind_eq_some_iff.mp e
      obtain ⟨l, ys, rfl, hl, r1⟩ := lst_of hr ry e1
      have := bls_vr r1 e2
      subst this
      exact cr_all hc pins s σ H _ us Q I r ⟨_, ns, rfl, SqL.of hl, p.ok hr _ rfl⟩
    · exact p.elim
  · exact p.elim
theorem cl_any (hK : t.K = X.K) (hc : X.calm = true) : CallR X (.builtin "any") (rCl t (pri g .any)) := by
  intro pins s σ H xs us Q I r ⟨ρ, h, vs, hr, rv, p⟩
  unfold pri at p
  dsimp only at p
  split at p
  · rename_i x
    obtain ⟨y, rfl, ry⟩ := vrs1 rv
    split at p
    · rename_i ns e
      obtain ⟨ws, e1, e2⟩ := Option.bind_eq_some_iff.mp e
      obtain ⟨l, ys, rfl, hl, r1⟩ := lst_of hr ry e1
      have := bls_vr r1 e2
      subst this
      exact cr_any hc pins s σ H _ us Q I r ⟨_, ns, rfl, SqL.of hl, p.ok hr _ rfl⟩
    · exact p.elim
  · exact p.elim
theorem cl_int : CallR X (.type "int") (rCl t (pri g .int)) := by
  intro pins s σ H xs us Q I r ⟨ρ, h, vs, hr, rv, p⟩
  unfold pri at p
  dsimp only at p
  split at p
  · obtain ⟨y, rfl, ry⟩ := vrs1 rv
    cases ry
    exact call_int1 pins s σ H _ us Q I r (.inl ⟨_, rfl, p.ok hr _ rfl⟩)
  · obtain ⟨y, rfl, ry⟩ := vrs1 rv
    cases ry
    exact call_int1 pins s σ H _ us Q I r (.inr ⟨_, rfl, p.ok hr _ rfl⟩)
  · obtain ⟨y, rfl, ry⟩ := vrs1 rv
    cases ry
    split at p
    · rename_i n e
      split at p
      · exact call_int_str pins s σ H _ us Q I r ⟨_, _, rfl, e, by assumption, p.ok hr _ rfl⟩
      · exact p.elim
    · exact p.elim
  · exact p.elim
theorem call_strS : CallR X (.type "str") (fun xs H Q => ∃ a, xs = [.str a] ∧ Q (.str a) H) := by
  intro pins s σ H xs us Q I r ⟨a, ex, q⟩
  subst ex
  cases r with
  | cons r1 rs =>
    cases rs
    obtain ⟨t, rfl⟩ := r1
    exact PySem.P.str_of_str ⟨.str a, H, I, ⟨t, rfl⟩, q⟩
theorem cl_str : CallR X (.type "str") (rCl t (pri g .str)) := by
  intro pins s σ H xs us Q I r ⟨ρ, h, vs, hr, rv, p⟩
  unfold pri at p
  dsimp only at p
  split at p
  · obtain ⟨y, rfl, ry⟩ := vrs1 rv
    cases ry
    split at p
    · exact call_str_int pins s σ H _ us Q I r ⟨_, rfl, by assumption, p.ok hr _ rfl⟩
    · exact p.elim
  · obtain ⟨y, rfl, ry⟩ := vrs1 rv
    cases ry
    exact call_strS pins s σ H _ us Q I r ⟨_, rfl, p.ok hr _ rfl⟩
  · exact p.elim
theorem cl_bool : CallR X (.type "bool") (rCl t (pri g .bool)) := by
  intro pins s σ H xs us Q I r ⟨ρ, h, vs, hr, rv, p⟩
  unfold pri at p
  dsimp only at p
  split at p
  · obtain ⟨y, rfl, ry⟩ := vrs1 rv
    cases ry
    exact call_bool1 pins s σ H _ us Q I r (.inl ⟨_, rfl, p.ok hr _ rfl⟩)
  · obtain ⟨y, rfl, ry⟩ := vrs1 rv
    cases ry
    exact call_bool1 pins s σ H _ us Q I r (.inr ⟨_, rfl, p.ok hr _ rfl⟩)
  · exact p.elim
theorem cl_list (hK : t.K = X.K) : CallR X (.type "list") (rCl t (pri g .list)) := by
  intro pins s σ H xs us Q I r ⟨ρ, h, vs, hr, rv, p⟩
  unfold pri at p
  dsimp only at p
  split at p
  · rename_i x
    obtain ⟨y, rfl, ry⟩ := vrs1 rv
    split at p
    · rename_i ws e
      obtain ⟨l, ys, rfl, hl, r1⟩ := seq_of hr ry e
      exact call_list_of pins s σ H _ us Q I r ⟨l, ys, rfl, hl.imp SqL.of SqT.of, fun q hq => Post.new hr p hq (or_lst r1) _ (VR.new hr)⟩
    · exact p.elim
  · exact p.elim
theorem cl_tuple (hK : t.K = X.K) : CallR X (.type "tuple") (rCl t (pri g .tuple)) := by
  intro pins s σ H xs us Q I r ⟨ρ, h, vs, hr, rv, p⟩
  unfold pri at p
  dsimp only at p
  split at p
  · rename_i x
    obtain ⟨y, rfl, ry⟩ := vrs1 rv
    split at p
    · split at p
      · rename_i zs hk
        obtain ⟨l, rfl, l1, ys, hl, r1⟩ := hr.ref hk ry
        exact call_tuple_of pins s σ H _ us Q I r ⟨l, ys, rfl, .inl ⟨SqL.of hl, fun q hq => Post.new hr p hq (or_tup r1) _ (VR.new hr)⟩⟩
      · rename_i zs hk
        obtain ⟨l, rfl, l1, ys, hl, r1⟩ := hr.ref hk ry
        exact call_tuple_of pins s σ H _ us Q I r ⟨l, ys, rfl, .inr ⟨SqT.of hl, p.ok hr _ ry⟩⟩
      · exact p.elim
    · exact p.elim
  · exact p.elim
theorem kitB_is {a b : String} (ha : a = "NoneType" ∨ a = "bool" ∨ a = "int" ∨ a = "str" ∨ a = "list" ∨ a = "tuple" ∨ a = "dict") (hb : okTy b = true) : kitB a b = some (isTy a b) := by
  have hb : b = "int" ∨ b = "bool" ∨ b = "str" ∨ b = "list" ∨ b = "tuple" ∨ b = "dict" := by
    unfold okTy at hb
    simpa only [Bool.or_eq_true, beq_iff_eq, or_assoc] using hb
  rcases ha with rfl | rfl | rfl | rfl | rfl | rfl | rfl <;> rcases hb with rfl | rfl | rfl | rfl | rfl | rfl <;> decide +kernel
theorem ty_of {ρ : List Addr} {h : Heap} {H : Hp} {v : Val} {y : V} {s : String} (x : HR t ρ h H) (r : VR t ρ v y) (e : tyO h v = some s) : TyX t.K H y (.type s) ∧ (s = "NoneType" ∨ s = "bool" ∨ s = "int" ∨ s = "str" ∨ s = "list" ∨ s = "tuple" ∨ s = "dict") := by
  unfold tyO at e
  split at e
  · cases e; cases r; exact ⟨.base .non, by simp⟩
  · cases e; cases r; exact ⟨.base (.bl _), by simp⟩
  · cases e; cases r; exact ⟨.base (.int _), by simp⟩
  · cases e; cases r; exact ⟨.base (.str _), by simp⟩
  · split at e
    · rename_i zs hk
      obtain ⟨l, rfl, l1, ys, hl, r1⟩ := x.ref hk r
      cases e; exact ⟨.base (.lst hl), by simp⟩
    · rename_i zs hk
      obtain ⟨l, rfl, l1, ys, hl, r1⟩ := x.ref hk r
      cases e; exact ⟨.base (.tup hl), by simp⟩
    · rename_i zs hk
      obtain ⟨l, rfl, l1, ys, hl, r1⟩ := x.ref hk r
      cases e; exact ⟨.base (.dK hl), by simp⟩
    · cases e
  · cases e
theorem tys_of {K : PySem.W.Frag} {ρ : List Addr} {s : String} (hs : s = "NoneType" ∨ s = "bool" ∨ s = "int" ∨ s = "str" ∨ s = "list" ∨ s = "tuple" ∨ s = "dict") : ∀ {ts : List Val} {ys : List V} {us : List String}, VRs t ρ ts ys → tysO ts = some us →
    Paired ClsV ys (us.map Value.type) ∧ PySem.W.kitAny K (.type s) (us.map Value.type) = some (us.any (isTy s))
  | _, _, _, .nil, e => by cases e; exact ⟨.nil, rfl⟩
  | x :: xs, y :: ys, us, .cons r rs, e => by
    cases x with
    | ty i =>
      unfold tysO at e
      split at e
      · rename_i hi
        obtain ⟨vs, e1, rfl⟩ := Option.map_eq_some_iff.mp e
        obtain ⟨h1, h2⟩ := tys_of (K := K) hs rs e1
        cases r
        refine ⟨.cons (.ty i) h1, ?_⟩
        rw [List.map_cons]
        refine kitAny_cons (kit_ty (kitB_is hs hi)) (fun hb => ?_) fun hb => ?_
        · rw [List.any_cons, hb]; simpa using h2
        · rw [List.any_cons, hb]; rfl
      · cases e
    | _ => simp [tysO] at e
theorem cl_isinst (hK : t.K = X.K) : CallR X (.builtin "isinstance") (rCl t (pri g .isinst)) := by
  intro pins s σ H xs us Q I r ⟨ρ, h, vs, hr, rv, p⟩
  unfold pri at p
  dsimp only at p
  split at p
  · obtain ⟨y, z, rfl, ry, rz⟩ := vrs2 rv
    cases rz
    split at p
    · rename_i ss e
      split at p
      · rename_i ho
        obtain ⟨h1, h2⟩ := ty_of hr ry e
        exact call_isi pins s σ H _ us Q I r ⟨_, _, _, _, _, rfl, .ty _, hK ▸ h1, kit_ty (kitB_is h2 ho), p.ok hr _ rfl⟩
      · exact p.elim
    · exact p.elim
  · obtain ⟨y, z, rfl, ry, rz⟩ := vrs2 rv
    split at p
    · rename_i ss ts e hk
      split at p
      · rename_i ws ew
        obtain ⟨l, rfl, l1, ys, hl, r1⟩ := hr.ref hk rz
        obtain ⟨h1, h2⟩ := ty_of hr ry e
        obtain ⟨h3, h4⟩ := tys_of (K := X.K) h2 r1 ew
        exact call_isiT pins s σ H _ us Q I r ⟨_, _, _, _, _, _, rfl, hl, h3, hK ▸ h1, h4, p.ok hr _ rfl⟩
      · exact p.elim
    · exact p.elim
  · exact p.elim
theorem shown_str {x : Str} : PyData.shown (.str x) = reprText x := by simp [PyData.shown]
theorem key_reads {k : Key} {v : Value} {h : PySem.Heap} (hk : keyIs k v = true) : Reads h v (keyD k) [] := by
  rcases keyIs_shape hk with ⟨i, tk, rfl, rfl⟩ | ⟨x, tk, rfl, rfl⟩
  · exact .int i tk
  · exact .str x tk
/-- the data that a value is, read in the heap; dicts too -/
theorem rd_reads {pins : List (Addr × PySem.Obj)} {σ : L2.St} {H : Hp} {s : Shared} {ρ : List Addr} {h : Heap} (I : Inv X pins σ H s) (hr : HR t ρ h H) (hsm : H sysModules = none) :
    ∀ (n : Nat) (v : Val) (y : V) (d : PyData) (u : Value), rd n h v = some d → VR t ρ v y → RelV y u → ∃ as, Reads s.heap u d as ∧ sysModules ∉ as
  | n, .non, y, d, u, e, r, ru => by cases n <;> (cases e; cases r; cases ru; exact ⟨_, .none, by simp⟩)
  | n, .bl b, y, d, u, e, r, ru => by cases n <;> (cases e; cases r; cases ru; exact ⟨_, .bool _, by simp⟩)
  | n, .int i, y, d, u, e, r, ru => by cases n <;> (cases e; cases r; obtain ⟨tk, rfl⟩ := ru; exact ⟨_, .int _ _, by simp⟩)
  | n, .str z, y, d, u, e, r, ru => by cases n <;> (cases e; cases r; obtain ⟨tk, rfl⟩ := ru; exact ⟨_, .str _ _, by simp⟩)
  | 0, .ref k, y, d, u, e, _, _ => by cases e
  | n + 1, .ref k, y, d, u, e, r, ru => by
    have all : ∀ {xs : List Val} {ys : List V} {us : List Value} {ds : List PyData}, mapO (rd n h) xs = some ds → VRs t ρ xs ys → Vals ys us → ∃ as, ReadsAll s.heap us ds as ∧ sysModules ∉ as := by
      intro xs
      induction xs with
      | nil =>
        intro ys us ds e r ru
        cases e; cases r; cases ru
        exact ⟨_, .nil, by simp⟩
      | cons x xs ih =>
        intro ys us ds e r ru
        obtain ⟨z, zs, e1, e2, rfl⟩ := mapO_cons e
        cases r with
        | cons r rs =>
          cases ru with
          | cons q qs =>
            obtain ⟨as, h1, h2⟩ := rd_reads I hr hsm n _ _ _ _ e1 r q
            obtain ⟨bs, h3, h4⟩ := ih e2 rs qs
            exact ⟨_, .cons h1 h3, by simp [h2, h4]⟩
    have kvs : ∀ {xs : List (Key × Val)} {ys : List (Key × V)} {vs : List (Key × Value)} {es : List DictEntry} {ds : List (PyData × PyData)}, mapO (fun p : Key × Val => (rd n h p.2).map fun d => (keyD p.1, d)) xs = some ds → KRs t ρ xs ys → KV ys vs → Pairs (mixKind X.prog X.w) es vs →
        (∃ as, ReadsAll s.heap (es.map (·.key)) (ds.map (·.1)) as ∧ sysModules ∉ as) ∧ ∃ as, ReadsAll s.heap (es.map (·.val)) (ds.map (·.2)) as ∧ sysModules ∉ as := by
      intro xs
      induction xs with
      | nil =>
        intro ys vs es ds e r q ps
        cases e; cases r; cases q; cases ps
        exact ⟨⟨_, .nil, by simp⟩, _, .nil, by simp⟩
      | cons x xs ih =>
        intro ys vs es ds e r q ps
        obtain ⟨z, zs, e1, e2, rfl⟩ := mapO_cons e
        obtain ⟨d1, e3, rfl⟩ := Option.map_eq_some_iff.mp e1
        cases r with
        | cons r rs =>
          cases q with
          | cons q qs =>
            cases ps with
            | cons p1 p2 ps =>
              obtain ⟨⟨as, h1, h2⟩, bs, h3, h4⟩ := ih e2 rs qs ps
              obtain ⟨cs, h5, h6⟩ := rd_reads I hr hsm n _ _ _ _ e3 r.2 q.2
              have kk := key_reads (h := s.heap) (show keyIs _ _ = true from p1)
              rw [← q.1, ← r.1] at kk
              rw [← p2] at h5
              exact ⟨⟨_, .cons kk h1, by simpa using h2⟩, _, .cons h5 h3, by simp [h6, h4]⟩
    have ne : ∀ {a : Addr} {o : HO}, H a = some o → sysModules ≠ a := fun {a o} z q => by
      rw [← q, hsm] at z
      cases z
    unfold rd at e
    split at e
    · rename_i xs hk
      obtain ⟨ds, e1, rfl⟩ := Option.map_eq_some_iff.mp e
      obtain ⟨a, rfl, _, ys, hy, rr⟩ := hr.ref hk r
      cases ru
      obtain ⟨its, rv, ⟨o, m, ho, hc, _, hd⟩, _⟩ := I.list (.of hy)
      obtain ⟨as, h1, h2⟩ := all e1 rr rv
      exact ⟨_, .list ho hc hd h1, by simp [h2, ne hy]⟩
    · rename_i xs hk
      obtain ⟨ds, e1, rfl⟩ := Option.map_eq_some_iff.mp e
      obtain ⟨a, rfl, _, ys, hy, rr⟩ := hr.ref hk r
      cases ru
      obtain ⟨its, rv, ⟨o, ho, hc, m, hd⟩, _⟩ := I.tuple (.of hy)
      obtain ⟨as, h1, h2⟩ := all e1 rr rv
      exact ⟨_, .tuple ho hc hd h1, h2⟩
    · rename_i xs hk
      obtain ⟨ds, e1, rfl⟩ := Option.map_eq_some_iff.mp e
      obtain ⟨a, rfl, _, ys, hy, rr⟩ := hr.ref hk r
      cases ru
      obtain ⟨_, _, vs, kv, o, es, ep, ho, hx, hd, _, ps, _⟩ := dk_of I.hok hy
      obtain ⟨⟨as, h1, h2⟩, bs, h3, h4⟩ := kvs e1 rr kv ps
      exact ⟨_, .dict ho hx.1 hd h1 h3, by simp [h2, h4, ne hy]⟩
    · cases e
  | n, .ty s, y, d, _, e, r, _ => by cases n <;> cases e
  | n, .glo s, y, d, _, e, r, _ => by cases n <;> cases e
  | n, .scr, y, d, _, e, r, _ => by cases n <;> cases e
/-- repr of data -/
theorem cl_repr (hK : t.K = X.K) (hu : X.A.units + 150 < cLine) (hg : X.A.guards = some []) (sm : ∃ mm, X.base.Ns sysModules mm) : CallR X (.builtin "repr") (rCl t (pri g .repr)) := by
  intro pins s σ H xs us Q I r ⟨ρ, h, vs, hr, rv, p⟩
  obtain ⟨mm, om, _, _, hom, _⟩ := sm
  have hsm := (I.bs _ _ hom).2
  unfold pri at p
  dsimp only at p
  split at p
  · rename_i x
    obtain ⟨y, rfl, ry⟩ := vrs1 rv
    split at p
    · rename_i d e
      split at p
      · rename_i hc
        obtain ⟨h2, h3, h4⟩ := hc
        have q := p.ok hr _ (show VR t ρ (.str d.shown) (.str d.shown) from rfl)
        cases r with
        | @cons _ u0 _ _ r1 rs =>
          cases rs
          obtain ⟨as, rr, hno⟩ := rd_reads I hr hsm _ _ _ _ _ e ry r1
          cases x with
          | non =>
            cases e; cases ry; cases r1
            simp only [PyData.shown] at q
            exact PySem.P.repr_of_none ⟨.str _, H, I.tok _, ⟨_, rfl⟩, q⟩
          | bl b =>
            cases e; cases ry; cases r1
            simp only [PyData.shown] at q
            exact PySem.P.repr_of_bool ⟨.str _, H, I.tok _, ⟨_, rfl⟩, q⟩
          | int i =>
            cases e; cases ry
            obtain ⟨tk, rfl⟩ := r1
            simp only [PyData.shown] at q
            exact PySem.P.repr_of_int (by simpa [PyData.showable] using h2) ⟨.str _, H, I.tok _, ⟨_, rfl⟩, q⟩
          | str z =>
            cases e; cases ry
            obtain ⟨tk, rfl⟩ := r1
            simp only [PyData.shown] at q h4
            exact PySem.P.repr_of_str ⟨.str _, H, I.tok _, ⟨_, rfl⟩, q⟩ h4
          | ref k =>
            obtain ⟨a, _, rfl⟩ := ry
            cases r1
            exact PySem.repr_of_reads' rr h2 (fun _ => hno) hg (by omega) (fun _ _ z => z) (fun h' u tk hk => ⟨.str _, H, I.kept hk, ⟨_, rfl⟩, q⟩) h4
          | ty _ => cases e
          | glo _ => cases e
          | scr => cases e
      · exact p.elim
    · exact p.elim
  · exact p.elim
theorem e_pri {p : Pr} {x : Str} {id : String} {q : Pos} (O : Ok X t W) (hc : CallR X (.builtin id) (rCl t (pri g p))) (hv : bootBuiltins x = some (.builtin id)) (hm : X.mg x = none) (ha : PA X (e :: es) (tA t W (dens g ms))) (hg : Gl X x := by rfl)
    (hn : x ≠ "__name__" := by decide) (hdb : (x == ("__debug__" : Str)) = false := by decide) (he : starEach (e :: es) X.env = (false, eval e X.env) :: starEach es X.env := by rfl) (hpl : (backTo pos (starEach es X.env)).any (·.1) = false := by rfl) :
    PE X (.Call (.Name x q) (e :: es) [] pos) (tE t W (den g (.pri p ms))) := by
  refine PEi (pe_callB hc hg hm hv ha hn hdb he hpl) fun σ H Q ⟨ρ, h, s, hr, sr, p⟩ => ?_
  unfold den at p
  exact ⟨ρ, h, s, hr, sr, (Post.bind p).imp fun x h1 ρ1 H1 e1 x1 p1 u ru => ⟨ρ1, h1, x, x1, ru, p1.nox (nox_pri _ _ _ _)⟩⟩
theorem e_prt {p : Pr} {x : Str} {id : String} {q : Pos} (O : Ok X t W) (hc : CallR X (.type id) (rCl t (pri g p))) (hv : bootBuiltins x = some (.type id)) (hm : X.mg x = none) (ha : PA X (e :: es) (tA t W (dens g ms))) (hg : Gl X x := by rfl)
    (hn : x ≠ "__name__" := by decide) (hdb : (x == ("__debug__" : Str)) = false := by decide) (he : starEach (e :: es) X.env = (false, eval e X.env) :: starEach es X.env := by rfl) (hpl : (backTo pos (starEach es X.env)).any (·.1) = false := by rfl) :
    PE X (.Call (.Name x q) (e :: es) [] pos) (tE t W (den g (.pri p ms))) := by
  refine PEi (pe_callTy hc hg hm hv ha hn hdb he hpl) fun σ H Q ⟨ρ, h, s, hr, sr, p⟩ => ?_
  unfold den at p
  exact ⟨ρ, h, s, hr, sr, (Post.bind p).imp fun x h1 ρ1 H1 e1 x1 p1 u ru => ⟨ρ1, h1, x, x1, ru, p1.nox (nox_pri _ _ _ _)⟩⟩
end
end Mi


/-! # Mi5Z: zip of two things of any kind, at the library's level -/
namespace Mi
open PySem PySem.Spec PyProof.Rows L2
/-- a list's or a tuple's walker; the thing itself -/
def AIt (t : Bool) (h : PySem.Heap) (i l : Addr) (k : Nat) : Prop := if t then h.IsTupleIter i l k else h.IsListIter i l k
def ASq (t : Bool) (h : PySem.Heap) (l : Addr) (xs : Array Value) : Prop := if t then h.IsTuple l xs else h.IsList l xs
section
variable {t : Bool} {h h' : PySem.Heap} {i l : Addr} {k : Nat} {xs : Array Value}
theorem AIt.ext {c : Addr} (x : AIt t h i l k) (s : PySem.Heap.ExtBut c h h') (n : i ≠ c) : AIt t h' i l k := by
  cases t
  · exact PySem.Heap.IsListIter.extBut x s n
  · exact PySem.Heap.IsTupleIter.extBut x s n
theorem ASq.ext {c : Addr} (x : ASq t h l xs) (s : PySem.Heap.ExtBut c h h') (n : l ≠ c) : ASq t h' l xs := by
  cases t
  · exact PySem.Heap.IsList.extBut x s n
  · exact PySem.Heap.IsTuple.extBut x s n
theorem AIt.obj (x : AIt t h i l k) : ∃ o, h.get? i = some o := by
  cases t
  · obtain ⟨o, e, _⟩ := x; exact ⟨o, e⟩
  · obtain ⟨o, e, _⟩ := x; exact ⟨o, e⟩
theorem AIt.to (x : AIt t h i l k) (f : ∀ o, h.get? i = some o → h'.get? i = some o) : AIt t h' i l k := by
  cases t
  · exact PySem.Heap.IsListIter.at x f
  · exact PySem.Heap.IsTupleIter.at x f
end
section
variable {prog : Program} {w : World} {A : Around} {E : Value → Shared → Prop} {s : Shared}
theorem next_any {t : Bool} {it l : Addr} {i : Nat} {items : Array Value} {x : Value} {Q : Value → Shared → Prop} (hit : AIt t s.heap it l i) (hl : ASq t s.heap l items) (hx : items[i]? = some x)
    (hQ : ∀ h', AIt t h' it l (i + 1) → PySem.Heap.SameBut it s.heap h' → Q x { s with heap := h' }) : wpAny (model prog w) A (Builtin.SmallTypes.nextOf (.ref it)) Q E s := by
  cases t
  · exact wpAny_nextOf_list_item hit hl hx hQ
  · exact RZ.nextOf_tuple_item hit hl hx hQ
theorem next_none {t : Bool} {it l : Addr} {i : Nat} {items : Array Value} {Q : Value → Shared → Prop} (hh : A.handled = none) (hit : AIt t s.heap it l i) (hl : ASq t s.heap l items) (hx : items[i]? = none)
    (hE : ∀ h' e, PySem.Heap.ExtBut it s.heap h' → (∃ o, h'.get? e = some o ∧ o.cls = .type "StopIteration") → E (.ref e) { s with heap := h' }) : wpAny (model prog w) A (Builtin.SmallTypes.nextOf (.ref it)) Q E s := by
  cases t
  · exact wpAny_nextOf_list_end hh hit hl hx hE
  · exact RZ.nextOf_tuple_end hh hit hl hx hE
theorem zipA_item {t u : Bool} {z TI TO i1 i2 l1 l2 : Addr} {k1 k2 : Nat} {xs ys : Array Value} {x y a b : Value} {Q : Value → Shared → Prop} (D : ZipApart z TI TO i1 i2 l1 l2) (hz : IsZip s.heap z TI TO .none) (hTI : IsPair s.heap TI (.ref i1) (.ref i2)) (hTO : IsPair s.heap TO a b)
    (h1 : AIt t s.heap i1 l1 k1) (h2 : AIt u s.heap i2 l2 k2) (q1 : ASq t s.heap l1 xs) (q2 : ASq u s.heap l2 ys) (hx : xs[k1]? = some x) (hy : ys[k2]? = some y)
    (hQ : ∀ h', IsZip h' z TI TO (rawInt s.heap.objs.size) → IsPair h' TO x y → AIt t h' i1 l1 (k1 + 1) → AIt u h' i2 l2 (k2 + 1) → IsPair h' s.heap.objs.size x y → h'.objs.size = s.heap.objs.size + 1 →
      (∀ c o, c ≠ z → c ≠ TO → c ≠ i1 → c ≠ i2 → s.heap.get? c = some o → h'.get? c = some o) → Q (.ref s.heap.objs.size) { s with heap := h' }) :
    wpAny (model prog w) A (Builtin.«zip.__next__» ⟨[.ref z], []⟩) (fun fin s' => ∃ v, fin = .done (.ret v) ∧ Q v s') E s := by
  show wpAny (model prog w) A (field (.ref z) 2 >>= _) _ E s
  refine wpAny_bind (wpAny_field hz rfl (x := .bool false) rfl ?_)
  show wpAny (model prog w) A (field (.ref z) 3 >>= _) _ E s
  refine wpAny_bind (wpAny_field hz rfl (x := .ref TI) rfl (wpAny_bind (wpAny_seqItems hTI rfl ?_)))
  show wpAny (model prog w) A (Builtin.SmallTypes.ownedTupleIsFree (.ref z) >>= _) _ E s
  (refine wpAny_bind ?_; unfold Builtin.SmallTypes.ownedTupleIsFree; refine wpAny_bind (wpAny_field hz rfl (x := .none) rfl (wpAny_pure ?_)))
  simp only [if_true]
  refine wpAny_bind (wpAny_rule (wpAny_bind (wpAny_field hz rfl (x := .ref TO) rfl (wpAny_bind (wpAny_setField_rec hz (by simp) fun g1 hz1 s1 => ?_)))))
  have hz1 : IsZip g1 z TI TO .ellipsis := hz1
  have r1 := s1.extBut
  refine wpAny_bind ?_
  simp only [List.zipIdx_cons, List.zipIdx_nil, List.forIn_cons, List.forIn_nil]
  refine wpAny_bind (wpAny_bind (wpAny_onRaise ?_))
  show wpAny (model prog w) _ (Builtin.SmallTypes.nextOf (.ref i1) >>= _) _ _ _
  refine wpAny_bind (next_any (h1.ext r1 D.i1z) (q1.ext r1 D.l1z) hx fun g2 w2 s2 => wpAny_pure ?_)
  have r2 := s2.extBut
  have p2 : IsPair g2 TO a b := r2 _ _ D.TOi1 (r1 _ _ D.TOz hTO)
  refine wpAny_bind (wpAny_seqItems p2 rfl (wpAny_bind (wpAny_updateSeq_pair p2 fun g3 p3 s3 => ?_)))
  have p3 : IsPair g3 TO x b := p3
  have r3 := s3.extBut
  refine wpAny_bind (wpAny_letGo (wpAny_pure (wpAny_bind (wpAny_bind (wpAny_onRaise ?_)))))
  show wpAny (model prog w) _ (Builtin.SmallTypes.nextOf (.ref i2) >>= _) _ _ _
  refine wpAny_bind (next_any (((h2.ext r1 D.i2z).ext r2 D.i12.symm).ext r3 D.TOi2.symm) (((q2.ext r1 D.l2z).ext r2 D.l2i1).ext r3 D.l2TO) hy fun g4 w4 s4 => wpAny_pure ?_)
  have r4 := s4.extBut
  have p4 : IsPair g4 TO x b := r4 _ _ D.TOi2 p3
  refine wpAny_bind (wpAny_seqItems p4 rfl (wpAny_bind (wpAny_updateSeq_pair p4 fun g5 p5 s5 => ?_)))
  have p5 : IsPair g5 TO x y := p5
  have r5 := s5.extBut
  refine wpAny_bind (wpAny_letGo (wpAny_pure (wpAny_pure (wpAny_bind (wpAny_seqItems p5 rfl (wpAny_bind (wpAny_newTuple ?_)))))))
  have e5 : g5.objs.size = s.heap.objs.size := by rw [s5.1, s4.1, s3.1, s2.1, s1.1]
  have hz5 : IsZip g5 z TI TO .ellipsis := r5 _ _ D.TOz.symm (r4 _ _ D.i2z.symm (r3 _ _ D.TOz.symm (r2 _ _ D.i1z.symm hz1)))
  have k5 : ∀ c o, c ≠ z → c ≠ TO → c ≠ i1 → c ≠ i2 → s.heap.get? c = some o → g5.get? c = some o := fun c o c1 c2 c3 c4 e => r5 _ _ c2 (r4 _ _ c4 (r3 _ _ c2 (r2 _ _ c3 (r1 _ _ c1 e))))
  have v1 : AIt t g5 i1 l1 (k1 + 1) := ((w2.ext r3 D.TOi1.symm).ext r4 D.i12).ext r5 D.TOi1.symm
  have v2 : AIt u g5 i2 l2 (k2 + 1) := w4.ext r5 D.TOi2.symm
  have zlt : z < g5.objs.size := PySem.Heap.lt_size hz5
  show wpAny (model prog w) _ (Builtin.SmallTypes.ownedTupleHandOut (.ref z) (.ref g5.objs.size) >>= _) _ _ _
  (refine wpAny_bind ?_; unfold Builtin.SmallTypes.ownedTupleHandOut)
  have hz6 : IsZip (g5.push { cls := .type "tuple", data := .seq #[x, y] }) z TI TO .ellipsis := PySem.Heap.get?_push_of_some _ hz5
  refine wpAny_bind (wpAny_setField_rec hz6 (by simp) fun g7 hz7 s7 => ?_)
  have hz7 : IsZip g7 z TI TO (rawInt g5.objs.size) := hz7
  refine wpAny_setField_rec hz7 (by simp) fun g8 hz8 s8 => ?_
  have hz8 : IsZip g8 z TI TO (rawInt g5.objs.size) := hz8
  have up : ∀ c o, c ≠ z → g5.get? c = some o → g8.get? c = some o := fun c o c1 e => s8.extBut _ _ c1 (s7.extBut _ _ c1 (PySem.Heap.get?_push_of_some _ e))
  have nz : g5.objs.size ≠ z := Nat.ne_of_gt zlt
  have pT : IsPair g8 g5.objs.size x y := s8.extBut _ _ nz (s7.extBut _ _ nz (PySem.Heap.get?_push_size _ rfl))
  have e8 : g8.objs.size = g5.objs.size + 1 := by rw [s8.1, s7.1, PySem.Heap.size_push]
  rw [e5] at hz8 pT e8
  refine wpAny_pure ⟨_, rfl, ?_⟩
  show Q (.ref g5.objs.size) _
  rw [e5]
  exact hQ g8 hz8 (up _ _ D.TOz p5) (v1.to fun o e => up _ o D.i1z e) (v2.to fun o e => up _ o D.i2z e) pT e8 fun c o c1 c2 c3 c4 e => up c o c1 (k5 c o c1 c2 c3 c4 e)
theorem zipA_end {t u : Bool} {z TI TO i1 i2 l1 l2 : Addr} {k1 k2 : Nat} {xs ys : Array Value} {a b : Value} {Q : Fin → Shared → Prop} (hh : A.handled = none) (D : ZipApart z TI TO i1 i2 l1 l2) (hz : IsZip s.heap z TI TO .none) (hTI : IsPair s.heap TI (.ref i1) (.ref i2)) (hTO : IsPair s.heap TO a b)
    (h1 : AIt t s.heap i1 l1 k1) (h2 : AIt u s.heap i2 l2 k2) (q1 : ASq t s.heap l1 xs) (q2 : ASq u s.heap l2 ys) (hend : xs[k1]? = none ∨ ys[k2]? = none)
    (hE : ∀ h' e, (∀ c o, c ≠ z → c ≠ TO → c ≠ i1 → c ≠ i2 → s.heap.get? c = some o → h'.get? c = some o) → (∃ o, h'.get? e = some o ∧ o.cls = .type "StopIteration") → E (.ref e) { s with heap := h' }) :
    wpAny (model prog w) A (Builtin.«zip.__next__» ⟨[.ref z], []⟩) Q E s := by
  show wpAny (model prog w) A (field (.ref z) 2 >>= _) _ E s
  refine wpAny_bind (wpAny_field hz rfl (x := .bool false) rfl ?_)
  show wpAny (model prog w) A (field (.ref z) 3 >>= _) _ E s
  refine wpAny_bind (wpAny_field hz rfl (x := .ref TI) rfl (wpAny_bind (wpAny_seqItems hTI rfl ?_)))
  show wpAny (model prog w) A (Builtin.SmallTypes.ownedTupleIsFree (.ref z) >>= _) _ E s
  (refine wpAny_bind ?_; unfold Builtin.SmallTypes.ownedTupleIsFree; refine wpAny_bind (wpAny_field hz rfl (x := .none) rfl (wpAny_pure ?_)))
  simp only [if_true]
  refine wpAny_bind (wpAny_rule (wpAny_bind (wpAny_field hz rfl (x := .ref TO) rfl (wpAny_bind (wpAny_setField_rec hz (by simp) fun g1 hz1 s1 => ?_)))))
  have hz1 : IsZip g1 z TI TO .ellipsis := hz1
  have r1 := s1.extBut
  refine wpAny_bind ?_
  simp only [List.zipIdx_cons, List.zipIdx_nil, List.forIn_cons, List.forIn_nil]
  refine wpAny_bind (wpAny_bind (wpAny_onRaise ?_))
  show wpAny (model prog w) _ (Builtin.SmallTypes.nextOf (.ref i1) >>= _) _ _ _
  have stop : ∀ (g : PySem.Heap) (e : Addr), IsZip g z TI TO .ellipsis → (∃ o, g.get? e = some o ∧ o.cls = .type "StopIteration") → e ≠ z := fun g e m ⟨o, he, hc⟩ y => by
    subst y
    rw [show g.get? e = some _ from m] at he
    cases he
    simp at hc
  cases hx : xs[k1]? with
  | none =>
    refine wpAny_bind (next_none hh (h1.ext r1 D.i1z) (q1.ext r1 D.l1z) hx fun g2 e r2 he => ?_)
    have hz2 : IsZip g2 z TI TO .ellipsis := r2 _ _ D.i1z.symm hz1
    have ne := stop _ _ hz2 he
    obtain ⟨oe, f1, f2⟩ := he
    exact wpAny_setField_rec hz2 (by simp) fun g3 _ s3 => hE g3 e (fun c o c1 _ c3 _ y => s3.extBut _ _ c1 (r2 _ _ c3 (r1 _ _ c1 y))) ⟨oe, s3.extBut _ _ ne f1, f2⟩
  | some x =>
    have hy : ys[k2]? = none := hend.resolve_left (by rw [hx]; exact fun z => by cases z)
    refine wpAny_bind (next_any (h1.ext r1 D.i1z) (q1.ext r1 D.l1z) hx fun g2 w2 s2 => wpAny_pure ?_)
    have r2 := s2.extBut
    have p2 : IsPair g2 TO a b := r2 _ _ D.TOi1 (r1 _ _ D.TOz hTO)
    refine wpAny_bind (wpAny_seqItems p2 rfl (wpAny_bind (wpAny_updateSeq_pair p2 fun g3 p3 s3 => ?_)))
    have r3 := s3.extBut
    refine wpAny_bind (wpAny_letGo (wpAny_pure (wpAny_bind (wpAny_bind (wpAny_onRaise ?_)))))
    show wpAny (model prog w) _ (Builtin.SmallTypes.nextOf (.ref i2) >>= _) _ _ _
    refine wpAny_bind (next_none hh (((h2.ext r1 D.i2z).ext r2 D.i12.symm).ext r3 D.TOi2.symm) (((q2.ext r1 D.l2z).ext r2 D.l2i1).ext r3 D.l2TO) hy fun g4 e r4 he => ?_)
    have hz4 : IsZip g4 z TI TO .ellipsis := r4 _ _ D.i2z.symm (r3 _ _ D.TOz.symm (r2 _ _ D.i1z.symm hz1))
    have ne := stop _ _ hz4 he
    obtain ⟨oe, f1, f2⟩ := he
    exact wpAny_setField_rec hz4 (by simp) fun g5 _ s5 => hE g5 e (fun c o c1 c2 c3 c4 y => s5.extBut _ _ c1 (r4 _ _ c4 (r3 _ _ c2 (r2 _ _ c3 (r1 _ _ c1 y))))) ⟨oe, s5.extBut _ _ ne f1, f2⟩
theorem pyNext_zipA {t u : Bool} {z TI TO i1 i2 l1 l2 : Addr} {k1 k2 : Nat} {xs ys : Array Value} {x y a b : Value} {Q : Option Value → Shared → Prop} (D : ZipApart z TI TO i1 i2 l1 l2) (hz : IsZip s.heap z TI TO .none) (hTI : IsPair s.heap TI (.ref i1) (.ref i2)) (hTO : IsPair s.heap TO a b)
    (h1 : AIt t s.heap i1 l1 k1) (h2 : AIt u s.heap i2 l2 k2) (q1 : ASq t s.heap l1 xs) (q2 : ASq u s.heap l2 ys) (hx : xs[k1]? = some x) (hy : ys[k2]? = some y)
    (hQ : ∀ h', IsZip h' z TI TO (rawInt s.heap.objs.size) → IsPair h' TO x y → AIt t h' i1 l1 (k1 + 1) → AIt u h' i2 l2 (k2 + 1) → IsPair h' s.heap.objs.size x y → h'.objs.size = s.heap.objs.size + 1 →
      (∀ c o, c ≠ z → c ≠ TO → c ≠ i1 → c ≠ i2 → s.heap.get? c = some o → h'.get? c = some o) → Q (some (.ref s.heap.objs.size)) { s with heap := h' }) : wpAny (model prog w) A (pyNext (.ref z)) Q E s := by
  have hT : s.TypeIs (.ref z) "zip" := ⟨_, hz, rfl⟩
  unfold pyNext
  refine wpAny_bind (wpAny_attempt (wpAny_callSpecial?_slot (name := Str.ofString "__next__") hT F.slot_zip_next (wpAny_call_entry F.slot_zip_next hT F.entry_zip_next ?_ (F.args_zip_next_1 _))))
  exact zipA_item D hz hTI hTO h1 h2 q1 q2 hx hy fun h' a1 a2 a3 a4 a5 a6 a7 => wpAny_pure (hQ h' a1 a2 a3 a4 a5 a6 a7)
theorem pyNext_zipA_end {t u : Bool} {z TI TO i1 i2 l1 l2 : Addr} {k1 k2 : Nat} {xs ys : Array Value} {a b : Value} {Q : Option Value → Shared → Prop} (hh : A.handled = none) (D : ZipApart z TI TO i1 i2 l1 l2) (hz : IsZip s.heap z TI TO .none) (hTI : IsPair s.heap TI (.ref i1) (.ref i2)) (hTO : IsPair s.heap TO a b)
    (h1 : AIt t s.heap i1 l1 k1) (h2 : AIt u s.heap i2 l2 k2) (q1 : ASq t s.heap l1 xs) (q2 : ASq u s.heap l2 ys) (hend : xs[k1]? = none ∨ ys[k2]? = none)
    (hQ : ∀ h', (∀ c o, c ≠ z → c ≠ TO → c ≠ i1 → c ≠ i2 → s.heap.get? c = some o → h'.get? c = some o) → Q none { s with heap := h' }) : wpAny (model prog w) A (pyNext (.ref z)) Q E s := by
  have hT : s.TypeIs (.ref z) "zip" := ⟨_, hz, rfl⟩
  unfold pyNext
  refine wpAny_bind (wpAny_attempt (wpAny_callSpecial?_slot (name := Str.ofString "__next__") hT F.slot_zip_next (wpAny_call_entry F.slot_zip_next hT F.entry_zip_next ?_ (F.args_zip_next_1 _))))
  refine zipA_end hh D hz hTI hTO h1 h2 q1 q2 hend fun h' e hk he => ?_
  obtain ⟨o, ho, hc⟩ := he
  exact wpAny_bind (wpAny_isInstance (T := "StopIteration") (b := true) ⟨o, ho, hc⟩ isSubtype_stop (wpAny_pure (hQ _ hk)))
end
def itN (t : Bool) : String := if t then "tuple_iterator" else "list_iterator"
abbrev zA1 (t : Bool) (h : PySem.Heap) (l1 : Addr) : PySem.Heap := h.push { cls := .type (itN t), data := .fields #[.ref l1, .int 0 0] }
abbrev zA2 (t u : Bool) (h : PySem.Heap) (l1 l2 : Addr) : PySem.Heap := (zA1 t h l1).push { cls := .type (itN u), data := .fields #[.ref l2, .int 0 0] }
abbrev zA3 (t u : Bool) (h : PySem.Heap) (l1 l2 : Addr) : PySem.Heap := (zA2 t u h l1 l2).push { cls := .type "tuple", data := .seq #[.ref h.objs.size, .ref (zA1 t h l1).objs.size] }
abbrev zA4 (t u : Bool) (h : PySem.Heap) (l1 l2 : Addr) : PySem.Heap := (zA3 t u h l1 l2).push { cls := .type "tuple", data := .seq #[.none, .none] }
abbrev zA5 (t u : Bool) (h : PySem.Heap) (l1 l2 : Addr) : PySem.Heap := (zA4 t u h l1 l2).push { cls := .type "zip", data := .fields #[.none, .bool false, .bool false, .ref (zA2 t u h l1 l2).objs.size, .ref (zA3 t u h l1 l2).objs.size] }
theorem meets_tl (l1 l2 : Addr) (xs ys : Array Value) :
    Meets (Builtin.«zip.__new__» ⟨[.type "zip", .ref l1, .ref l2], []⟩) (fun _ R s => s.heap.IsTuple l1 xs ∧ s.heap.IsList l2 ys ∧ R (.ok (.ret (.ref (zA4 true false s.heap l1 l2).objs.size))) { s with heap := zA5 true false s.heap l1 l2 }) :=
  .of_wp fun prog w A R s h => by
    obtain ⟨hp, g, d, tk, os⟩ := s; obtain ⟨hl1, hl2, h⟩ := h
    have hsub := PySem.sub_zip
    have hL1 : PySem.Heap.IsTuple (Shared.heap ⟨hp, g, d, tk, os⟩) l1 xs := hl1
    have hL2 : PySem.Heap.IsList (Shared.heap ⟨hp.push { cls := .type "tuple_iterator", data := .fields #[.ref l1, .int 0 0] }, g, d, tk, os⟩) l2 ys := PySem.Heap.IsList.push hl2 _
    wp_walk using wpAny_pyIter_tuple hL1, wpAny_pyIter_list hL2
    exact ⟨_, rfl, h⟩
theorem meets_lt (l1 l2 : Addr) (xs ys : Array Value) :
    Meets (Builtin.«zip.__new__» ⟨[.type "zip", .ref l1, .ref l2], []⟩) (fun _ R s => s.heap.IsList l1 xs ∧ s.heap.IsTuple l2 ys ∧ R (.ok (.ret (.ref (zA4 false true s.heap l1 l2).objs.size))) { s with heap := zA5 false true s.heap l1 l2 }) :=
  .of_wp fun prog w A R s h => by
    obtain ⟨hp, g, d, tk, os⟩ := s; obtain ⟨hl1, hl2, h⟩ := h
    have hsub := PySem.sub_zip
    have hL1 : PySem.Heap.IsList (Shared.heap ⟨hp, g, d, tk, os⟩) l1 xs := hl1
    have hL2 : PySem.Heap.IsTuple (Shared.heap ⟨hp.push { cls := .type "list_iterator", data := .fields #[.ref l1, .int 0 0] }, g, d, tk, os⟩) l2 ys := PySem.Heap.IsTuple.push hl2 _
    wp_walk using wpAny_pyIter_list hL1, wpAny_pyIter_tuple hL2
    exact ⟨_, rfl, h⟩
section
variable {prog : Program} {w : World} {A : Around} {E : Value → Shared → Prop} {s : Shared}
/-- what stands when a zip is made -/
theorem zA_stands {t u : Bool} {h : PySem.Heap} {l1 l2 : Addr} {Q : Value → Shared → Prop} (hq : ∀ h', IsZip h' (h.objs.size + 4) (h.objs.size + 2) (h.objs.size + 3) .none → IsPair h' (h.objs.size + 2) (.ref h.objs.size) (.ref (h.objs.size + 1)) →
      IsPair h' (h.objs.size + 3) .none .none → AIt t h' h.objs.size l1 0 → AIt u h' (h.objs.size + 1) l2 0 → h'.objs.size = h.objs.size + 5 → (∀ c o, h.get? c = some o → h'.get? c = some o) → Q (.ref (h.objs.size + 4)) { s with heap := h' }) :
    Q (.ref (zA4 t u h l1 l2).objs.size) { s with heap := zA5 t u h l1 l2 } := by
  have z1 : (zA1 t h l1).objs.size = h.objs.size + 1 := PySem.Heap.size_push ..
  have z2 : (zA2 t u h l1 l2).objs.size = h.objs.size + 2 := by rw [PySem.Heap.size_push, z1]
  have z3 : (zA3 t u h l1 l2).objs.size = h.objs.size + 3 := by rw [PySem.Heap.size_push, z2]
  have z4 : (zA4 t u h l1 l2).objs.size = h.objs.size + 4 := by rw [PySem.Heap.size_push, z3]
  have z5 : (zA5 t u h l1 l2).objs.size = h.objs.size + 5 := by rw [PySem.Heap.size_push, z4]
  have up : ∀ {g : PySem.Heap} {c : Addr} {o p : Obj}, g.get? c = some o → (g.push p).get? c = some o := fun e => PySem.Heap.get?_push_of_some _ e
  have g5 : (zA5 t u h l1 l2).get? (zA4 t u h l1 l2).objs.size = some _ := PySem.Heap.get?_push_size _ rfl
  have g4 : (zA5 t u h l1 l2).get? (zA3 t u h l1 l2).objs.size = some _ := up (PySem.Heap.get?_push_size _ rfl)
  have g3 : (zA5 t u h l1 l2).get? (zA2 t u h l1 l2).objs.size = some _ := up (up (PySem.Heap.get?_push_size _ rfl))
  have g2 : (zA5 t u h l1 l2).get? (zA1 t h l1).objs.size = some _ := up (up (up (PySem.Heap.get?_push_size _ rfl)))
  have g1 : (zA5 t u h l1 l2).get? h.objs.size = some _ := up (up (up (up (PySem.Heap.get?_push_size _ rfl))))
  rw [z2, z3, z4] at g5
  rw [z1, z2] at g3
  rw [z3] at g4
  rw [z1] at g2
  rw [z4]
  refine hq _ g5 g3 g4 ?_ ?_ z5 fun c o x => up (up (up (up (up x))))
  · cases t
    · exact ⟨_, g1, rfl, rfl⟩
    · exact ⟨_, g1, rfl, rfl⟩
  · cases u
    · exact ⟨_, g2, rfl, rfl⟩
    · exact ⟨_, g2, rfl, rfl⟩
theorem call_tl {l1 l2 : Addr} {xs ys : Array Value} {Q : Value → Shared → Prop} (hl1 : s.heap.IsTuple l1 xs) (hl2 : s.heap.IsList l2 ys)
    (hq : ∀ h', IsZip h' (s.heap.objs.size + 4) (s.heap.objs.size + 2) (s.heap.objs.size + 3) .none → IsPair h' (s.heap.objs.size + 2) (.ref s.heap.objs.size) (.ref (s.heap.objs.size + 1)) →
      IsPair h' (s.heap.objs.size + 3) .none .none → AIt true h' s.heap.objs.size l1 0 → AIt false h' (s.heap.objs.size + 1) l2 0 → h'.objs.size = s.heap.objs.size + 5 → (∀ c o, s.heap.get? c = some o → h'.get? c = some o) → Q (.ref (s.heap.objs.size + 4)) { s with heap := h' }) :
    wpAny (model prog w) A (PySem.call (.type "zip") [.ref l1, .ref l2]) Q E s := by
  refine callType_new F.called_zip (by decide) (F.typeCall_zip_2 _ _) (F.newCall_zip_2 _ _) (fun obj => F.args_object_init_3 obj _ _) F.entry_zip_new (meets_tl l1 l2 xs ys) ⟨hl1, hl2, ?_⟩
  exact ⟨⟨_, PySem.Heap.get?_push_size _ rfl, rfl⟩, zA_stands hq⟩
theorem call_lt {l1 l2 : Addr} {xs ys : Array Value} {Q : Value → Shared → Prop} (hl1 : s.heap.IsList l1 xs) (hl2 : s.heap.IsTuple l2 ys)
    (hq : ∀ h', IsZip h' (s.heap.objs.size + 4) (s.heap.objs.size + 2) (s.heap.objs.size + 3) .none → IsPair h' (s.heap.objs.size + 2) (.ref s.heap.objs.size) (.ref (s.heap.objs.size + 1)) →
      IsPair h' (s.heap.objs.size + 3) .none .none → AIt false h' s.heap.objs.size l1 0 → AIt true h' (s.heap.objs.size + 1) l2 0 → h'.objs.size = s.heap.objs.size + 5 → (∀ c o, s.heap.get? c = some o → h'.get? c = some o) → Q (.ref (s.heap.objs.size + 4)) { s with heap := h' }) :
    wpAny (model prog w) A (PySem.call (.type "zip") [.ref l1, .ref l2]) Q E s := by
  refine callType_new F.called_zip (by decide) (F.typeCall_zip_2 _ _) (F.newCall_zip_2 _ _) (fun obj => F.args_object_init_3 obj _ _) F.entry_zip_new (meets_lt l1 l2 xs ys) ⟨hl1, hl2, ?_⟩
  exact ⟨⟨_, PySem.Heap.get?_push_size _ rfl, rfl⟩, zA_stands hq⟩
end
/-! ## the turn -/
def SqA (t : Bool) (K : PySem.W.Frag) (H : Hp) (a : Addr) (xs : List V) : Prop := if t then SqT K H a xs else SqL K H a xs
def ItzA (t u : Bool) (K : PySem.W.Frag) (a b : Addr) : L2.It :=
  ⟨fun i H => ∃ (xs ys : List V) (x y : V), SqA t K H a xs ∧ SqA u K H b ys ∧ xs[i]? = some x ∧ ys[i]? = some y,
    fun i H v H' => ∃ T x y, v = .ref T ∧ H T = none ∧ H' = upd H T (.tup [x, y]) ∧ (∀ xs, SqA t K H a xs → xs[i]? = some x) ∧ ∀ ys, SqA u K H b ys → ys[i]? = some y,
    fun i H => ∃ xs ys : List V, SqA t K H a xs ∧ SqA u K H b ys ∧ (xs.length ≤ i ∨ ys.length ≤ i)⟩
theorem sqA_at {X : Cx} {pins : List (Addr × Obj)} {σ : L2.St} {H : Hp} {s : Shared} {t : Bool} {a : Addr} {xs : List V} (I : Inv X pins σ H s) (q : SqA t X.K H a xs) : ∃ its : List Value, Vals xs its ∧ ASq t s.heap a its.toArray := by
  cases t
  · obtain ⟨its, rv, p, _⟩ := I.list q
    exact ⟨its, rv, p.isList⟩
  · obtain ⟨its, rv, p, _⟩ := I.tuple q
    exact ⟨its, rv, p⟩
theorem sqA_inj {X : Cx} {pins : List (Addr × Obj)} {σ : L2.St} {H : Hp} {s : Shared} {t : Bool} {a : Addr} {xs ys : List V} (I : Inv X pins σ H s) (q : SqA t X.K H a xs) (q' : SqA t X.K H a ys) : xs = ys := by
  cases t
  · exact I.list_inj q q'
  · exact I.tuple_inj q q'
theorem turn_zipA {t u : Bool} {P : Program} {w : World} {K : PySem.W.Frag} {elts : List Expr} {kk : Nat} {tpos : Pos} {a b z TI TO i1 i2 : Addr} (D : ZipApart z TI TO i1 i2 a b) :
    Turn P w K (.Tuple elts kk tpos) (ItzA t u K a b) [z, TI, TO, i1, i2] z (fun i h => IsZip h z TI TO .none ∧ IsPair h TI (.ref i1) (.ref i2) ∧ (∃ x y, IsPair h TO x y) ∧ AIt t h i1 a i ∧ AIt u h i2 b i) where
  mem := by simp
  obj := fun i h ⟨hz, hTI, ⟨x, y, hTO⟩, h1, h2⟩ c hc => by
    have e' : c = z ∨ c = TI ∨ c = TO ∨ c = i1 ∨ c = i2 := by simpa using hc
    rcases e' with rfl | rfl | rfl | rfl | rfl
    · exact ⟨_, hz, fun v q => nomatch q⟩
    · exact ⟨_, hTI, fun v q => nomatch q⟩
    · exact ⟨_, hTO, fun v q => nomatch q⟩
    · cases t
      · obtain ⟨o1, e1, _, d1⟩ := h1; exact ⟨o1, e1, fun v q => by rw [d1] at q; cases q⟩
      · obtain ⟨o1, e1, _, d1⟩ := h1; exact ⟨o1, e1, fun v q => by rw [d1] at q; cases q⟩
    · cases u
      · obtain ⟨o1, e1, _, d1⟩ := h2; exact ⟨o1, e1, fun v q => by rw [d1] at q; cases q⟩
      · obtain ⟨o1, e1, _, d1⟩ := h2; exact ⟨o1, e1, fun v q => by rw [d1] at q; cases q⟩
  keep := fun i h h' ⟨hz, hTI, ⟨x, y, hTO⟩, h1, h2⟩ k => ⟨k z (by simp) _ hz, k TI (by simp) _ hTI, ⟨x, y, k TO (by simp) _ hTO⟩, h1.to fun o q => k i1 (by simp) o q, h2.to fun o q => k i2 (by simp) o q⟩
  item := by
    intro X hP hw hK hc i pins s σ H E I hf st hg
    subst hP; subst hw; subst hK
    obtain ⟨hz, hTI, ⟨x0, y0, hTO⟩, h1, h2⟩ := st
    obtain ⟨xs, ys, x, y, hqx, hqy, hx, hy⟩ := hg
    obtain ⟨its, rv, p⟩ := sqA_at I hqx
    obtain ⟨its2, rv2, p2⟩ := sqA_at I hqy
    obtain ⟨b1, hb1, rb1⟩ := rv.get hx
    obtain ⟨b2, hb2, rb2⟩ := rv2.get hy
    have hzl : z < s.heap.objs.size := PySem.Heap.lt_size hz
    refine pyNext_zipA D hz hTI hTO h1 h2 p p2 (x := b1) (y := b2) (by simpa using hb1) (by simpa using hb2) fun h' z' TO' h1' h2' hT hsz hk => ?_
    refine ⟨_, rfl, wpAny_letOwnedTupleGo_zip (s := { s with heap := h' }) z' fun h'' z'' sb => ?_⟩
    have hT2 : h''.get? s.heap.objs.size = some { cls := .type "tuple", data := .seq #[b1, b2] } := (sb.2 _ (Nat.ne_of_gt hzl)).trans hT
    have new : ObjOk X.prog X.w (upd H s.heap.objs.size (.tup [x, y])) h'' s.heap.objs.size (.tup [x, y]) := ⟨by show 2 ≤ sizeLine; decide, [b1, b2], .cons rb1 (.cons rb2 .nil), ⟨_, hT2, rfl, _, rfl⟩⟩
    have kk2 : ∀ c o, c ∉ [z, TI, TO, i1, i2] → s.heap.get? c = some o → h''.get? c = some o := fun c o hb q => by
      simp only [List.mem_cons, List.not_mem_nil, or_false, not_or] at hb
      exact (sb.2 c hb.1).trans (hk c o hb.1 hb.2.2.1 hb.2.2.2.1 hb.2.2.2.2 q)
    have I1 : Inv X pins σ (upd H s.heap.objs.size (.tup [x, y])) { s with heap := h'' } := I.turnedNew (t' := s.toks) (ch := [z, TI, TO, i1, i2]) kk2 hf (Nat.le_refl _) new
    refine ⟨.ref s.heap.objs.size, _, I1, rfl, ⟨_, x, y, rfl, I.hok.fresh (Nat.le_refl _), rfl, fun l hl => by rw [sqA_inj I hl hqx]; exact hx, fun l hl => by rw [sqA_inj I hl hqy]; exact hy⟩, ⟨z'', ?_, ⟨b1, b2, ?_⟩, ?_, ?_⟩, fun c hcm => ?_⟩
    · exact (sb.2 _ D.TIz).trans (hk _ _ D.TIz D.TITO D.TIi1 D.TIi2 hTI)
    · exact (sb.2 _ D.TOz).trans TO'
    · exact h1'.to fun o q => (sb.2 _ D.i1z).trans q
    · exact h2'.to fun o q => (sb.2 _ D.i2z).trans q
    · have hlt : c < s.heap.objs.size := by
        obtain ⟨o1, e1⟩ := h1.obj
        obtain ⟨o2, e2⟩ := h2.obj
        have e' : c = z ∨ c = TI ∨ c = TO ∨ c = i1 ∨ c = i2 := by simpa using hcm
        rcases e' with q | q | q | q | q
        · rw [q]; exact hzl
        · rw [q]; exact PySem.Heap.lt_size hTI
        · rw [q]; exact PySem.Heap.lt_size hTO
        · rw [q]; exact PySem.Heap.lt_size e1
        · rw [q]; exact PySem.Heap.lt_size e2
      rw [upd_ne (Nat.ne_of_lt hlt)]
      exact (hf c hcm).1
  done := by
    intro X hP hw hK hc i pins s σ H E I hf st hg
    subst hP; subst hw; subst hK
    obtain ⟨hz, hTI, ⟨x0, y0, hTO⟩, h1, h2⟩ := st
    obtain ⟨xs, ys, hqx, hqy, hend⟩ := hg
    obtain ⟨its, rv, p⟩ := sqA_at I hqx
    obtain ⟨its2, rv2, p2⟩ := sqA_at I hqy
    have g1 := rv.length
    have g2 := rv2.length
    have he : its.toArray[i]? = none ∨ its2.toArray[i]? = none := by
      rcases hend with q | q
      · left; simp; omega
      · right; simp; omega
    refine pyNext_zipA_end (I.ok.hd hc) D hz hTI hTO h1 h2 p p2 he fun h' hk => ⟨rfl, I.turnedL (t' := s.toks) (ch := [z, TI, TO, i1, i2]) (fun c o hb q => ?_) hf⟩
    simp only [List.mem_cons, List.not_mem_nil, or_false, not_or] at hb
    exact hk c o hb.1 hb.2.2.1 hb.2.2.2.1 hb.2.2.2.2 q
  self := fun A i s Q E st h => wpAny_pyIter_zip st.1 h
/-! ## the rule -/
def iZipAny (K : PySem.W.Frag) (ta : TA) : TI := fun σ H R => ta σ H fun vs H1 => ∃ t u a b xs ys, vs = [.ref a, .ref b] ∧ SqA t K H1 a xs ∧ SqA u K H1 b ys ∧ R (ItzA t u K a b) H1
theorem pi_zipAny {X : Cx} {e e2 : Expr} {ta : TA} {p pos tpos : Pos} {elts : List Expr} {kk : Nat} (hg : Gl X "zip") (hm : X.mg "zip" = none) (ha : PA X [e, e2] ta)
    (hs : starEach [e, e2] X.env = (false, eval e X.env) :: starEach [e2] X.env := by rfl) (hpl : (backTo pos (starEach [e2] X.env)).any (·.1) = false := by rfl) :
    PI X (.Tuple elts kk tpos) (.Call (.Name "zip" p) [e, e2] [] pos) (iZipAny X.K ta) := by
  refine ⟨fun pins s σ H R I h => ?_⟩
  refine Call_ (ld_blt I hg hm PyProof.Rows.boot_zip (PyProof.Rows.callWith_type1 (thn (ha.run pos pins s σ H _ I h) fun us s1 ⟨vs, H1, I1, r1, q1⟩ => ?_) hs hpl))
  obtain ⟨t, u, a, b, xs, ys, ex, hqx, hqy, q⟩ := q1
  subst ex
  obtain ⟨u1, u2, rfl, r, r'⟩ : ∃ u1 u2, us = [u1, u2] ∧ RelV (.ref a) u1 ∧ RelV (.ref b) u2 := by
    cases r1 with
    | cons r rr =>
      cases rr with
      | cons r' rr =>
        cases rr
        exact ⟨_, _, rfl, r, r'⟩
  cases r
  cases r'
  have fresh5 : ∀ c, c ∈ [s1.heap.objs.size + 4, s1.heap.objs.size + 2, s1.heap.objs.size + 3, s1.heap.objs.size, s1.heap.objs.size + 1] → FpOk X pins H1 c := fun c hcm => by
    have hle : s1.heap.objs.size ≤ c := by
      simp only [List.mem_cons, List.not_mem_nil, or_false] at hcm
      rcases hcm with z | z | z | z | z <;> rw [z] <;> first | exact Nat.le_refl _ | exact Nat.le_add_right _ _
    exact I1.fpOk hle (I1.hok.fresh hle)
  have fin : ∀ {l1 l2 : Nat} (h' : PySem.Heap), (a < s1.heap.objs.size) → (b < s1.heap.objs.size) → IsZip h' (s1.heap.objs.size + 4) (s1.heap.objs.size + 2) (s1.heap.objs.size + 3) .none → IsPair h' (s1.heap.objs.size + 2) (.ref s1.heap.objs.size) (.ref (s1.heap.objs.size + 1)) →
      IsPair h' (s1.heap.objs.size + 3) .none .none → AIt t h' s1.heap.objs.size a 0 → AIt u h' (s1.heap.objs.size + 1) b 0 → (∀ c o, s1.heap.get? c = some o → h'.get? c = some o) → PIE X pins σ (.Tuple elts kk tpos) R (.ref (s1.heap.objs.size + 4)) { s1 with heap := h' } := fun h' la lb hz hTI hTO h1 h2 hk =>
    ⟨s1.heap.objs.size + 4, [s1.heap.objs.size + 4, s1.heap.objs.size + 2, s1.heap.objs.size + 3, s1.heap.objs.size, s1.heap.objs.size + 1], _, _, H1, rfl, I1.kept (t' := s1.toks) hk, turn_zipA (PySem.W.ktu_apart s1.heap.objs.size a b la lb), ⟨hz, hTI, ⟨_, _, hTO⟩, h1, h2⟩, fresh5, q⟩
  cases t
  · obtain ⟨its, rv, p1, _⟩ := I1.list (show SqL X.K H1 a xs from hqx)
    cases u
    · obtain ⟨its2, rv2, p2, _⟩ := I1.list (show SqL X.K H1 b ys from hqy)
      exact call_zip_2 p1.isList p2.isList fun h' hz hTI hTO h1 h2 hsz hk => wpAny_pyIter_zip hz (fin (l1 := 0) (l2 := 0) h' p1.lt p2.lt hz hTI hTO h1 h2 hk)
    · obtain ⟨its2, rv2, p2, _⟩ := I1.tuple (show SqT X.K H1 b ys from hqy)
      obtain ⟨o2, ho2, _⟩ := id p2
      exact call_lt p1.isList (show s1.heap.IsTuple b its2.toArray from p2) fun h' hz hTI hTO h1 h2 hsz hk => wpAny_pyIter_zip hz (fin (l1 := 0) (l2 := 0) h' p1.lt (PySem.Heap.lt_size ho2) hz hTI hTO h1 h2 hk)
  · obtain ⟨its, rv, p1, _⟩ := I1.tuple (show SqT X.K H1 a xs from hqx)
    obtain ⟨o1, ho1, _⟩ := id p1
    cases u
    · obtain ⟨its2, rv2, p2, _⟩ := I1.list (show SqL X.K H1 b ys from hqy)
      exact call_tl (show s1.heap.IsTuple a its.toArray from p1) p2.isList fun h' hz hTI hTO h1 h2 hsz hk => wpAny_pyIter_zip hz (fin (l1 := 0) (l2 := 0) h' (PySem.Heap.lt_size ho1) p2.lt hz hTI hTO h1 h2 hk)
    · obtain ⟨its2, rv2, p2, _⟩ := I1.tuple (show SqT X.K H1 b ys from hqy)
      obtain ⟨o2, ho2, _⟩ := id p2
      exact RZ.call_zipT (show s1.heap.IsTuple a its.toArray from p1) (show s1.heap.IsTuple b its2.toArray from p2) fun h' hz hTI hTO h1 h2 hsz hk => wpAny_pyIter_zip hz (fin (l1 := 0) (l2 := 0) h' (PySem.Heap.lt_size ho1) (PySem.Heap.lt_size ho2) hz hTI hTO h1 h2 hk)
end Mi


/-! # Mi6: methods, calls of own defs, what a loop walks, comprehensions -/
namespace Mi
open PySem PySem.Spec PyProof.Rows L2

section
variable {X : Cx} {t : Th} {W : L2.WX} {g : G} {a b c e : Expr} {es : List Expr} {ma mb mc m : Ex} {ms : Exs} {pos : Pos}
/-- a method by values -/
def rMt (t : Th) (f : Val → List Val → Heap → Res Val) : V → List V → Hp → VK → Prop := fun x xs H Q => ∃ ρ h a vs, HR t ρ h H ∧ VR t ρ a x ∧ VRs t ρ vs xs ∧ Post t ρ H (f a vs h) (KV1 t Q) E0'
/-- which type a method is of -/
def mTy : Me → String
  | .append => "list" | .join => "str" | .split => "str" | .insert => "list" | .pop => "list" | .clear => "list" | .extend => "list" | .sindex => "str"
theorem post_set {ρ : List Addr} {h : Heap} {H : Hp} {n : Nat} {o : Ob} {l : Addr} {u : HO} {v : Val} {Q : VK} {z : V} {E : Value → Option Addr → Hp → Prop} (hr : HR t ρ h H) (e : ρ[n]? = some l) (r : OR t ρ (upd H l u) l o) (rv : VR t ρ v z)
    (p : Post t ρ H (.ok v (h.set n o)) (KV1 t Q) E) : Q z (upd H l u) := p ρ _ (Ext.write e) (hr.write e r) z rv
theorem or_l {ρ : List Addr} {H : Hp} {l : Addr} {xs : List Val} {ys : List V} (r : VRs t ρ xs ys) : OR t ρ (upd H l (.lst ys)) l (.lst xs) := ⟨ys, upd_same, r⟩
theorem mt_append' : MtR X "list.append" (rMt t (met .append)) := by
  intro pins s σ H x xs v us Q I rx rs ⟨ρ, h, a, vs, hr, va, vv, p⟩
  unfold met at p
  dsimp only at p
  split at p
  · rename_i n y
    obtain ⟨y', rfl, ry⟩ := vrs1 vv
    split at p
    · rename_i zs hk
      obtain ⟨l, rfl, l1, ys, hl, r1⟩ := hr.ref hk va
      split at p
      · exact mt_append pins s σ H _ _ v us Q I rx rs ⟨l, ys, y', rfl, rfl, hl, by rw [← r1.length]; assumption, post_set (v := .non) (z := .non) hr l1 (or_l (r1.snoc ry)) rfl p⟩
      · exact p.elim
    · exact p.elim
  · exact p.elim
theorem mt_insert' : MtR X "list.insert" (rMt t (met .insert)) := by
  intro pins s σ H x xs v us Q I rx rs ⟨ρ, h, a, vs, hr, va, vv, p⟩
  unfold met at p
  dsimp only at p
  split at p
  · rename_i n i y
    obtain ⟨i', y', rfl, ri, ry⟩ := vrs2 vv
    cases ri
    split at p
    · rename_i zs hk
      obtain ⟨l, rfl, l1, ys, hl, r1⟩ := hr.ref hk va
      split at p
      · rename_i hz
        exact mt_insert pins s σ H _ _ v us Q I rx rs ⟨l, ys, i, y', rfl, rfl, hl, by rw [← r1.length]; exact hz.1, hz.2.1, hz.2.2,
          post_set (v := .non) (z := .non) hr l1 (or_l (pr_append (pr_append (pr_take _ r1) (.cons ry .nil)) (pr_drop _ r1))) rfl p⟩
      · exact p.elim
    · exact p.elim
  · exact p.elim
theorem mt_pop' : MtR X "list.pop" (rMt t (met .pop)) := by
  intro pins s σ H x xs v us Q I rx rs ⟨ρ, h, a, vs, hr, va, vv, p⟩
  unfold met at p
  dsimp only at p
  split at p
  · cases vv
    split at p
    · rename_i zs hk
      obtain ⟨l, rfl, l1, ys, hl, r1⟩ := hr.ref hk va
      split at p
      · rename_i y e
        obtain ⟨z, e1, rz⟩ := pr_get r1 e
        exact mt_pop pins s σ H _ _ v us Q I rx rs ⟨l, ys, z, rfl, rfl, hl, by rw [← r1.length]; exact e1, post_set hr l1 (or_l (pr_dropLast r1)) rz p⟩
      · exact p.elim
    · exact p.elim
  · rename_i n i
    obtain ⟨i', rfl, ri⟩ := vrs1 vv
    cases ri
    split at p
    · rename_i zs hk
      obtain ⟨l, rfl, l1, ys, hl, r1⟩ := hr.ref hk va
      split at p
      · rename_i k hkk
        split at p
        · rename_i y e
          obtain ⟨z, e1, rz⟩ := pr_get r1 e
          obtain ⟨i1, i2, i3, i4⟩ := ixN_seq hkk
          have := (Inv.lst I hl)
          obtain ⟨its, nn, rr, ho, hz⟩ := this
          have hs : sizeLine = 16777216 := sizeLine_eq
          have hlen := r1.length
          have hlen2 := rr.length
          rw [hlen] at i1 i3 i4
          exact mt_popAt pins s σ H _ _ v us Q I rx rs ⟨l, ys, i, k, z, rfl, rfl, hl, by omega, by omega, i1, e1, post_set hr l1 (or_l (pr_erase _ r1)) rz p⟩
        · exact p.elim
      · exact p.elim
    · exact p.elim
  · exact p.elim
theorem mt_clear' : MtR X "list.clear" (rMt t (met .clear)) := by
  intro pins s σ H x xs v us Q I rx rs ⟨ρ, h, a, vs, hr, va, vv, p⟩
  unfold met at p
  dsimp only at p
  split at p
  · cases vv
    split at p
    · rename_i zs hk
      obtain ⟨l, rfl, l1, ys, hl, r1⟩ := hr.ref hk va
      exact mt_clear pins s σ H _ _ v us Q I rx rs ⟨l, ys, rfl, rfl, hl, post_set (v := .non) (z := .non) hr l1 (or_l .nil) rfl p⟩
    · exact p.elim
  · exact p.elim
theorem mt_extend' : MtR X "list.extend" (rMt t (met .extend)) := by
  intro pins s σ H x xs v us Q I rx rs ⟨ρ, h, a, vs, hr, va, vv, p⟩
  unfold met at p
  dsimp only at p
  split at p
  · rename_i n m'
    obtain ⟨y', rfl, ry⟩ := vrs1 vv
    split at p
    · rename_i zs ws hk hk2
      obtain ⟨l, rfl, l1, ys, hl, r1⟩ := hr.ref hk va
      obtain ⟨l', rfl, l2, ys', hl', r2⟩ := hr.ref hk2 ry
      split at p
      · rename_i hz
        exact mt_extend pins s σ H _ _ v us Q I rx rs ⟨l, l', ys, ys', rfl, rfl, hl, hl', by rw [← r1.length, ← r2.length]; exact hz, post_set (v := .non) (z := .non) hr l1 (or_l (pr_append r1 r2)) rfl p⟩
      · exact p.elim
    · exact p.elim
  · exact p.elim
theorem mt_join' (hK : t.K = X.K) : MtR X "str.join" (rMt t (met .join)) := by
  intro pins s σ H x xs v us Q I rx rs ⟨ρ, h, a, vs, hr, va, vv, p⟩
  unfold met at p
  dsimp only at p
  split at p
  · rename_i z y
    obtain ⟨y', rfl, ry⟩ := vrs1 vv
    cases va
    split at p
    · rename_i ns e
      obtain ⟨ws, e1, e2⟩ := Option.bind_eq_some_iff.mp e
      obtain ⟨l, ys, rfl, hl, r1⟩ := seq_of hr ry e1
      have := strs_vr r1 e2
      subst this
      split at p
      · rename_i hz
        exact L2.mt_join pins s σ H _ _ v us Q I rx rs ⟨_, l, ns, rfl, rfl, hl.imp SqL.of SqT.of, hz, p.ok hr _ rfl⟩
      · exact p.elim
    · exact p.elim
  · exact p.elim
theorem strs_vrs {ρ : List Addr} : ∀ (xs : List Str), VRs t ρ (xs.map .str) (xs.map V.str)
  | [] => .nil
  | x :: xs => .cons rfl (strs_vrs xs)
theorem mt_split' : MtR X "str.split" (rMt t (met .split)) := by
  intro pins s σ H x xs v us Q I rx rs ⟨ρ, h, a, vs, hr, va, vv, p⟩
  unfold met at p
  dsimp only at p
  split at p
  · rename_i z y
    obtain ⟨y', rfl, ry⟩ := vrs1 vv
    cases va; cases ry
    split at p
    · rename_i hz
      exact L2.mt_split pins s σ H _ _ v us Q I rx rs ⟨_, _, rfl, rfl, hz.1, hz.2, fun q hq => Post.new hr p hq (or_lst (strs_vrs _)) _ (VR.new hr)⟩
    · exact p.elim
  · exact p.elim
theorem mt_sindex' : MtR X "str.index" (rMt t (met .sindex)) := by
  intro pins s σ H x xs v us Q I rx rs ⟨ρ, h, a, vs, hr, va, vv, p⟩
  unfold met at p
  dsimp only at p
  split at p
  · rename_i z y
    obtain ⟨y', rfl, ry⟩ := vrs1 vv
    cases va; cases ry
    split at p
    · rename_i i rest e
      have q := p.ok hr _ rfl
      obtain ⟨tk, rfl⟩ := rx
      cases rs with
      | cons q1 rs =>
        cases rs
        obtain ⟨tk2, rfl⟩ := q1
        exact PySem.SC.index e ⟨.int (i : Nat), H, I.tok _, ⟨_, rfl⟩, q⟩
    · exact p.elim
  · exact p.elim
/-- what a receiver must be -/
theorem ty_lst {ρ : List Addr} {h : Heap} {H : Hp} {v : Val} {y : V} (hr : HR t ρ h H) (e : (lstO h v).isSome = true) (r : VR t ρ v y) : tyV X.K "list" y H := by
  obtain ⟨xs, e⟩ := Option.isSome_iff_exists.mp e
  obtain ⟨l, ys, rfl, hl, r1⟩ := lst_of hr r e
  exact .inl ⟨rfl, ys, .of hl⟩
theorem ty_met {ρ : List Addr} {h : Heap} {H : Hp} {mm : Me} {v : Val} {y : V} (hr : HR t ρ h H) (r : VR t ρ v y) (e : rcv mm v h = true) : tyV X.K (mTy mm) y H := by
  cases mm
  all_goals first
    | exact ty_lst hr e r
    | (unfold rcv at e
       dsimp only at e
       split at e
       · cases r; rfl
       · cases e)
end

section
variable {X : Cx} {t : Th} {W : L2.WX} {g : G} {a b c e o : Expr} {es : List Expr} {ma mb mc m mo : Ex} {ms : Exs} {pos : Pos}
variable (O : Ok X t W)
include O
theorem e_met {mm : Me} {id : String} {name : Str} {apos cpos : Pos} (pa : PlainAttrs (mTy mm)) (slot : Slot (mTy mm) name id) (hty : typeOf (.builtin id) = pure (.type "method_descriptor")) (hm : MtR X id (rMt t (met mm)))
    (ho : PE X o (tE t W (den g mo))) (ha : PA X (a :: es) (tA t W (dens g ms)))
    (hbase : attributeBase o name X.env (eval o X.env) = eval o X.env := by rfl)
    (hfew : ((backTo cpos (starEach (a :: es) X.env)).all (fun x => !x.1) && (backToKw cpos (keywordEach [] X.env)).all (fun x => x.1.isSome)
      && decide ((a :: es).length + ([] : List Keyword).length + (if ([] : List Keyword).isEmpty then 0 else 1) < 30)) = true := by rfl)
    (hline : (apos.endLine == cpos.line) = true := by rfl) (hs : starEach (a :: es) X.env = (false, eval a X.env) :: starEach es X.env := by rfl) (hplain : (backTo cpos (starEach es X.env)).any (·.1) = false := by rfl) :
    PE X (.Call (.Attribute o name apos) (a :: es) [] cpos) (tE t W (den g (.met mm mo ms))) := by
  refine PEi (pe_bm pa slot hty hm ho ha hbase hfew hline hs hplain) fun σ H Q ⟨ρ, h, s, hr, sr, p⟩ => ?_
  unfold den at p
  refine ⟨ρ, h, s, hr, sr, (Post.bind p).imp fun v h1 ρ1 H1 e1 x1 p1 y ry => ?_⟩
  split at p1
  · rename_i hc
    exact ⟨ty_met x1 ry hc, ρ1, h1, s, x1, SR.ext e1 sr, (Post.bind p1).imp fun vs h2 ρ2 H2 e2 x2 p3 zs rz => ⟨ρ2, h2, v, vs, x2, ry.ext e2, rz, p3.nox (nox_met _ _ _ _)⟩⟩
  · exact p1.elim
theorem e_met0 {mm : Me} {id : String} {name : Str} {apos cpos : Pos} (pa : PlainAttrs (mTy mm)) (slot : Slot (mTy mm) name id) (hty : typeOf (.builtin id) = pure (.type "method_descriptor")) (hm : MtR X id (rMt t (met mm)))
    (ho : PE X o (tE t W (den g mo))) (hbase : attributeBase o name X.env (eval o X.env) = eval o X.env := by rfl) (hline : (apos.endLine == cpos.line) = true := by rfl) :
    PE X (.Call (.Attribute o name apos) [] [] cpos) (tE t W (den g (.met mm mo .nil))) := by
  refine PEi (pe_bm0 pa slot hty hm ho hbase hline) fun σ H Q ⟨ρ, h, s, hr, sr, p⟩ => ?_
  unfold den at p
  refine ⟨ρ, h, s, hr, sr, (Post.bind p).imp fun v h1 ρ1 H1 e1 x1 p1 y ry => ?_⟩
  split at p1
  · rename_i hc
    exact ⟨ty_met x1 ry hc, ρ1, h1, v, [], x1, ry, .nil, Post.nox (nox_met _ _ _ _) p1⟩
  · exact p1.elim
end

/-! ## calls of own defs -/
structure FnG (P : Program) (w : World) (K : PySem.W.Frag) (mg : Str → Option Value) (base : PySem.Heap) (k : Nat) (f : Addr) (fd : FuncData) (ps : List Str) (sp : Sp) : Prop where
  len : ∀ vs H Q E, sp vs H Q E → vs.length = ps.length
  run : ∀ (A : Around) (outer : List Env) (s : Shared) (H : Hp) (args : Args) (us : List Value) (vs : List V) (Q : VK) (E : XK), Room k A → A.guards = some [] → Env0 P w K mg base A outer s H → BindsTo s fd args (ps.zip us) → Vals vs us → sp vs H Q E →
    codeAny (model P w) A (.call (.ref f) args) (CR (L2.CX P w) outer P w H s Q E) s
def spC (t : Th) (f : List Val → Heap → Res Val) : Sp := fun vs H Q E => ∃ ρ h as, HR t ρ h H ∧ VRs t ρ as vs ∧ Post t ρ H (f as h) (KV1 t Q) E
section
variable {X : Cx} {t : Th} {W : L2.WX} {g : G} {a b c e o : Expr} {es : List Expr} {ma mb mc m mo : Ex} {ms : Exs} {pos : Pos} {k : Nat}
theorem run_g {pins : List (Addr × PySem.Obj)} {σ : L2.St} {H : Hp} {s : Shared} {Q : VK} {us : List Value} {vs : List V} {fa : Addr} {fd : FuncData} {ps : List Str} {sp : Sp} (O : Ok X t W) (F : FnG X.prog X.w X.K X.mg X.base k fa fd ps sp) (hr : Room k X.A) {ds : List Value} {dvs : List V} (hb : Binds X.K fd ps ds) (hd : Vals dvs ds)
    (I : Inv X pins σ H s) (r : Vals vs us) (h : sp (vs ++ dvs) H Q (EW W σ)) : wpAny (model X.prog X.w) X.A (call (.ref fa) us) (EP X pins σ Q) X.xe s := by
  have r2 := Vals.append r hd
  have hl : (us ++ ds).length = ps.length := by rw [← r2.length]; exact F.len _ _ _ _ h
  refine wpAny_call (codeAny_mono (F.run X.A X.stack s H ⟨us, []⟩ (us ++ ds) (vs ++ dvs) Q _ hr O.hg I.env0 (hb s us I.kIn hl) r2 h) fun z s' hq => ?_)
  cases z with
  | error u => exact O.tk u s' (XE.of_call I (fun c d H' w => w) hq)
  | ok fl =>
    cases fl with
    | ret u => exact I.after hq
    | next => exact hq.elim
    | brk => exact hq.elim
    | cont => exact hq.elim
def exsLen : Exs → Nat
  | .nil => 0
  | .cons _ es => exsLen es + 1
theorem dens_len {g : G} : ∀ {ms : Exs} {s : Sl} {h h' : Heap} {vs : List Val}, dens g ms s h = .ok vs h' → vs.length = exsLen ms
  | .nil, s, h, h', vs, e => by unfold dens at e; cases e; rfl
  | .cons m ms, s, h, h', vs, e => by
    unfold dens at e
    cases q : den g m s h with
    | ok v h1 =>
      rw [q] at e
      simp only [Res.bind_ok] at e
      cases q2 : dens g ms s h1 with
      | ok ws h2 =>
        rw [q2] at e
        cases e
        show ws.length + 1 = exsLen ms + 1
        rw [dens_len q2]
      | exc _ _ _ => rw [q2] at e; cases e
      | bad => rw [q2] at e; cases e
    | exc _ _ _ => rw [q] at e; cases e
    | bad => rw [q] at e; cases e
/-- f(..), with the module's defaults behind the written arguments: n of them -/
structure CalleeN (P : Program) (w : World) (K : PySem.W.Frag) (mg : Str → Option Value) (base : PySem.Heap) (t : Th) (k : Nat) (f : Str) (ds : List Val) (m : List Val → Heap → Res Val) : Prop where
  ex : ∃ (fa : Addr) (fd : FuncData) (ps : List Str) (us : List Value) (dvs : List V), mg f = some (.ref fa) ∧ PySem.W.keepIn K (.ref fa) = true ∧ Binds K fd ps us ∧ Vals dvs us ∧ (∀ ρ, VRs t ρ ds dvs) ∧ FnG P w K mg base k fa fd ps (spC t m)
theorem e_cal {f : Str} {fi : Nat} {ds : List Val} {p : Pos} {m' : List Val → Heap → Res Val} (O : Ok X t W) (C : CalleeN X.prog X.w X.K X.mg X.base t k f ds m') (hr : Room k X.A) (ha : PA X (a :: es) (tA t W (dens g ms))) (hd : ∀ vs h, vs.length = exsLen ms → g.call fi vs h ≠ .bad → g.call fi vs h = m' (vs ++ ds) h) (hg : Gl X f := by rfl)
    (hdb : (f == ("__debug__" : Str)) = false := by decide) (he : starEach (a :: es) X.env = (false, eval a X.env) :: starEach es X.env := by rfl) (hpl : (backTo pos (starEach es X.env)).any (·.1) = false := by rfl) :
    PE X (.Call (.Name f p) (a :: es) [] pos) (tE t W (den g (.cal fi ms))) := by
  obtain ⟨fa, fd, ps, us0, dvs, hm, hk, hb, hv, hw, F⟩ := C.ex
  refine ⟨fun pins s σ H Q I ⟨ρ, h, sl, x, sr, q⟩ => ?_⟩
  unfold den at q
  refine wpAny_Call_Name_kw (ld_glob I hg hm ?_ hdb)
  refine PySem.W.callWith_K (h₀ := X.base) I.ok.mod.kin hk (thn (ha.run pos pins s σ H (fun vs H1 => spC t m' (vs ++ dvs) H1 Q (EW W σ)) I ⟨ρ, h, sl, x, sr, (Post.bind q).impe fun vs h1 ρ1 H1 ee e1 x1 q1 zs rz => ⟨ρ1, h1, vs ++ ds, x1, pr_append rz (hw ρ1), ?_⟩⟩) fun us s1 ⟨vs, H1, I1, r, q1⟩ => ⟨I1.kIn, ?_⟩) he hpl
  · rw [← hd vs h1 (dens_len ee) (fun e => by rw [e] at q1; exact q1)]
    exact q1
  · exact run_g O F hr hb hv I1 r q1
theorem e_cal0 {f : Str} {fi : Nat} {ds : List Val} {p : Pos} {m' : List Val → Heap → Res Val} (O : Ok X t W) (C : CalleeN X.prog X.w X.K X.mg X.base t k f ds m') (hr : Room k X.A) (hd : ∀ vs h, vs.length = exsLen .nil → g.call fi vs h ≠ .bad → g.call fi vs h = m' (vs ++ ds) h) (hg : Gl X f := by rfl)
    (hdb : (f == ("__debug__" : Str)) = false := by decide) : PE X (.Call (.Name f p) [] [] pos) (tE t W (den g (.cal fi .nil))) := by
  obtain ⟨fa, fd, ps, us0, dvs, hm, hk, hb, hv, hw, F⟩ := C.ex
  refine ⟨fun pins s σ H Q I ⟨ρ, h, sl, x, sr, q⟩ => ?_⟩
  unfold den dens at q
  refine wpAny_Call_Name_kw (ld_glob I hg hm ?_ hdb)
  exact PySem.W.callWith_K0 I.kIn hk (run_g (us := []) (vs := []) O F hr hb hv I .nil ⟨ρ, h, ds, x, hw ρ, by
    have q : Post t ρ H (g.call fi [] h) (KV1 t Q) (EW W σ) := q
    rw [hd [] h rfl (fun e => by rw [e] at q; exact q)] at q
    exact q⟩)
end

/-! ## what a loop walks -/
/-- the walk w, begun when the places were ρ0, is what J walks -/
def WalkOk (t : Th) (ρ0 : List Addr) (w : Walk) (J : L2.It) : Prop := ∀ i ρ h H, (∃ τ, ρ = ρ0 ++ τ) → HR t ρ h H → w.ok h = true →
  (w.items.length ≤ i → J.stop i H) ∧ ∀ it, w.items[i]? = some it → J.go i H ∧ ∀ x H', J.yld i H x H' → ∃ ρ', Ext ρ H ρ' H' ∧ HR t ρ' (yieldI it h).2 H' ∧ VR t ρ' (yieldI it h).1 x
def tI (t : Th) (W : L2.WX) (f : Sl → Heap → Res Walk) : TI := fun σ H R => ∃ ρ h s, HR t ρ h H ∧ SR t ρ s σ ∧ Post t ρ H (f s h) (fun w _ ρ' H' => ∀ J, WalkOk t ρ' w J → R J H') (EW W σ)
theorem PIi {X : Cx} {tg e : Expr} {t t' : TI} (p : PI X tg e t) (h : ∀ σ H R, t' σ H R → t σ H R) : PI X tg e t' := ⟨fun pins s σ H R I q => p.run pins s σ H R I (h σ H R q)⟩
section
variable {X : Cx} {t : Th} {W : L2.WX} {g : G} {a b c e o tg : Expr} {es : List Expr} {ma mb mc m mo : Ex} {ms : Exs} {pos : Pos} {ρ0 : List Addr}
theorem ok_at {xs : List (Nat × Ob)} {its : List It} {h : Heap} {n : Nat} {o : Ob} (e : (Walk.mk its xs).ok h = true) (hm : (n, o) ∈ xs) : h[n]? = some o := by
  unfold Walk.ok at e
  exact of_decide_eq_true (List.all_eq_true.mp e _ hm)
theorem wk_list {n : Nat} {a : Addr} {xs : List Val} (hn : ρ0[n]? = some a) : WalkOk t ρ0 ⟨xs.map .v, [(n, .lst xs)]⟩ (Itl t.K a) := by
  intro i ρ h H ⟨τ, e⟩ x ok
  have hk := ok_at ok (List.mem_singleton.mpr rfl)
  have hn' : ρ[n]? = some a := by rw [e, List.getElem?_append_left (List.getElem?_eq_some_iff.mp hn).1]; exact hn
  obtain ⟨ys, hl, r⟩ := x.ob n _ a hk hn'
  refine ⟨fun hi => ⟨ys, .of hl, by rw [← r.length]; simpa using hi⟩, fun it hit => ?_⟩
  rw [List.getElem?_map] at hit
  obtain ⟨v, hv, rfl⟩ := Option.map_eq_some_iff.mp hit
  obtain ⟨y, hy, ry⟩ := pr_get r hv
  refine ⟨⟨ys, y, .of hl, hy⟩, fun z H' ⟨eH, hz⟩ => ?_⟩
  subst eH
  have := hz ys (.of hl)
  rw [hy] at this; cases this
  exact ⟨ρ, Ext.refl _ _, x, ry⟩
theorem wk_tup {n : Nat} {a : Addr} {xs : List Val} (hn : ρ0[n]? = some a) : WalkOk t ρ0 ⟨xs.map .v, [(n, .tup xs)]⟩ (Itt t.K a) := by
  intro i ρ h H ⟨τ, e⟩ x ok
  have hk := ok_at ok (List.mem_singleton.mpr rfl)
  have hn' : ρ[n]? = some a := by rw [e, List.getElem?_append_left (List.getElem?_eq_some_iff.mp hn).1]; exact hn
  obtain ⟨ys, hl, r⟩ := x.ob n _ a hk hn'
  refine ⟨fun hi => ⟨ys, .of hl, by rw [← r.length]; simpa using hi⟩, fun it hit => ?_⟩
  rw [List.getElem?_map] at hit
  obtain ⟨v, hv, rfl⟩ := Option.map_eq_some_iff.mp hit
  obtain ⟨y, hy, ry⟩ := pr_get r hv
  refine ⟨⟨ys, y, .of hl, hy⟩, fun z H' ⟨eH, hz⟩ => ?_⟩
  subst eH
  have := hz ys (.of hl)
  rw [hy] at this; cases this
  exact ⟨ρ, Ext.refl _ _, x, ry⟩
theorem wk_str {z : Str} : WalkOk t ρ0 ⟨z.cps.toList.map fun c => .v (.str ⟨#[c]⟩), []⟩ (Its z) := by
  intro i ρ h H _ x ok
  refine ⟨fun hi => show z.cps.size ≤ i by simpa using hi, fun it hit => ?_⟩
  rw [List.getElem?_map] at hit
  obtain ⟨c, hc, rfl⟩ := Option.map_eq_some_iff.mp hit
  have hc' : z.cps[i]? = some c := by simpa using hc
  refine ⟨(Array.getElem?_eq_some_iff.mp hc').1, fun y H' ⟨eH, c', h1, h2⟩ => ?_⟩
  subst eH; subst h2
  rw [hc'] at h1; cases h1
  exact ⟨ρ, Ext.refl _ _, x, rfl⟩
theorem intItems_get : ∀ (n : Nat) (lo : Int) (i : Nat) (it : It), (intItems lo n)[i]? = some it → i < n ∧ it = .v (.int (lo + i))
  | 0, _, _, _, e => by simp [intItems] at e
  | n + 1, lo, 0, it, e => by
    simp [intItems] at e
    exact ⟨by omega, by rw [← e]; simp⟩
  | n + 1, lo, i + 1, it, e => by
    have e' : (intItems (lo + 1) n)[i]? = some it := by simpa [intItems] using e
    obtain ⟨h1, h2⟩ := intItems_get n (lo + 1) i it e'
    exact ⟨by omega, by rw [h2]; congr 2; omega⟩
theorem intItems_len : ∀ (n : Nat) (lo : Int), (intItems lo n).length = n
  | 0, _ => rfl
  | n + 1, lo => by simp [intItems, intItems_len n]
theorem wk_rng {lo : Int} {n : Nat} : WalkOk t ρ0 ⟨intItems lo n, []⟩ (Itr lo n) := by
  intro i ρ h H _ x ok
  refine ⟨fun hi => show n ≤ i by simpa [intItems_len] using hi, fun it hit => ?_⟩
  obtain ⟨h1, rfl⟩ := intItems_get n lo i it hit
  refine ⟨h1, fun y H' ⟨eH, ey⟩ => ?_⟩
  subst eH; subst ey
  exact ⟨ρ, Ext.refl _ _, x, rfl⟩
theorem enumI_get : ∀ (xs : List Val) (k i : Nat) (it : It), (enumI k xs)[i]? = some it → ∃ v, xs[i]? = some v ∧ it = .pr (.int ((k + i : Nat) : Int)) v
  | [], _, _, _, e => by simp [enumI] at e
  | x :: xs, k, 0, it, e => by
    simp [enumI] at e
    exact ⟨x, by simp, by rw [← e]; simp⟩
  | x :: xs, k, i + 1, it, e => by
    have e' : (enumI (k + 1) xs)[i]? = some it := by simpa [enumI] using e
    obtain ⟨v, h1, h2⟩ := enumI_get xs (k + 1) i it e'
    exact ⟨v, by simpa using h1, by rw [h2]; congr 3; omega⟩
theorem enumI_len : ∀ (xs : List Val) (k : Nat), (enumI k xs).length = xs.length
  | [], _ => rfl
  | x :: xs, k => by simp [enumI, enumI_len xs]
theorem wk_enum {n : Nat} {a : Addr} {xs : List Val} (hn : ρ0[n]? = some a) : WalkOk t ρ0 ⟨enumI 0 xs, [(n, .lst xs)]⟩ (Ite t.K a) := by
  intro i ρ h H ⟨τ, e⟩ x ok
  have hk := ok_at ok (List.mem_singleton.mpr rfl)
  have hn' : ρ[n]? = some a := by rw [e, List.getElem?_append_left (List.getElem?_eq_some_iff.mp hn).1]; exact hn
  obtain ⟨ys, hl, r⟩ := x.ob n _ a hk hn'
  refine ⟨fun hi => ⟨ys, .of hl, by rw [← r.length]; simpa [enumI_len] using hi⟩, fun it hit => ?_⟩
  obtain ⟨v, hv, rfl⟩ := enumI_get xs 0 i it hit
  obtain ⟨y, hy, ry⟩ := pr_get r hv
  refine ⟨⟨ys, y, .of hl, hy⟩, fun z H' ⟨T, y', ez, hT, eH, hz⟩ => ?_⟩
  subst eH; subst ez
  have := hz ys (.of hl)
  rw [hy] at this; cases this
  rw [Nat.zero_add]
  exact ⟨ρ ++ [T], Ext.new x hT, x.new hT (or_tup (.cons rfl (.cons ry .nil))), VR.new x⟩
theorem pairI_get : ∀ (xs ys : List Val) (i : Nat) (it : It), (pairI xs ys)[i]? = some it → ∃ v w, xs[i]? = some v ∧ ys[i]? = some w ∧ it = .pr v w
  | [], _, _, _, e => by simp [pairI] at e
  | x :: xs, [], _, _, e => by simp [pairI] at e
  | x :: xs, y :: ys, 0, it, e => by
    simp [pairI] at e
    exact ⟨x, y, by simp, by simp, e.symm⟩
  | x :: xs, y :: ys, i + 1, it, e => by
    have e' : (pairI xs ys)[i]? = some it := by simpa [pairI] using e
    obtain ⟨v, w, h1, h2, h3⟩ := pairI_get xs ys i it e'
    exact ⟨v, w, by simpa using h1, by simpa using h2, h3⟩
theorem pairI_len : ∀ (xs ys : List Val), (pairI xs ys).length = min xs.length ys.length
  | [], _ => by simp [pairI]
  | x :: xs, [] => by simp [pairI]
  | x :: xs, y :: ys => by simp [pairI, pairI_len xs ys]
def obT : Ob → Option (Bool × List Val)
  | .lst xs => some (false, xs)
  | .tup xs => some (true, xs)
  | _ => none
theorem obO_obT {h : Heap} {n : Nat} {o : Ob} {xs : List Val} (e : obO h n = some (o, xs)) : h[n]? = some o ∧ ∃ b, obT o = some (b, xs) := by
  unfold obO at e
  split at e
  · rename_i hk
    cases e
    exact ⟨hk, _, rfl⟩
  · rename_i hk
    cases e
    exact ⟨hk, _, rfl⟩
  · cases e
theorem or_sq {H : Hp} {a : Addr} {o : Ob} {b : Bool} {xs : List Val} {K : PySem.W.Frag} (r : OR t ρ H a o) (e : obT o = some (b, xs)) : ∃ ys, SqA b K H a ys ∧ VRs t ρ xs ys := by
  unfold obT at e
  split at e
  · cases e
    obtain ⟨ys, hl, q⟩ := r
    exact ⟨ys, show SqL K H a ys from .of hl, q⟩
  · cases e
    obtain ⟨ys, hl, q⟩ := r
    exact ⟨ys, show SqT K H a ys from .of hl, q⟩
  · cases e
theorem wk_zip {n n' : Nat} {a a' : Addr} {o o' : Ob} {b b' : Bool} {xs xs' : List Val} (hn : ρ0[n]? = some a) (hn2 : ρ0[n']? = some a') (eo : obT o = some (b, xs)) (eo' : obT o' = some (b', xs')) : WalkOk t ρ0 ⟨pairI xs xs', [(n, o), (n', o')]⟩ (ItzA b b' t.K a a') := by
  intro i ρ h H ⟨τ, e⟩ x ok
  have hk := ok_at ok (n := n) (o := o) (by simp)
  have hk2 := ok_at ok (n := n') (o := o') (by simp)
  have hn' : ρ[n]? = some a := by rw [e, List.getElem?_append_left (List.getElem?_eq_some_iff.mp hn).1]; exact hn
  have hn2' : ρ[n']? = some a' := by rw [e, List.getElem?_append_left (List.getElem?_eq_some_iff.mp hn2).1]; exact hn2
  obtain ⟨ys, hl, r⟩ := or_sq (K := t.K) (x.ob n _ a hk hn') eo
  obtain ⟨ys', hl', r'⟩ := or_sq (K := t.K) (x.ob n' _ a' hk2 hn2') eo'
  refine ⟨fun hi => ⟨ys, ys', hl, hl', ?_⟩, fun it hit => ?_⟩
  · rw [← r.length, ← r'.length]
    simp [pairI_len] at hi
    omega
  obtain ⟨v, w, hv, hw, rfl⟩ := pairI_get xs xs' i it hit
  obtain ⟨y, hy, ry⟩ := pr_get r hv
  obtain ⟨y', hy', ry'⟩ := pr_get r' hw
  refine ⟨⟨ys, ys', y, y', hl, hl', hy, hy'⟩, fun z H' ⟨T, z1, z2, ez, hT, eH, hz, hz'⟩ => ?_⟩
  subst eH; subst ez
  have := hz ys hl
  rw [hy] at this; cases this
  have := hz' ys' hl'
  rw [hy'] at this; cases this
  exact ⟨ρ ++ [T], Ext.new x hT, x.new hT (or_tup (.cons ry (.cons ry' .nil))), VR.new x⟩
/-- what a value is walked as -/
theorem walk_cases {v : Val} {h : Heap} {w : Walk} (e : walkV v h = some w) : (∃ z, v = .str z ∧ w = ⟨z.cps.toList.map fun c => .v (.str ⟨#[c]⟩), []⟩) ∨ (∃ n xs, v = .ref n ∧ h[n]? = some (.lst xs) ∧ w = ⟨xs.map .v, [(n, .lst xs)]⟩) ∨ ∃ n xs, v = .ref n ∧ h[n]? = some (.tup xs) ∧ w = ⟨xs.map .v, [(n, .tup xs)]⟩ := by
  unfold walkV at e
  split at e
  · cases e; exact .inl ⟨_, rfl, rfl⟩
  · split at e
    · cases e; exact .inr (.inl ⟨_, _, rfl, by assumption, rfl⟩)
    · cases e; exact .inr (.inr ⟨_, _, rfl, by assumption, rfl⟩)
    · cases e
  · cases e
theorem i_val (O : Ok X t W) (ha : PE X a (tE t W (den g ma))) : PI X tg a (tI t W (fun s h => (dens g (.cons ma .nil) s h).bind fun vs h => srcR .val vs h)) := by
  refine ⟨fun pins s σ H R I ⟨ρ, h, sl, hr, sr, p⟩ => ?_⟩
  have p0 : Post t ρ H (den g ma sl h) (fun v h1 ρ1 H1 => ∃ w, walkV v h1 = some w ∧ ∀ J, WalkOk t ρ1 w J → R J H1) (EW W σ) := by
    have p := Post.bind p
    unfold dens at p
    refine (Post.bind p).imp fun v h1 ρ1 H1 e1 x1 p1 => ?_
    have p2 := Post.ok x1 (Post.bind (show Post t ρ1 H1 ((Res.ok [] h1).bind fun vs h => Res.ok (v :: vs) h) _ _ from p1))
    have p3 := Post.ok x1 p2
    unfold srcR srcV at p3
    dsimp only at p3
    split at p3
    · rename_i w e
      exact ⟨w, e, p3.ok x1⟩
    · exact p3.elim
  refine thn (ha.run pins s σ H (fun y H1 => ∃ ρ1 h1 v w, HR t ρ1 h1 H1 ∧ VR t ρ1 v y ∧ walkV v h1 = some w ∧ ∀ J, WalkOk t ρ1 w J → R J H1) I ⟨ρ, h, sl, hr, sr, p0.imp fun v h1 ρ1 H1 e1 x1 ⟨w, e, k⟩ y ry => ⟨ρ1, h1, v, w, x1, ry, e, k⟩⟩) fun u s1 ⟨y, H1, I1, r1, ρ1, h1, v, w, x1, ry, e, k⟩ => ?_
  rcases walk_cases e with ⟨z, rfl, rfl⟩ | ⟨n, xs, rfl, hk, rfl⟩ | ⟨n, xs, rfl, hk, rfl⟩
  · cases ry
    obtain ⟨tk, rfl⟩ := r1
    cases hz : z.cps.all (· < 128)
    · exact wpAny_pyIter_wide hz (pi_one (tk := s1.toks) I1 _ (turn_str _ z tk "str_iterator" (.inr rfl)) ⟨_, Heap.get?_push_size _ rfl, rfl, rfl⟩ (k _ wk_str))
    · exact wpAny_pyIter_ascii hz (pi_one (tk := s1.toks) I1 _ (turn_str _ z tk "str_ascii_iterator" (.inl rfl)) ⟨_, Heap.get?_push_size _ rfl, rfl, rfl⟩ (k _ wk_str))
  · obtain ⟨l, rfl, l1, ys, hl, rr⟩ := x1.ref hk ry
    obtain rfl : u = Value.ref l := r1
    obtain ⟨its, rv, pl, _⟩ := I1.list (SqL.of (K := X.K) hl)
    exact wpAny_pyIter_list pl.isList (pi_one (tk := s1.toks) I1 _ (turn_list l _) ⟨_, Heap.get?_push_size _ rfl, rfl, rfl⟩ (k _ (O.hK ▸ wk_list l1)))
  · obtain ⟨l, rfl, l1, ys, hl, rr⟩ := x1.ref hk ry
    obtain rfl : u = Value.ref l := r1
    obtain ⟨its, rv, pl, _⟩ := I1.tuple (SqT.of (K := X.K) hl)
    exact wpAny_pyIter_tuple (show s1.heap.IsTuple l its.toArray from pl) (pi_one (tk := s1.toks) I1 _ (turn_tuple l _) ⟨_, Heap.get?_push_size _ rfl, rfl, rfl⟩ (k _ (O.hK ▸ wk_tup l1)))
/-- a walk of what arguments give -/
theorem post_src {ρ : List Addr} {h : Heap} {H : Hp} {sr : Src} {vs : List Val} {k : Walk → Heap → List Addr → Hp → Prop} {E : Value → Option Addr → Hp → Prop} (x : HR t ρ h H) (p : Post t ρ H (srcR sr vs h) k E) : ∃ w, srcV sr vs h = some w ∧ k w h ρ H := by
  unfold srcR at p
  split at p
  · exact ⟨_, by assumption, p.ok x⟩
  · exact p.elim
theorem i_rng1 {p : Pos} (hm : X.mg "range" = none) (ha : PA X [a] (tA t W (dens g ms))) (hg : Gl X "range" := by rfl) (hs : starEach [a] X.env = [(false, eval a X.env)] := by rfl) : PI X tg (.Call (.Name "range" p) [a] [] pos) (tI t W (fun s h => (dens g ms s h).bind fun vs h => srcR .rng1 vs h)) := by
  refine PIi (pi_range1 hg hm ha hs) fun σ H R ⟨ρ, h, sl, hr, sr, p⟩ => ⟨ρ, h, sl, hr, sr, (Post.bind p).imp fun vs h1 ρ1 H1 e1 x1 p1 ys rv => ?_⟩
  obtain ⟨w, e, k⟩ := post_src x1 p1
  unfold srcV at e
  dsimp only at e
  split at e
  · rename_i j
    split at e
    · rename_i hj
      cases e
      obtain ⟨y, rfl, ry⟩ := vrs1 rv
      cases ry
      exact ⟨j, rfl, hj.1, hj.2, k _ wk_rng⟩
    · cases e
  · cases e
theorem i_rng2 {p : Pos} (hm : X.mg "range" = none) (ha : PA X [a, b] (tA t W (dens g ms))) (hg : Gl X "range" := by rfl) (hs : starEach [a, b] X.env = [(false, eval a X.env), (false, eval b X.env)] := by rfl) (hs2 : starEach [b] X.env = [(false, eval b X.env)] := by rfl) : PI X tg (.Call (.Name "range" p) [a, b] [] pos) (tI t W (fun s h => (dens g ms s h).bind fun vs h => srcR .rng2 vs h)) := by
  refine PIi (pi_range2 hg hm ha hs hs2) fun σ H R ⟨ρ, h, sl, hr, sr, p⟩ => ⟨ρ, h, sl, hr, sr, (Post.bind p).imp fun vs h1 ρ1 H1 e1 x1 p1 ys rv => ?_⟩
  obtain ⟨w, e, k⟩ := post_src x1 p1
  unfold srcV at e
  dsimp only at e
  split at e
  · rename_i i j
    split at e
    · rename_i hj
      cases e
      obtain ⟨y, z, rfl, ry, rz⟩ := vrs2 rv
      cases ry; cases rz
      exact ⟨i, j, rfl, hj, k _ wk_rng⟩
    · cases e
  · cases e
theorem i_enum {p tpos : Pos} {elts : List Expr} {kk : Nat} (O : Ok X t W) (hm : X.mg "enumerate" = none) (ha : PA X [a] (tA t W (dens g ms))) (hg : Gl X "enumerate" := by rfl) (hs : starEach [a] X.env = [(false, eval a X.env)] := by rfl) : PI X (.Tuple elts kk tpos) (.Call (.Name "enumerate" p) [a] [] pos) (tI t W (fun s h => (dens g ms s h).bind fun vs h => srcR .enum vs h)) := by
  refine PIi (pi_enum hg hm ha hs) fun σ H R ⟨ρ, h, sl, hr, sr, p⟩ => ⟨ρ, h, sl, hr, sr, (Post.bind p).imp fun vs h1 ρ1 H1 e1 x1 p1 ys rv => ?_⟩
  obtain ⟨w, e, k⟩ := post_src x1 p1
  unfold srcV at e
  dsimp only at e
  split at e
  · rename_i n
    split at e
    · rename_i xs hk
      cases e
      obtain ⟨y, rfl, ry⟩ := vrs1 rv
      obtain ⟨l, rfl, l1, zs, hl, rr⟩ := x1.ref hk ry
      exact ⟨l, zs, rfl, .of hl, k _ (O.hK ▸ wk_enum l1)⟩
    · cases e
  · cases e
theorem i_zip {p tpos : Pos} {elts : List Expr} {kk : Nat} (O : Ok X t W) (hm : X.mg "zip" = none) (ha : PA X [a, b] (tA t W (dens g ms))) (hg : Gl X "zip" := by rfl) (hs : starEach [a, b] X.env = (false, eval a X.env) :: starEach [b] X.env := by rfl) (hpl : (backTo pos (starEach [b] X.env)).any (·.1) = false := by rfl) : PI X (.Tuple elts kk tpos) (.Call (.Name "zip" p) [a, b] [] pos) (tI t W (fun s h => (dens g ms s h).bind fun vs h => srcR .zip vs h)) := by
  refine PIi (pi_zipAny hg hm ha hs hpl) fun σ H R ⟨ρ, h, sl, hr, sr, p⟩ => ⟨ρ, h, sl, hr, sr, (Post.bind p).imp fun vs h1 ρ1 H1 e1 x1 p1 ys rv => ?_⟩
  obtain ⟨w, e, k⟩ := post_src x1 p1
  unfold srcV at e
  dsimp only at e
  split at e
  · rename_i n n'
    split at e
    · rename_i o xs o' xs' hk hk2
      cases e
      obtain ⟨hk, b1, eo⟩ := obO_obT hk
      obtain ⟨hk2, b2, eo'⟩ := obO_obT hk2
      obtain ⟨y, z, rfl, ry, rz⟩ := vrs2 rv
      obtain ⟨l, rfl, l1, r1⟩ := x1.ref hk ry
      obtain ⟨l', rfl, l2, r2⟩ := x1.ref hk2 rz
      obtain ⟨zs, hl, _⟩ := or_sq (K := X.K) r1 eo
      obtain ⟨zs', hl', _⟩ := or_sq (K := X.K) r2 eo'
      exact ⟨b1, b2, l, l', zs, zs', rfl, hl, hl', k _ (O.hK ▸ wk_zip l1 l2 eo eo')⟩
    · cases e
  · cases e
end
end Mi


/-! # Mi6X: exceptions at the hand layer's level: clauses with and without a name, classes whose __init__ calls its base's -/
namespace Mi
open PySem PySem.Spec PyProof.Rows L2
abbrev ClF := Addr → Value → Option Addr → TS
/-- the ends behind a suite whose name goes -/
def cutD (D : Ends) (i : Nat) : Ends := { nx := fun σ H => D.nx (σ.set i none) H, rt := D.rt, bk := fun σ H => D.bk (σ.set i none) H, ct := fun σ H => D.ct (σ.set i none) H }
/-- what the clauses wish of an exception -/
def wAny (K : PySem.W.Frag) (Wout : WX) (D : Ends) : List (Value × Option Nat × ClF) → WX
  | [] => Wout
  | (c, none, ts) :: r => fun cls d σ H => ∃ b, PySem.W.exmOne K cls c = some b ∧ (b = true → ∀ a, H a = none → ts a cls d D σ H) ∧ (b = false → wAny K Wout D r cls d σ H)
  | (c, some i, ts) :: r => fun cls d σ H => ∃ b, PySem.W.exmOne K cls c = some b ∧ (b = true → ∀ a, H a = none → ts a cls d (cutD D i) (σ.set i (some (.ref a))) H) ∧ (b = false → wAny K Wout D r cls d σ H)
abbrev SuOk (X : Cx) (body : List Stmt) (ts : ClF) : Prop := ∀ (a : Addr) (oe : PySem.Obj) (cls : Value) (d : Option Addr) (pn : List (Addr × PySem.Obj)), Zc cls d oe → (∃ vs, oe.data = .fields vs) → PSs (X.suite a ((a, oe) :: pn)) body (ts a cls d)
inductive HdsAny (X : Cx) : List ExceptHandler → List (Value × Option Nat × ClF) → Prop
  | nil : HdsAny X [] []
  | plain {x : Str} {c : Value} {ts : ClF} {b₀ : Stmt} {suite : List Stmt} {np pos' : Pos} {hds : List ExceptHandler} {l : List (Value × Option Nat × ClF)} (hc : Names X x c) (hsu : SuOk X (b₀ :: suite) ts) (r : HdsAny X hds l) :
      HdsAny X (.ExceptHandler (some (.Name x np)) none (b₀ :: suite) pos' :: hds) ((c, none, ts) :: l)
  | named {x nm : Str} {c : Value} {i : Nat} {ts : ClF} {b₀ : Stmt} {suite : List Stmt} {np pos' : Pos} {hds : List ExceptHandler} {l : List (Value × Option Nat × ClF)} (hc : Names X x c) (hi : X.N[i]? = some nm) (hln : X.env.kindOf nm = some .local) (hsu : SuOk X (b₀ :: suite) ts) (r : HdsAny X hds l) :
      HdsAny X (.ExceptHandler (some (.Name x np)) (some nm) (b₀ :: suite) pos' :: hds) ((c, some i, ts) :: l)
section
variable {X : Cx} {body : List Stmt} {h₀ : ExceptHandler} {hds : List ExceptHandler} {l : List (Value × Option Nat × ClF)} {pos : Pos} {tb : WX → TS} {Wout : WX}
theorem ps_try_any (hs : X.stack = X.env :: X.outer) (hf : X.env.frame = some X.env.locals) (hN : X.N.Nodup) (tk : Takes X Wout) (hb : ∀ (W : WX) (pn : List (Addr × PySem.Obj)) (xe : Value → Shared → Prop), Takes (X.tr pn xe) W → PassesOwn (model X.prog X.w) X.A X.env xe → PSs (X.tr pn xe) body (tb W)) (hh : HdsAny X (h₀ :: hds) l) :
    PS X (.Try body (h₀ :: hds) [] [] pos) (fun D σ H => tb (wAny X.K Wout D l) D σ H) := by
  refine ⟨fun pins s σ H D I hyp => ?_⟩
  have okX := I.ok
  have frX : X.A.frames = some (X.env :: X.outer) := okX.frames.trans (by rw [hs])
  refine wpAny_Try_except (wpAny_mono ((hb (wAny X.K Wout D l) (X.pn ++ pins) (fun e s₁ => wpAny (model X.prog X.w) X.A (noteFrame e X.env) (fun _ s₂ => wpAny (model X.prog X.w) X.A (setFlight e none) (fun _ s₃ => wpAny (model X.prog X.w) X.A (handleBy e X.env (h₀ :: hds)) (SP X pins D) X.xe s₃) X.xe s₂) X.xe s₁) (fun u s' caught => ?_) PassesOwn.looking).run [] s σ H D (I.toTry _) hyp) (fun f s1 good => ?_) fun e s1 z => z)
  · obtain ⟨a, B, sI, pins', σ', H', cls, d, eu, Jt, nb, upA, skyA, na, osA, ag, w⟩ := caught
    subst eu
    have Jx : Inv X pins σ' H' sI := Jt.ofTry okX
    refine (show wpAny (model X.prog X.w) X.A (noteFrame (.ref a) X.env) _ _ _ from Sky.land Zc.steady frX hf (show Sky B (X.env :: X.outer) a (Zc cls d) X.env.locals s'.heap by rw [← hs]; exact skyA) fun h3 fl3 up3 => ?_)
    have Jl : Inv X pins σ' H' { s' with heap := h3 } := Jx.landed nb fl3.1 (upA.trans up3) osA ag
    obtain ⟨oe3, vs3, at3, z3, dat3⟩ := fl3.there
    have off : a ∉ frs (X.env :: X.outer) := fun hm => by
      obtain ⟨_, o', eo, nofld⟩ := fl3.2.2.1.mem hm
      rw [at3] at eo
      cases eo
      exact nofld _ dat3
    have offL : a ≠ X.env.locals := fun z => off (List.mem_filterMap.mpr ⟨X.env, List.mem_cons_self, by rw [hf, z]⟩)
    have offF : a ∉ X.fs := fun hm => by
      obtain ⟨e, he, q⟩ := List.mem_filterMap.mp hm
      exact off (List.mem_filterMap.mpr ⟨e, List.mem_cons_of_mem _ he, q⟩)
    have Su3 := Jl.suite at3 dat3 na offL offF
    have LT : PySem.W.Looks (model X.prog X.w) h3 (typeOf (.ref a)) cls := fun A Q E s k q => wpAny_typeOf_ref (k _ _ at3) (by rw [z3.1]; exact q)
    have test : ∀ {x : Str} {c : Value} {np : Pos} {Q E : Value → Shared → Prop}, Names X x c → Q c { s' with heap := h3 } → wpAny (model X.prog X.w) (X.A.mark (some (.ref a))) (eval (.Name x np) X.env) Q E { s' with heap := h3 } := fun {x c np Q E} hc q => by
      obtain ⟨hg, hdbg, hm⟩ := hc
      rcases hm with hm | ⟨hm, hv, hnn⟩
      · exact ld_glob (X := X.suite a ((a, oe3) :: (X.pn ++ pins))) Su3 hg hm q hdbg
      · exact ld_blt (X := X.suite a ((a, oe3) :: (X.pn ++ pins))) Su3 hg hm hv q hnn hdbg
    have all : ∀ {hs2 : List ExceptHandler} {l2 : List (Value × Option Nat × ClF)}, HdsAny X hs2 l2 → wAny X.K Wout D l2 cls d σ' H' → wpAny (model X.prog X.w) X.A (handleBy (.ref a) X.env hs2) (SP X pins D) X.xe { s' with heap := h3 } := by
      intro hs2 l2 hk
      induction hk with
      | nil =>
        intro w
        refine wpAny_handleBy_nil ?_
        obtain ⟨_, _, _, oe, vs, T, oT, ts', he, hz, hd, h1, hr⟩ := id fl3
        unfold PySem.passOn
        refine wpAny_bind (wpAny_field he hd h1 ?_)
        rw [if_neg (by simp : ¬ ((Value.ref T == Value.none) = true))]
        have away : wpAny (model X.prog X.w) X.A (setFlight (.ref a) X.env.frame) (fun _ s4 => wpAny (model X.prog X.w) X.A (throw (.ref a) : Sem Flow) (SP X pins D) X.xe s4) X.xe { s' with heap := h3 } := by
          rw [hf]
          exact HandSPX.setFlight_upZ fl3 fun h4 hh4 up4 => wpAny_throw (tk _ _ ⟨a, B, sI, pins, σ', H', cls, d, rfl, Jx, nb, (upA.trans up3).trans up4, .inr (.inr (by rw [hs]; exact hh4)), na, osA, ag, w⟩)
        first
          | exact wpAny_bind (wpAny_pure (wpAny_bind away))
          | exact wpAny_bind away
      | @plain x c ts b₀ suite np pos' hds2 l2 hc hsu r ih =>
        intro w
        obtain ⟨b, hb1, hyes, hno⟩ := w
        refine wpAny_handleBy_cons (codeAny_handlers_test (test hc ((PySem.W.exm_one (M := model X.prog X.w) Jl.kIn LT hb1).here ?_))) (by intro q; cases q)
        cases b with
        | false => exact (show wpAny _ X.A (handleBy (.ref a) X.env hds2) _ _ _ from ih (hno rfl))
        | true =>
          refine codeAny_handlers_suite (HandSPX.lands_againZ fl3 fun h4 fl4 up4 => ?_)
          obtain ⟨oe4, vs4, at4, z4, dat4⟩ := fl4.there
          have Su4 := (Jx.landed nb fl4.1 ((upA.trans up3).trans up4) osA ag : Inv X pins σ' H' { s' with heap := h4 }).suite at4 dat4 na offL offF
          refine wpAny_mono ((hsu a oe4 cls d (X.pn ++ pins) z4 ⟨_, dat4⟩).run [] _ _ H' _ Su4 (hyes rfl a na)) (fun f s6 good => ?_) fun _ _ z => z.elim
          cases f with
          | ret u => obtain ⟨v6, σ6, H6, S6, r6, q6⟩ := good; exact ⟨_, _, _, S6.unsuite okX, r6, q6⟩
          | next => obtain ⟨σ6, H6, S6, q6⟩ := good; exact ⟨_, _, S6.unsuite okX, q6⟩
          | brk => obtain ⟨σ6, H6, S6, q6⟩ := good; exact ⟨_, _, S6.unsuite okX, q6⟩
          | cont => obtain ⟨σ6, H6, S6, q6⟩ := good; exact ⟨_, _, S6.unsuite okX, q6⟩
      | @named x nm c i ts b₀ suite np pos' hds2 l2 hc hi hln hsu r ih =>
        intro w
        obtain ⟨b, hb1, hyes, hno⟩ := w
        refine wpAny_handleBy_cons (codeAny_handlers_test (test hc ((PySem.W.exm_one (M := model X.prog X.w) Jl.kIn LT hb1).here ?_))) (by intro q; cases q)
        cases b with
        | false => exact (show wpAny _ X.A (handleBy (.ref a) X.env hds2) _ _ _ from ih (hno rfl))
        | true =>
          refine codeAny_handlers_suite_as (HandSPX.lands_againZ fl3 fun h4 fl4 up4 => ?_)
          obtain ⟨oe4, vs4, at4, z4, dat4⟩ := fl4.there
          have Su4 := (Jx.landed nb fl4.1 ((upA.trans up3).trans up4) osA ag : Inv X pins σ' H' { s' with heap := h4 }).suite at4 dat4 na offL offF
          refine store_ok (X := X.suite a ((a, oe4) :: (X.pn ++ pins))) (v := .ref a) Su4 hN hi (.inl hln) rfl (fun s5 Su5 => ?_) (.inr hln)
          refine wpAny_mono ((hsu a oe4 cls d (X.pn ++ pins) z4 ⟨_, dat4⟩).run [] s5 _ H' _ Su5 (hyes rfl a na)) (fun f s6 good => ?_) fun _ _ z => z.elim
          have gone : ∀ {σ6 : L2.St} {H6 : Hp} {Q : Shared → Prop}, Inv (X.suite a ((a, oe4) :: (X.pn ++ pins))) [] σ6 H6 s6 → (∀ s7, Inv X pins (σ6.set i none) H6 s7 → Q s7) → wpAny (model X.prog X.w) X.A (do bindName X.env nm .none; unbindBehindTheSuite X.env nm pos') (fun _ s7 => Q s7) X.xe s6 := fun {σ6 H6 Q} S6 hq => gone_ok (S6.unsuite okX) hN hi hln hq
          cases f with
          | ret u => obtain ⟨v6, σ6, H6, S6, r6, q6⟩ := good; exact gone S6 fun s7 J7 => ⟨_, _, _, J7, r6, q6⟩
          | next => obtain ⟨σ6, H6, S6, q6⟩ := good; exact gone S6 fun s7 J7 => ⟨_, _, J7, q6⟩
          | brk => obtain ⟨σ6, H6, S6, q6⟩ := good; exact gone S6 fun s7 J7 => ⟨_, _, J7, q6⟩
          | cont => obtain ⟨σ6, H6, S6, q6⟩ := good; exact gone S6 fun s7 J7 => ⟨_, _, J7, q6⟩
    exact all hh w
  · cases f with
    | ret u => obtain ⟨v, σ', H', J', r, q⟩ := good; exact ⟨v, σ', H', J'.ofTry okX, r, q⟩
    | brk => obtain ⟨σ', H', J', q⟩ := good; exact ⟨σ', H', J'.ofTry okX, q⟩
    | cont => obtain ⟨σ', H', J', q⟩ := good; exact ⟨σ', H', J'.ofTry okX, q⟩
    | next => obtain ⟨σ', H', J', q⟩ := good; exact wpAny_execs_nil ⟨σ', H', J'.ofTry okX, q⟩
end
/-! ## classes -/
/-- what is asked of a class's __init__ that passes a text on -/
def spBI (K : PySem.W.Frag) : Sp := fun vs H Q E => ∃ (a C : Addr) (w : V), vs = [.ref a, w] ∧ OexC K C ∧ H a = some (exo a C none) ∧ Q .non H
/-- .. that stores its arguments as fields -/
def spI (C : Addr) (fs : List Str) : Sp := fun vs H Q E => ∃ (a : Addr) (ws : List V), vs = .ref a :: ws ∧ ws.length = fs.length ∧ H a = some (exo a C none) ∧
  ∀ d H2, H d = none → d ≠ a → H2 a = some (exo a C (some d)) → H2 d = some (exd d (fs.zip ws).reverse) → (∀ b, b ≠ a → b ≠ d → H2 b = H b) → Q .non H2
theorem spBI_len {K : PySem.W.Frag} {x y : Str} {vs : List V} {H : Hp} {Q : VK} {E : XK} (h : spBI K vs H Q E) : vs.length = ([x, y] : List Str).length := by
  obtain ⟨a, C, w, rfl, _⟩ := h
  rfl
theorem spI_len {C : Addr} {x : Str} {fs : List Str} {vs : List V} {H : Hp} {Q : VK} {E : XK} (h : spI C fs vs H Q E) : vs.length = (x :: fs).length := by
  obtain ⟨a, ws, rfl, e, _⟩ := h
  simp [e]
theorem base_ok {K : PySem.W.Frag} {x y : Str} {vs : List V} {H : Hp} {Q : VK} {E : XK} (h : spBI K vs H Q E) : tDrop (tVeI K (tCons (tVar 0) (tCons (tVar 1) tNil))) { nx := fun _ H' => Q .non H', rt := Q } (L2.start [x, y] vs) H := by
  obtain ⟨a, C, w, rfl, T, e, q⟩ := h
  exact ⟨.ref a, rfl, w, rfl, a, C, [w], rfl, by simp, T, e, q⟩
/-- the class at D, whose __init__ is the def at fB -/
structure ExB (K : PySem.W.Frag) (mg : Str → Option Value) (x : Str) (D fB : Addr) : Prop where
  gD : mg x = some (.ref D)
  rd : ClX.CRead K D (.type "type")
  iv : ClX.CVal K D (.type "type") "__init__" (.ref fB) (.ref fB)
  kf : PySem.W.keepIn K (.ref fB) = true
theorem pe_clsinit {X : Cx} {x : Str} {D fB : Addr} {e : Expr} {es : List Expr} {ta : TA} {k : Nat} {fd : FuncData} {ps : List Str} {sp : Sp} {p1 p2 pos : Pos} {pl : Sem Bool} (B : ExB X.K X.mg x D fB) (F : FnOk X.prog X.w X.K X.mg X.base (L2.CX X.prog X.w) k fB fd ps sp) (hr : Room k X.A) (hb : Binds X.K fd ps []) (hg : Gl X x) (ha : PA X (e :: es) ta)
    (hc : eval (.Call (.Attribute (.Name x p1) "__init__" p2) (e :: es) [] pos) X.env = (do
      let ov ← eval (.Name x p1) X.env
      standAt p2.atName
      let (f, first) ← holding [ov] (getMethod ov "__init__" pl)
      callWith pos f first (backTo pos (starEach (e :: es) X.env)) (backToKw pos (keywordEach [] X.env))) := by rfl)
    (hdb : (x == ("__debug__" : Str)) = false := by decide) (he : starEach (e :: es) X.env = (false, eval e X.env) :: starEach es X.env := by rfl) (hpl : (backTo pos (starEach es X.env)).any (·.1) = false := by rfl) :
    PE X (.Call (.Attribute (.Name x p1) "__init__" p2) (e :: es) [] pos) (tCall sp [] L2.E0 ta) := by
  refine ⟨fun pins s σ H Q I h => ?_⟩
  refine PySem.W.methodCall_KW (ld_glob I hg B.gD ?_ hdb) hc
  refine PySem.W.method_cls (I.tok _).kIn B.rd.ga (ClX.getcval_ok (I.tok _) B.rd B.iv fun s' I' => ?_)
  show wpAny _ _ (callWith pos (Value.ref fB) [] (backTo pos (starEach (e :: es) X.env)) []) _ _ _
  refine PySem.W.callWith_K (h₀ := X.base) I.ok.mod.kin B.kf (thn (ha.run pos pins s' σ H _ I' h) fun us s1 ⟨vs, H1, I1, r, q⟩ => ⟨I1.kIn, ?_⟩) he hpl
  exact run_fn F hr hb .nil passL I1 r q
/-- a class: made, raised, its fields read -/
structure ExC (K : PySem.W.Frag) (mg : Str → Option Value) (x : Str) (C fI : Addr) (fs : List Str) : Prop where
  gC : mg x = some (.ref C)
  ox : OexC K C
  iC : PySem.W.findIn K (.ref C) "__init__" = some (some (.ref fI))
  tI : PySem.W.typeIn K (.ref fI) = some (.type "function")
  xf : XfC K C
  no : ∀ f ∈ fs, PySem.W.findIn K (.ref C) f = some none
theorem st0 {σ : L2.St} {H : Hp} {i : Nat} {v : V} {Q : VK} (e : σ[i]? = some (some v)) (q : Q v H) : tVar i σ H Q := ⟨v, e, q⟩
theorem init1_ok {K : PySem.W.Frag} {C : Addr} {m f : Str} {vs : List V} {H : Hp} {Q : VK} {E : XK} (T : OexC K C) (no : PySem.W.findIn K (.ref C) f = some none) (h : spI C [f] vs H Q E) :
    tSeq (tDrop (tCall (spBI K) [] L2.E0 (tCons (tVar 0) (tCons (tC (.str m)) tNil)))) (tOst K f (tVar 0) (tVar 1)) { nx := fun _ H' => Q .non H', rt := Q } (L2.start ["self", f] vs) H := by
  obtain ⟨a, ws, rfl, hl, e, q⟩ := h
  match ws, hl with
  | [w], _ =>
    refine ⟨.ref a, rfl, a, C, .str m, rfl, T, e, ?_⟩
    refine ⟨w, rfl, .ref a, rfl, a, C, rfl, T, no, .inl ⟨e, fun d hd hda => q d _ hd hda upd_same ?_ fun b h1 h2 => ?_⟩⟩
    · rw [upd_ne hda, upd_same]; rfl
    · rw [upd_ne h1, upd_ne h2]
theorem init2_ok {K : PySem.W.Frag} {C : Addr} {m f f2 : Str} {vs : List V} {H : Hp} {Q : VK} {E : XK} (T : OexC K C) (no : PySem.W.findIn K (.ref C) f = some none) (no2 : PySem.W.findIn K (.ref C) f2 = some none) (h : spI C [f, f2] vs H Q E) :
    tSeq (tDrop (tCall (spBI K) [] L2.E0 (tCons (tVar 0) (tCons (tC (.str m)) tNil)))) (tSeq (tOst K f (tVar 0) (tVar 1)) (tOst K f2 (tVar 0) (tVar 2))) { nx := fun _ H' => Q .non H', rt := Q } (L2.start ["self", f, f2] vs) H := by
  obtain ⟨a, ws, rfl, hl, e, q⟩ := h
  match ws, hl with
  | [w, w2], _ =>
    refine ⟨.ref a, rfl, a, C, .str m, rfl, T, e, ?_⟩
    refine ⟨w, rfl, .ref a, rfl, a, C, rfl, T, no, .inl ⟨e, fun d hd hda => ?_⟩⟩
    refine ⟨w2, rfl, .ref a, rfl, a, C, rfl, T, no2, .inr ⟨d, [(f, w)], upd_same, by rw [upd_ne hda, upd_same], by simp, q d _ hd hda ?_ upd_same fun b h1 h2 => ?_⟩⟩
    · rw [upd_ne (Ne.symm hda), upd_same]
    · rw [upd_ne h2, upd_ne h1, upd_ne h2]
theorem mko_in {C : Addr} {fs : List Str} {vs : List V} {H1 : Hp} {Q : XK} (hl : vs.length = fs.length) (h9 : fs.length ≤ 900) (q : ∀ d, H1 d = none → Q (.ref C) (some d) (upd H1 d (.xd (fs.zip vs).reverse))) :
    vs.length ≤ 1000 ∧ ∀ a, H1 a = none → spI C fs (.ref a :: (vs ++ [])) (upd H1 a (exo a C none)) (fun v H2 => v = .non ∧ ∃ d gs, H2 a = some (exo a C (some d)) ∧ H2 d = some (exd d gs) ∧ H1 d = none ∧ Q (.ref C) (some d) (upd (del H2 a) d (.xd gs))) (fun _ _ _ => False) := by
  refine ⟨by omega, fun a ha => ⟨a, vs, by rw [List.append_nil], hl, upd_same, fun d H2 hd hda e1 e2 e3 => ⟨rfl, d, _, e1, e2, ?_, ?_⟩⟩⟩
  · rw [upd_ne hda] at hd; exact hd
  · rw [upd_ne hda] at hd
    have : upd (del H2 a) d (.xd (fs.zip vs).reverse) = upd H1 d (.xd (fs.zip vs).reverse) := by
      funext b
      by_cases hbd : b = d
      · subst hbd; rw [upd_same, upd_same]
      · rw [upd_ne hbd, upd_ne hbd]
        by_cases hba : b = a
        · subst hba; rw [del_same, ha]
        · rw [del_ne hba, e3 b hba hbd, upd_ne hba]
    rw [this]
    exact q d hd
theorem ps_rse {X : Cx} {W : WX} {x : Str} {C fI : Addr} {fs ps : List Str} {e : Expr} {es : List Expr} {ta : TA} {k : Nat} {fd : FuncData} {p pos pos' : Pos} (hc : X.calm = true) (tk : Takes X W) (T : ExC X.K X.mg x C fI fs) (F : FnOk X.prog X.w X.K X.mg X.base (L2.CX X.prog X.w) k fI fd ps (spI C fs)) (hr : Room (k + 1) X.A) (hb : Binds X.K fd ps [])
    (hg : Gl X x) (ha : PA X (e :: es) ta) (hdb : (x == ("__debug__" : Str)) = false := by decide) (he : starEach (e :: es) X.env = (false, eval e X.env) :: starEach es X.env := by rfl) (hpl : (backTo pos (starEach es X.env)).any (·.1) = false := by rfl) :
    PS X (.Raise (some (.Call (.Name x p) (e :: es) [] pos)) none pos') (fun _ σ H => tMkO C (spI C fs) [] ta σ H fun cls d H' => W cls d σ H') :=
  L2.ps_raise hc tk (pmk_oex (x := x) (C := C) (fI := fI) (dvs := []) T.ox T.iC T.tI F hr hb .nil passL hg T.gC ha hdb he hpl)
/-- an error of the class at S is, or isn't, what «except T» names -/
theorem exm_of {K : PySem.W.Frag} {S T : Addr} {b : Bool} (e1 : PySem.W.subIn K (.ref T) (.type "BaseException") = some true) (h2 : PySem.W.isClsIn K T = true) (h3 : PySem.W.typeIn K (.ref T) = some (.type "type")) (h4 : PySem.W.subIn K (.ref S) (.ref T) = some b) :
    PySem.W.exmOne K (.ref S) (.ref T) = some b := by
  have k1 : (PySem.W.subIn K (.ref T) (.type "BaseException") == some true) = true := by rw [e1] <;> rfl
  have k2 : ((PySem.W.clsIn K T).isSome && PySem.W.typeIn K (.ref T) == some (.type "type")) = true := by
    rw [show (PySem.W.clsIn K T).isSome = true from h2, h3] <;> rfl
  show (if (PySem.W.subIn K (.ref T) (.type "BaseException") == some true) = true then (if ((PySem.W.clsIn K T).isSome && PySem.W.typeIn K (.ref T) == some (.type "type")) = true then PySem.W.subIn K (.ref S) (.ref T) else none) else none) = some b
  rw [if_pos k1, if_pos k2]
  exact h4
end Mi


/-! # Mi7: targets, comprehensions, statements, defs -/
namespace Mi
open PySem PySem.Spec PyProof.Rows L2

/-! ## targets -/
def gN : List Nat → TGs
  | [] => gNil
  | i :: is => gCons (gName i) (gN is)
def gT (K : PySem.W.Frag) : Tg → TG
  | .nm i => gName i
  | .tp is => fun v σ H Q => gTup K is.length (gN is) v σ H Q ∨ gLst K is.length (gN is) v σ H Q
def tgIx : Tg → List Nat
  | .nm i => [i]
  | .tp is => is
theorem wipe_len (σ : L2.St) (vs : List Nat) : (L2.wipe σ vs).length = σ.length := L2.wipe_length σ vs
theorem wipe_get (σ : L2.St) : ∀ (vs : List Nat) (i : Nat), (L2.wipe σ vs)[i]? = if i ∈ vs ∧ i < σ.length then some none else σ[i]?
  | [], i => by simp [L2.wipe]
  | v :: vs, i => by
    unfold L2.wipe
    have ih := wipe_get σ vs i
    by_cases h : v = i
    · subst h
      by_cases hl : v < σ.length
      · rw [List.getElem?_set_self (by rw [wipe_len]; exact hl), if_pos ⟨List.mem_cons_self, hl⟩]
      · rw [List.getElem?_eq_none (by rw [List.length_set, wipe_len]; omega), if_neg (by omega), List.getElem?_eq_none (by omega)]
    · rw [List.getElem?_set_ne h, ih]
      have h' : ¬ i = v := fun z => h z.symm
      simp [h']
theorem wipe_set {σ : L2.St} {vs : List Nat} {i : Nat} {x : Option V} (hi : i ∈ vs) : L2.wipe (σ.set i x) vs = L2.wipe σ vs := by
  apply List.ext_getElem?
  intro j
  rw [wipe_get, wipe_get, List.length_set]
  by_cases h : i = j
  · subst h
    by_cases hl : i < σ.length
    · simp [hi, hl]
    · rw [if_neg (by omega), if_neg (by omega), List.getElem?_eq_none (by rw [List.length_set]; omega), List.getElem?_eq_none (by omega)]
  · rw [List.getElem?_set_ne h]
theorem wipe_idem {σ : L2.St} {vs : List Nat} : L2.wipe (L2.wipe σ vs) vs = L2.wipe σ vs := by
  apply List.ext_getElem?
  intro j
  rw [wipe_get, wipe_get, wipe_len]
  by_cases h : j ∈ vs ∧ j < σ.length
  · rw [if_pos h, if_pos h]
  · rw [if_neg h, if_neg h]
section
variable {t : Th} {ρ : List Addr} {h : Heap} {H : Hp}
theorem sr_wipe {s : Sl} {σ : L2.St} (hx : t.ex = none) (r : SR t ρ s σ) : ∀ vs : List Nat, SR t ρ (Mi.wipe s vs) (L2.wipe σ vs)
  | [] => r
  | v :: vs => by
    unfold Mi.wipe L2.wipe
    exact ⟨pr_set (show SO t ρ none none from trivial) v (sr_wipe hx r vs).pr, fun _ _ _ _ e => by rw [hx] at e; cases e⟩
theorem gN_use {K : PySem.W.Frag} {Q : L2.St → Hp → Prop} : ∀ {is : List Nat} {vs : List Val} {ys : List V} {s s' : Sl} {σ : L2.St}, VRs t ρ vs ys → SR t ρ s σ → setAll is vs s = some s' →
    (∀ σ', SR t ρ s' σ' → (∀ ws, (∀ i ∈ is, i ∈ ws) → L2.wipe σ' ws = L2.wipe σ ws) → Q σ' H) → gN is ys σ H Q
  | [], vs, ys, s, s', σ, r, sr, e, k => by
    cases vs with
    | nil => cases r; cases e; exact ⟨rfl, k σ sr fun _ _ => rfl⟩
    | cons v vs => cases e
  | i :: is, vs, ys, s, s', σ, r, sr, e, k => by
    cases vs with
    | nil => cases e
    | cons v vs =>
      cases r with
      | cons r rs =>
        refine ⟨_, _, rfl, ?_⟩
        refine gN_use (K := K) rs (sr.put i r) e fun σ' sr' hw => k σ' sr' fun ws hws => ?_
        rw [hw ws fun j hj => hws j (List.mem_cons_of_mem _ hj)]
        exact wipe_set (hws i List.mem_cons_self)
omit t ρ h H in
theorem setAll_len : ∀ {is : List Nat} {vs : List Val} {s s' : Sl}, setAll is vs s = some s' → vs.length = is.length
  | [], [], _, _, _ => rfl
  | [], _ :: _, _, _, e => by cases e
  | _ :: _, [], _, _, e => by cases e
  | _ :: _, _ :: _, _, _, e => by simp only [List.length_cons, Nat.add_right_cancel_iff]; exact setAll_len e
theorem gT_use {K : PySem.W.Frag} {m : Tg} {v : Val} {y : V} {s s' : Sl} {σ : L2.St} {Q : L2.St → Hp → Prop} (x : HR t ρ h H) (r : VR t ρ v y) (sr : SR t ρ s σ) (e : tgV m v s h = some s')
    (k : ∀ σ', SR t ρ s' σ' → (∀ ws, (∀ i ∈ tgIx m, i ∈ ws) → L2.wipe σ' ws = L2.wipe σ ws) → Q σ' H) : gT K m y σ H Q := by
  cases m with
  | nm i =>
    cases e
    exact k _ (sr.put i r) fun ws hws => wipe_set (hws i (List.mem_singleton.mpr rfl))
  | tp is =>
    unfold tgV at e
    dsimp only at e
    split at e
    · split at e
      · rename_i vs hk
        obtain ⟨a, rfl, a1, ys, hl, rr⟩ := x.ref hk r
        refine Or.inl ⟨a, ys, rfl, .of hl, ?_, gN_use (K := K) rr sr e k⟩
        rw [← rr.length]
        exact setAll_len e
      · rename_i vs hk
        obtain ⟨a, rfl, a1, ys, hl, rr⟩ := x.ref hk r
        refine Or.inr ⟨a, ys, rfl, .of hl, ?_, gN_use (K := K) rr sr e k⟩
        rw [← rr.length]
        exact setAll_len e
      · cases e
    · cases e
end
section
variable {t : Th} {ρ ρ1 : List Addr} {h : Heap} {H H1 : Hp} {D : Addr}
/-- an object that is not tracked is written -/
theorem HR.aside (x : HR t ρ h H) (hD : D ∉ ρ) (hf : ∀ o w, H D ≠ some (.frz o w)) (hx : ∀ ys, H D ≠ some (.xd ys)) {u : HO} : HR t ρ h (upd H D u) := by
  refine ⟨x.len, x.nd, fun n ob b e1 e2 => (x.ob n ob b e1 e2).at (upd_ne fun z => hD (z ▸ List.mem_of_getElem? e2)), ?_, fun _ _ d fs ed => ?_⟩
  · rcases x.sc with ⟨o, e⟩ | e
    · exact .inl ⟨o, by rw [upd_ne fun z => hf _ _ (z ▸ e)]; exact e⟩
    · exact .inr e
  · obtain ⟨ys, e, q⟩ := x.xs _ _ d fs ed
    exact ⟨ys, by rw [upd_ne fun z => hx _ (z ▸ e)]; exact e, q⟩
theorem Ext.aside (e : Ext ρ1 H1 ρ H) (hD : H1 D = none) {u : HO} : Ext ρ1 H1 ρ (upd H D u) :=
  ⟨e.pre, fun a o ha ho => by rw [upd_ne (ne_of_none ho hD)]; exact e.keep a o ha ho, e.nu⟩
/-- it is tracked from now on -/
theorem HR.adopt (x : HR t ρ h H) (hD : D ∉ ρ) {o : Ob} (k : OR t (ρ ++ [D]) H D o) : HR t (ρ ++ [D]) (h ++ [o]) H := by
  refine ⟨by simp [x.len], ?_, fun n ob b e1 e2 => ?_, x.sc, fun _ _ d fs ed => by obtain ⟨ys, e, q⟩ := x.xs _ _ d fs ed; exact ⟨ys, e, pr_mono (fun _ _ z => ⟨z.1, z.2.app⟩) q⟩⟩
  · rw [List.nodup_append]
    refine ⟨x.nd, by simp, fun b hb c hc e => ?_⟩
    have hc' : c = D := by simpa using hc
    exact hD (by rw [← hc', ← e]; exact hb)
  · by_cases hn : n < h.length
    · rw [List.getElem?_append_left hn] at e1
      rw [List.getElem?_append_left (by rw [x.len]; exact hn)] at e2
      exact (x.ob n ob b e1 e2).app
    · have hn2 : n = h.length := by
        have := (List.getElem?_eq_some_iff.mp e1).1
        simp at this; omega
      subst hn2
      simp at e1
      rw [← x.len] at e2
      simp at e2
      subst e1; subst e2
      exact k
theorem Ext.adopt (e : Ext ρ1 H1 ρ H) (hD : H1 D = none) : Ext ρ1 H1 (ρ ++ [D]) H := by
  refine ⟨?_, e.keep, fun a h1 h2 => ?_⟩
  · obtain ⟨τ, rfl⟩ := e.pre
    exact ⟨τ ++ [D], by rw [List.append_assoc]⟩
  · rcases List.mem_append.mp h1 with z | z
    · exact e.nu a z h2
    · have : a = D := by simpa using z
      rw [this]; exact hD
theorem Ext.not (e : Ext ρ1 H1 ρ H) (hD : D ∉ ρ1) {o : HO} (ho : H1 D = some o) : D ∉ ρ ∧ H D = some o :=
  ⟨fun hm => (by have := e.nu D hm hD; rw [ho] at this; cases this), e.keep D o hD ho⟩
end

theorem Post.bind1 {α β : Type} {t : Th} {ρ : List Addr} {H : Hp} {E : Value → Option Addr → Hp → Prop} {r : Res α} {f : α → Heap → Res β} {k : β → Heap → List Addr → Hp → Prop} (p : Post t ρ H (r.bind f) k E) :
    Post t ρ H r (fun a h1 _ _ => Post t ρ H (f a h1) k E) E := by
  cases r with
  | ok a h1 => exact fun ρ2 H2 e2 x => p
  | exc c fs h => exact p
  | bad => exact p
/-! ## comprehensions -/
abbrev W0 : L2.WX := fun _ _ _ _ => False
theorem OkC.blk {X : Cx} {t : Th} {W : L2.WX} (O : OkC X t W) (s : Shared) (H : Hp) (scope : Scope) (C : Addr) (cl : List (Str × Addr)) (fp : List Addr) : OkC (X.blk s H scope (compEnvC scope cl C X.env) fp) t W0 :=
  ⟨⟨O.hK, O.nd, O.hu, O.hg, O.sm, PassesOwn.never, takes0⟩, O.calm, O.px⟩
section
variable {X : Cx} {t : Th} {W : L2.WX} {g : G} {a b c e o tg elt iter : Expr} {es ifs : List Expr} {ma mb mc m mo me : Ex} {moc : Exo} {ms : Exs} {pos : Pos} {mt : Tg} {sr : Src}
theorem c_none : PTs X [] (tT t W (denc g .none)) := ⟨fun pins s σ H Q I ⟨ρ, h, sl, x, sr, p⟩ => pts_nil.run pins s σ H Q I (Post.ok x p)⟩
theorem c_some (ha : PT X a (tT t W (denT g ma))) : PTs X [a] (tT t W (denc g (.some ma))) := by
  refine ⟨fun pins s σ H Q I ⟨ρ, h, sl, x, sr, p⟩ => (pts_one ha).run pins s σ H Q I ⟨ρ, h, sl, x, sr, ?_⟩⟩
  unfold denc at p
  exact p
/-- a comprehension's reading from what it gathers -/
theorem lc_imp {own : List Nat} (hpx : t.ex = none) (hown : ∀ i ∈ tgIx mt, i ∈ own) {σ : L2.St} {H : Hp} {Q : VK} (q : tE t W (den g (.lc me mt sr ms own moc)) σ H Q) :
    tLc (tI t W (fun s h => (dens g ms s h).bind fun vs h => srcR sr vs h)) (gT X.K mt) (tT t W0 (denc g moc)) (tE t W0 (den g me)) own σ H Q := by
  obtain ⟨ρ, h, s, hr, hs, p⟩ := q
  unfold den at p
  refine ⟨ρ, h, s, hr, hs, (Post.bind p).imp fun w h1 ρ1 H1 e1 x1 p1 J hJ D hD => ?_⟩
  have hs1 := SR.ext e1 hs
  have nD : D ∉ ρ1 := x1.free hD
  refine ⟨fun i m H' => ∃ ρ' h' acc ys, Ext ρ1 H1 ρ' H' ∧ HR t ρ' h' H' ∧ D ∉ ρ' ∧ H' D = some (.lst ys) ∧ VRs t ρ' acc ys ∧ i ≤ w.items.length ∧ m = w.items.length - i ∧
    Post t ρ1 H1 (lcF w mt (denc g moc) (den g me) (Mi.wipe s own) (w.items.drop i) acc h') (fun vs h2 ρ2 H2 => Post t ρ1 H1 (new (.lst vs) h2) (KV1 t Q) (EW W σ)) (EW W σ), ⟨w.items.length, ?_⟩, ?_⟩
  · exact ⟨ρ1, h1, [], [], (Ext.refl _ _).aside hD, x1.aside nD (by rw [hD]; exact fun _ _ => nofun) (by rw [hD]; exact fun _ => nofun), nD, upd_same, .nil, Nat.zero_le _, rfl, Post.bind1 p1⟩
  · rintro i m H' ⟨ρ', h', acc, ys, e', x', nD', hD', ra, hi, rfl, p'⟩
    have wok : w.ok h' = true := by
      cases hd : w.items.drop i with
      | nil =>
        rw [hd] at p'
        unfold lcF at p'
        split at p'
        · assumption
        · exact p'.elim
      | cons it its =>
        rw [hd] at p'
        unfold lcF at p'
        split at p'
        · assumption
        · exact p'.elim
    obtain ⟨h1', h2'⟩ := hJ i ρ' h' H' e'.pre x' wok
    by_cases hlt : i < w.items.length
    · obtain ⟨it, hit⟩ : ∃ it, w.items[i]? = some it := ⟨w.items[i], by simp [hlt]⟩
      obtain ⟨go, yl⟩ := h2' it hit
      have hdrop : w.items.drop i = it :: w.items.drop (i + 1) := by
        have h3 : w.items[i] = it := by
          have := List.getElem?_eq_getElem hlt
          rw [hit] at this
          exact (Option.some.inj this).symm
        rw [← h3]
        exact List.drop_eq_getElem_cons hlt
      rw [hdrop] at p'
      refine .inr ⟨go, _, fun H2 k => ⟨w.items.length - (i + 1), by omega, k⟩, fun y H2 hy => ?_⟩
      obtain ⟨ρ2, e2, x2, r2⟩ := yl y H2 hy
      have E2 := e'.trans e2
      obtain ⟨nD2, hD2⟩ := e2.not nD' hD'
      unfold lcF at p'
      rw [if_pos wok] at p'
      split at p'
      · exact p'.elim
      · rename_i s' hs'
        refine gT_use x2 r2 (SR.ext E2 (sr_wipe hpx hs1 own)) hs' fun σ' sr' hw => ⟨?_, ?_⟩
        · rw [hw own hown]; exact wipe_idem
        · refine ⟨ρ2, _, s', x2, sr', ?_⟩
          generalize hc : denc g moc s' (yieldI it h').2 = rc at p' ⊢
          cases rc with
          | bad => exact p'.elim
          | exc c fs hx => exact p'.elim
          | ok b h3 =>
            intro ρ3 H3 e3 x3
            have E3 := E2.trans e3
            obtain ⟨nD3, hD3⟩ := e3.not nD2 hD2
            cases b with
            | false =>
              show (if false = true then _ else _)
              rw [if_neg Bool.false_ne_true]
              exact ⟨ρ3, h3, acc, ys, E3, x3, nD3, hD3, VRs.ext (e2.trans e3) ra, by omega, rfl, p'⟩
            | true =>
              show (if true = true then _ else _)
              rw [if_pos rfl]
              refine ⟨ρ3, h3, s', x3, SR.ext e3 sr', ?_⟩
              dsimp only at p'
              generalize he : den g me s' h3 = re at p' ⊢
              cases re with
              | bad => exact p'.elim
              | exc c fs hx => exact p'.elim
              | ok v h4 =>
                intro ρ4 H4 e4 x4 z rz
                dsimp only at p'
                split at p'
                · rename_i hz
                  have E4 := E3.trans e4
                  obtain ⟨nD4, hD4⟩ := e4.not nD3 hD3
                  have ra4 := VRs.ext (e2.trans (e3.trans e4)) ra
                  exact ⟨ys, hD4, by rw [← ra4.length]; exact hz, ρ4, h4, acc ++ [v], ys ++ [z], E4.aside hD, x4.aside nD4 (by rw [hD4]; exact fun _ _ => nofun) (by rw [hD4]; exact fun _ => nofun), nD4, upd_same, ra4.snoc rz, by omega, rfl, p'⟩
                · exact p'.elim
    · have hd : w.items.drop i = [] := List.drop_eq_nil_iff.mpr (by omega)
      refine .inl ⟨h1' (by omega), ?_⟩
      rw [hd] at p'
      unfold lcF at p'
      rw [if_pos wok] at p'
      have p2 := p' ρ' H' e' x'
      exact p2 (ρ' ++ [D]) H' (e'.adopt hD) (x'.adopt nD' ⟨ys, hD', pr_mono (fun _ _ z => z.app) ra⟩) _ (VR.new x')
theorem e_lc {own : List (Str × Nat)} {scope : Scope} (O : OkC X t W) (hi : PI X tg iter (tI t W (fun s h => (dens g ms s h).bind fun vs h => srcR sr vs h))) (ok : BlkOk X.N X.env.scope scope own) (hown : ∀ i ∈ tgIx mt, i ∈ own.map (·.2))
    (hg : ∀ (s : Shared) (H : Hp) (C : Addr) (cl : List (Str × Addr)) (fp : List Addr), OkC (X.blk s H scope (compEnvC scope cl C X.env) fp) t W0 → PG (X.blk s H scope (compEnvC scope cl C X.env) fp) tg (gT X.K mt))
    (hc : ∀ (s : Shared) (H : Hp) (C : Addr) (cl : List (Str × Addr)) (fp : List Addr), OkC (X.blk s H scope (compEnvC scope cl C X.env) fp) t W0 → PTs (X.blk s H scope (compEnvC scope cl C X.env) fp) ifs (tT t W0 (denc g moc)))
    (he : ∀ (s : Shared) (H : Hp) (C : Addr) (cl : List (Str × Addr)) (fp : List Addr), OkC (X.blk s H scope (compEnvC scope cl C X.env) fp) t W0 → PE (X.blk s H scope (compEnvC scope cl C X.env) fp) elt (tE t W0 (den g me)))
    (hs : ∀ x, foldedSetIterable iter X.env x = pure x := by intro _; rfl) :
    PE X (.ListComp elt [⟨tg, iter, ifs, 0⟩] scope pos) (tE t W (den g (.lc me mt sr ms (own.map (·.2)) moc))) :=
  PEi (pe_lc O.calm O.nd hi ok (fun s H C cl fp => hg s H C cl fp (O.blk s H scope C cl fp)) (fun s H C cl fp => hc s H C cl fp (O.blk s H scope C cl fp)) (fun s H C cl fp => he s H C cl fp (O.blk s H scope C cl fp)) hs) fun σ H Q q => lc_imp O.px hown q
end

theorem kr_any {k : Key} {t : Th} {ρ : List Addr} : ∀ {xs : List (Key × Val)} {ys : List (Key × V)}, KRs t ρ xs ys → (xs.any fun kv => decide (kv.1 = k)) = ys.any fun kv => decide (kv.1 = k)
  | _, _, .nil => rfl
  | x :: xs, y :: ys, .cons ⟨e, r⟩ qs => by
    simp only [List.any_cons]
    rw [kr_any qs, e]
theorem kr_put {k : Key} {t : Th} {ρ : List Addr} {v : Val} {y : V} {xs : List (Key × Val)} {ys : List (Key × V)} (r : KRs t ρ xs ys) (rv : VR t ρ v y) : KRs t ρ (putK xs k v) (L2.putK ys k y) := by
  unfold putK L2.putK
  rw [kr_any r]
  split
  · refine pr_map (fun a b h => ?_) r
    rw [← h.1]
    split
    · exact ⟨rfl, rv⟩
    · exact h
  · exact pr_append r (.cons ⟨rfl, rv⟩ .nil)
/-! ## statements -/
section
variable (t : Th) (W : L2.WX)
/-- what is wanted of a statement's end -/
def KFl (D : Ends) : Fl → Heap → List Addr → Hp → Prop := fun fl _ ρ' H' =>
  match fl with
  | .nx s' => ∀ σ', SR t ρ' s' σ' → D.nx σ' H'
  | .rt v => ∀ y, VR t ρ' v y → D.rt y H'
  | .ex c fs s' => ∀ C d ys σ', t.ga c = some C → H' d = some (.xd ys) → FRs t ρ' fs ys → SR t ρ' s' σ' → W (.ref C) (some d) σ' H'
def tS (f : Sl → Heap → Res Fl) : TS := fun D σ H => ∃ ρ h s, HR t ρ h H ∧ SR t ρ s σ ∧ Post t ρ H (f s h) (KFl t W D) E0'
end
theorem PSi {X : Cx} {e : Stmt} {t t' : TS} (p : PS X e t) (h : ∀ D σ H, t' D σ H → t D σ H) : PS X e t' := ⟨fun pins s σ H D I q => p.run pins s σ H D I (h D σ H q)⟩
theorem PSsi {X : Cx} {e : List Stmt} {t t' : TS} (p : PSs X e t) (h : ∀ D σ H, t' D σ H → t D σ H) : PSs X e t' := ⟨fun pins s σ H D I q => p.run pins s σ H D I (h D σ H q)⟩
theorem PGi {X : Cx} {e : Expr} {t t' : TG} (p : PG X e t) (h : ∀ v σ H Q, t' v σ H Q → t v σ H Q) : PG X e t' := ⟨fun pins s σ H v u Q I r q => p.run pins s σ H v u Q I r (h v σ H Q q)⟩
section
variable {t : Th} {W : L2.WX} {ρ : List Addr} {h : Heap} {H : Hp} {α : Type}
theorem Post.sb {r : Res α} {s : Sl} {σ : L2.St} {f : α → Heap → Res Fl} {D : Ends} (sr : SR t ρ s σ) (p : Post t ρ H (r.sb s f) (KFl t W D) E0') : Post t ρ H r (fun a h1 ρ1 H1 => Post t ρ1 H1 (f a h1) (KFl t W D) E0') (EW W σ) := by
  cases r with
  | ok a h1 => exact fun ρ2 H2 e2 x => Post.ext e2 p
  | exc c fs h1 => exact fun ρ2 H2 C d ys e2 x hc hd hf => p ρ2 H2 e2 x C d ys σ hc hd hf (SR.ext e2 sr)
  | bad => exact p
/-- the end of a piece, with what stands behind it -/
theorem Post.goE {r : Res Fl} {k : Sl → Heap → Res Fl} {D D' : Ends} (hn : ∀ ρ1 h1 s1 σ' H1, Ext ρ H ρ1 H1 → HR t ρ1 h1 H1 → SR t ρ1 s1 σ' → Post t ρ1 H1 (k s1 h1) (KFl t W D) E0' → D'.nx σ' H1) (hr : D'.rt = D.rt) (p : Post t ρ H (r.bind fun f h => f.go h k) (KFl t W D) E0') : Post t ρ H r (KFl t W D') E0' := by
  refine (Post.bind p).imp fun fl h1 ρ1 H1 e1 x1 p1 => ?_
  cases fl with
  | nx s' => exact fun σ' sr => hn ρ1 h1 s' σ' H1 e1 x1 sr p1
  | rt v => exact fun y ry => by rw [hr]; exact Post.ok x1 p1 y ry
  | ex c fs s' => exact Post.ok (E := E0') x1 p1
theorem Post.go {r : Res Fl} {k : Sl → Heap → Res Fl} {D D' : Ends} (hn : ∀ σ' H', tS t W k D σ' H' → D'.nx σ' H') (hr : D'.rt = D.rt) (p : Post t ρ H (r.bind fun f h => f.go h k) (KFl t W D) E0') : Post t ρ H r (KFl t W D') E0' := by
  refine (Post.bind p).imp fun fl h1 ρ1 H1 e1 x1 p1 => ?_
  cases fl with
  | nx s' => exact fun σ' sr => hn σ' H1 ⟨ρ1, h1, s', x1, sr, p1⟩
  | rt v => exact fun y ry => by rw [hr]; exact Post.ok x1 p1 y ry
  | ex c fs s' => exact Post.ok (E := E0') x1 p1
end
section
variable {X : Cx} {t : Th} {W : L2.WX} {g : G} {a b c e o i tg elt iter : Expr} {es ifs : List Expr} {ma mb mc m mo mi me : Ex} {moc : Exo} {ms : Exs} {pos : Pos} {mt : Tg} {sr : Src} {st : Stmt} {ss ss2 : List Stmt} {ns : St} {nss nss2 : Sts}
theorem ss_nil : PSs X [] (tS t W (exes g .nil)) := PSsi pss_nil fun D σ H ⟨ρ, h, s, x, sr, p⟩ => Post.ok x p σ sr
theorem ss_cons (h1 : PS X st (tS t W (exe g ns))) (h2 : PSs X ss (tS t W (exes g nss))) : PSs X (st :: ss) (tS t W (exes g (.cons ns nss))) := by
  refine PSsi (pss_cons h1 h2) fun D σ H ⟨ρ, h, s, x, sr, p⟩ => ⟨ρ, h, s, x, sr, ?_⟩
  unfold exes at p
  exact Post.go (D' := { D with nx := tS t W (exes g nss) D }) (fun σ' H' q => q) rfl p
theorem s_pass : PS X (.Pass pos) (tS t W (exe g .pass)) := PSi ps_pass fun D σ H ⟨ρ, h, s, x, sr, p⟩ => Post.ok x p σ sr
theorem s_nvr : PS X st (tS t W (exe g .nvr)) := PSi ps_never fun D σ H ⟨ρ, h, s, x, sr, p⟩ => p
theorem s_exp (ha : PE X a (tE t W (den g ma))) (hs : swapsWith a none pos.line X.env = pure false := by rfl) : PS X (.Expr a pos) (tS t W (exe g (.exp ma))) := by
  refine PSi (ps_expr ha hs) fun D σ H ⟨ρ, h, s, x, sr, p⟩ => ⟨ρ, h, s, x, sr, ?_⟩
  unfold exe at p
  exact (Post.sb sr p).imp fun v h1 ρ1 H1 e1 x1 p1 y ry => Post.ok x1 p1 σ (SR.ext e1 sr)
theorem s_ret (ha : PE X a (tE t W (den g ma))) : PS X (.Return (some a) pos) (tS t W (exe g (.ret ma))) := by
  refine PSi (ps_ret ha) fun D σ H ⟨ρ, h, s, x, sr, p⟩ => ⟨ρ, h, s, x, sr, ?_⟩
  unfold exe at p
  exact (Post.sb sr p).imp fun v h1 ρ1 H1 e1 x1 p1 y ry => Post.ok x1 p1 y ry
theorem s_retN : PS X (.Return none pos) (tS t W (exe g (.ret (.cst .non)))) := by
  refine PSi ps_retN fun D σ H ⟨ρ, h, s, x, sr, p⟩ => ?_
  unfold exe den at p
  exact Post.ok x p _ rfl
theorem asg_imp {D : Ends} {σ : L2.St} {H : Hp} (q : tS t W (exe g (.asg mt ma)) D σ H) : tAsg (tE t W (den g ma)) (gT X.K mt) D σ H := by
  obtain ⟨ρ, h, s, x, sr, p⟩ := q
  unfold exe at p
  refine ⟨ρ, h, s, x, sr, (Post.sb sr p).imp fun v h1 ρ1 H1 e1 x1 p1 y ry => ?_⟩
  unfold setT at p1
  split at p1
  · rename_i s' hs'
    exact gT_use x1 ry (SR.ext e1 sr) hs' fun σ' sr' _ => Post.ok x1 p1 σ' sr'
  · exact p1.elim
theorem s_asg (ha : PE X a (tE t W (den g ma))) (hg : PG X tg (gT X.K mt)) (hs : swapsWithSole [tg] a pos.line X.env = pure false := by rfl) (hw : swappedStores [tg] a X.env = pure none := by rfl)
    (h1 : (assignEach [tg] X.env).map (·.2) = [assign tg X.env] := by rfl) : PS X (.Assign [tg] a pos) (tS t W (exe g (.asg mt ma))) :=
  PSi (ps_asg ha hg hs hw h1) fun D σ H q => asg_imp q
theorem g_nm {j : Nat} {x : Str} {p : Pos} (O : Ok X t W) (hi : X.N[j]? = some x := by rfl) (hx : Loc X.env.scope x := by first | exact Or.inl rfl | exact Or.inr rfl) (hf : X.fn x = true ∨ X.env.scope.names.lookup x = some .local := by first | exact .inl rfl | exact .inr rfl | assumption) : PG X (.Name x p) (gT X.K (.nm j)) :=
  pg_name O.nd hi hx hf
theorem gs_nil : PGs X [] (gN []) := pgs_nil
theorem gs_cons {j : Nat} {is : List Nat} {x : Str} {p : Pos} {ts : List Expr} (O : Ok X t W) (h2 : PGs X ts (gN is)) (hi : X.N[j]? = some x := by rfl) (hx : Loc X.env.scope x := by first | exact Or.inl rfl | exact Or.inr rfl) (hf : X.fn x = true ∨ X.env.scope.names.lookup x = some .local := by first | exact .inl rfl | exact .inr rfl | assumption)
    (hs : (assignEach (.Name x p :: ts) X.env).map (·.2) = assign (.Name x p) X.env :: (assignEach ts X.env).map (·.2) := by rfl) : PGs X (.Name x p :: ts) (gN (j :: is)) :=
  pgs_cons (pg_name O.nd hi hx hf) h2 hs
theorem g_tp {is : List Nat} {ts : List Expr} {k : Nat} (O : OkC X t W) (h : PGs X ts (gN is)) (hn : (assignEach ts X.env).length = is.length := by rfl) (hst : (assignEach ts X.env).findIdx? (·.1) = none := by rfl) : PG X (.Tuple ts k pos) (gT X.K (.tp is)) :=
  ⟨fun pins s σ H v u Q I r hw => hw.elim ((pg_tup O.calm h hn hst).run pins s σ H v u Q I r) ((pg_lst O.calm h hn hst).run pins s σ H v u Q I r)⟩
/-- name = [..] on one line -/
theorem s_asgLc {own : List (Str × Nat)} {scope : Scope} {j : Nat} {y : Str} {py spos : Pos} (O : OkC X t W) (hi : PI X tg iter (tI t W (fun s h => (dens g ms s h).bind fun vs h => srcR sr vs h))) (ok : BlkOk X.N X.env.scope scope own) (hown : ∀ i ∈ tgIx mt, i ∈ own.map (·.2))
    (hg : ∀ (s : Shared) (H : Hp) (C : Addr) (cl : List (Str × Addr)) (fp : List Addr), OkC (X.blk s H scope (compEnvC scope cl C X.env) fp) t W0 → PG (X.blk s H scope (compEnvC scope cl C X.env) fp) tg (gT X.K mt))
    (hc : ∀ (s : Shared) (H : Hp) (C : Addr) (cl : List (Str × Addr)) (fp : List Addr), OkC (X.blk s H scope (compEnvC scope cl C X.env) fp) t W0 → PTs (X.blk s H scope (compEnvC scope cl C X.env) fp) ifs (tT t W0 (denc g moc)))
    (he : ∀ (s : Shared) (H : Hp) (C : Addr) (cl : List (Str × Addr)) (fp : List Addr), OkC (X.blk s H scope (compEnvC scope cl C X.env) fp) t W0 → PE (X.blk s H scope (compEnvC scope cl C X.env) fp) elt (tE t W0 (den g me)))
    (hsw : swapsWith (.ListComp elt [⟨tg, iter, ifs, 0⟩] scope pos) (some (.Name y py)) spos.line X.env = pure true) (hy : X.N[j]? = some y := by rfl) (hyl : X.env.scope.names.lookup y = some .local := by rfl)
    (hs : ∀ x, foldedSetIterable iter X.env x = pure x := by intro _; rfl) :
    PS X (.Assign [.Name y py] (.ListComp elt [⟨tg, iter, ifs, 0⟩] scope pos) spos) (tS t W (exe g (.asg (.nm j) (.lc me mt sr ms (own.map (·.2)) moc)))) :=
  PSi (ps_setLc O.calm O.nd hy hyl hsw hi ok (fun s H C cl fp => hg s H C cl fp (O.blk s H scope C cl fp)) (fun s H C cl fp => hc s H C cl fp (O.blk s H scope C cl fp)) (fun s H C cl fp => he s H C cl fp (O.blk s H scope C cl fp)) hs) fun D σ H q => lc_imp O.px hown (Q := fun v H' => gT X.K (.nm j) v σ H' D.nx) (asg_imp q)
theorem s_par2 {j k : Nat} {x y : Str} {px py pt : Pos} {kt k2 pt2} (O : OkC X t W) (ha : PA X [a, b] (tA t W (dens g ms)))
    (hw : swappedStores [.Tuple [.Name x px, .Name y py] kt pt] (.Tuple [a, b] k2 pt2) X.env = pure (some [x, y])) (hjk : j ≠ k := by decide) (hi : X.N[j]? = some x := by rfl) (hj : X.N[k]? = some y := by rfl)
    (hx : X.env.scope.names.lookup x = some .local := by rfl) (hy : X.env.scope.names.lookup y = some .local := by rfl)
    (hs : swapsWithSole [.Tuple [.Name x px, .Name y py] kt pt] (.Tuple [a, b] k2 pt2) pos.line X.env = pure false := by rfl) :
    PS X (.Assign [.Tuple [.Name x px, .Name y py] kt pt] (.Tuple [a, b] k2 pt2) pos) (tS t W (exe g (.par [j, k] ms))) := by
  refine PSi (ps_par O.calm O.nd hi hj hjk hx hy ha hw hs) fun D σ H ⟨ρ, h, s, x, sr, p⟩ => ⟨ρ, h, s, x, sr, ?_⟩
  unfold exe at p
  refine (Post.sb sr p).imp fun vs h1 ρ1 H1 e1 x1 p1 ys ry => ?_
  unfold setP at p1
  split at p1
  · rename_i s' hs'
    match vs, ry, hs' with
    | [v, w], .cons rv (.cons rw .nil), hs' =>
      cases hs'
      exact ⟨_, _, rfl, Post.ok x1 p1 _ (((SR.ext e1 sr).put j rv).put k rw)⟩
    | [], _, hs' => cases hs'
    | [_], _, hs' => cases hs'
    | _ :: _ :: _ :: _, _, hs' => cases hs'
  · exact p1.elim
/-- o[i] = e -/
theorem set_V (hu : X.A.units + 150 < cLine) : PSet X (fun o i v H Q => ∃ ρ h x y z, HR t ρ h H ∧ VR t ρ x o ∧ VR t ρ y i ∧ VR t ρ z v ∧ Post t ρ H (setV x y z h) (fun _ _ _ H' => Q H') E0') := by
  intro pins s σ H o i v ov iv u Q I ro ri rv ⟨ρ, h, x, y, z, hr, vx, vy, vz, p⟩
  unfold setV at p
  split at p
  · split at p
    · rename_i xs hk
      obtain ⟨l, rfl, l1, ys, hl, r1⟩ := hr.ref hk vx
      split at p
      · split at p
        · rename_i j hj
          cases vy
          exact set_list pins s σ H _ _ _ ov iv u Q I ro ri rv ⟨l, ys, _, j, rfl, rfl, hl, by rw [← r1.length]; exact hj, p ρ _ (Ext.write l1) (hr.write l1 (or_l (pr_set vz _ r1)))⟩
        · exact p.elim
      · exact p.elim
    · rename_i xs hk
      obtain ⟨l, rfl, l1, ys, hl, r1⟩ := hr.ref hk vx
      split at p
      · rename_i kk hkk
        split at p
        · rename_i hz
          have := key_vr hkk vy
          subst this
          obtain rfl : ov = Value.ref l := ro
          refine d_setItem (by omega) I (DPut.k hl (by rw [← Paired.length r1]; exact hz)) ri rv fun s4 I4 => ⟨_, I4, p ρ _ (Ext.write l1) (hr.write l1 ⟨_, upd_same, ?_⟩)⟩
          exact kr_put r1 vz
        · exact p.elim
      · exact p.elim
    · exact p.elim
  · exact p.elim
theorem s_sti {po : Pos} (O : Ok X t W) (ho : PE X o (tE t W (den g mo))) (hi : PE X i (tE t W (den g mi))) (ha : PE X a (tE t W (den g ma)))
    (hA : ∀ v, assign (.Subscript o i po) X.env v = (do
      let ov ← holding [v] (eval o X.env)
      let iv ← holding [v, ov] (eval i X.env)
      standAt po
      holding [v, ov, iv] (setItem ov iv v)
      release [v, ov, iv] []) := by intro _; rfl)
    (hs : swapsWithSole [.Subscript o i po] a pos.line X.env = pure false := by rfl) (hw : swappedStores [.Subscript o i po] a X.env = pure none := by rfl)
    (h1 : (assignEach [.Subscript o i po] X.env).map (·.2) = [assign (.Subscript o i po) X.env] := by rfl) : PS X (.Assign [.Subscript o i po] a pos) (tS t W (exe g (.sti mo mi ma))) := by
  refine PSi (ps_asg ha (pg_sub ho hi (set_V (t := t) O.hu) hA) hs hw h1) fun D σ H ⟨ρ, h, s, x, sr, p⟩ => ⟨ρ, h, s, x, sr, ?_⟩
  unfold exe at p
  refine (Post.sb sr p).imp fun v h1 ρ1 H1 e1 x1 p1 z rz => ⟨ρ1, h1, s, x1, SR.ext e1 sr, ?_⟩
  refine (Post.sb (SR.ext e1 sr) p1).imp fun ov h2 ρ2 H2 e2 x2 p2 zo rzo => ⟨ρ2, h2, s, x2, SR.ext (e1.trans e2) sr, ?_⟩
  refine (Post.sb (SR.ext (e1.trans e2) sr) p2).imp fun iv h3 ρ3 H3 e3 x3 p3 zi rzi => ⟨ρ3, h3, ov, iv, v, x3, rzo.ext e3, rzi, (rz.ext e2).ext e3, ?_⟩
  have p4 := Post.sb (SR.ext ((e1.trans e2).trans e3) sr) p3
  refine Post.nox ?_ (p4.imp fun _ h4 ρ4 H4 e4 x4 p5 => Post.ok x4 p5 σ (SR.ext (((e1.trans e2).trans e3).trans e4) sr))
  unfold setV
  repeat' split
  all_goals first | exact nox_ok | exact nox_bad
theorem nox_set (x y z : Val) (h : Heap) : NoX (setV x y z h) := by
  unfold setV
  repeat' split
  all_goals first | exact nox_ok | exact nox_bad
/-- o[i], p[j] = a pair -/
theorem s_sw2 {o2 i2 : Expr} {mo2 mi2 : Ex} {po po2 pt : Pos} {kt : Nat} (O : OkC X t W) (ho : PE X o (tE t W (den g mo))) (hi : PE X i (tE t W (den g mi))) (ho2 : PE X o2 (tE t W (den g mo2))) (hi2 : PE X i2 (tE t W (den g mi2))) (ha : PE X a (tE t W (den g ma)))
    (hA : ∀ v, assign (.Subscript o i po) X.env v = (do
      let ov ← holding [v] (eval o X.env)
      let iv ← holding [v, ov] (eval i X.env)
      standAt po
      holding [v, ov, iv] (setItem ov iv v)
      release [v, ov, iv] []) := by intro _; rfl)
    (hA2 : ∀ v, assign (.Subscript o2 i2 po2) X.env v = (do
      let ov ← holding [v] (eval o2 X.env)
      let iv ← holding [v, ov] (eval i2 X.env)
      standAt po2
      holding [v, ov, iv] (setItem ov iv v)
      release [v, ov, iv] []) := by intro _; rfl)
    (hn : (assignEach [.Subscript o i po, .Subscript o2 i2 po2] X.env).length = 2 := by rfl) (hst : (assignEach [.Subscript o i po, .Subscript o2 i2 po2] X.env).findIdx? (·.1) = none := by rfl)
    (hq : (assignEach (.Subscript o i po :: [.Subscript o2 i2 po2]) X.env).map (·.2) = assign (.Subscript o i po) X.env :: (assignEach [.Subscript o2 i2 po2] X.env).map (·.2) := by rfl)
    (hq2 : (assignEach (.Subscript o2 i2 po2 :: []) X.env).map (·.2) = assign (.Subscript o2 i2 po2) X.env :: (assignEach [] X.env).map (·.2) := by rfl)
    (hs : swapsWithSole [.Tuple [.Subscript o i po, .Subscript o2 i2 po2] kt pt] a pos.line X.env = pure false := by rfl) (hw : swappedStores [.Tuple [.Subscript o i po, .Subscript o2 i2 po2] kt pt] a X.env = pure none := by rfl)
    (h1 : (assignEach [.Tuple [.Subscript o i po, .Subscript o2 i2 po2] kt pt] X.env).map (·.2) = [assign (.Tuple [.Subscript o i po, .Subscript o2 i2 po2] kt pt) X.env] := by rfl) :
    PS X (.Assign [.Tuple [.Subscript o i po, .Subscript o2 i2 po2] kt pt] a pos) (tS t W (exe g (.sw2 mo mi mo2 mi2 ma))) := by
  refine PSi (ps_asg ha (pg_tup O.calm (pgs_cons (pg_sub ho hi (set_V (t := t) O.hu) hA) (pgs_cons (pg_sub ho2 hi2 (set_V (t := t) O.hu) hA2) pgs_nil hq2) hq) hn hst) hs hw h1) fun D σ H ⟨ρ, h, s, x, sr, p⟩ => ⟨ρ, h, s, x, sr, ?_⟩
  unfold exe at p
  refine (Post.sb sr p).imp fun v h1 ρ1 H1 e1 x1 p1 z rz => ?_
  have sr1 := SR.ext e1 sr
  have p1 := Post.sb sr1 p1
  unfold twoV at p1
  split at p1
  · split at p1
    · rename_i u w hk
      obtain ⟨l, rfl, l1, ys, hl, rr⟩ := x1.ref hk rz
      obtain ⟨yu, yw, rfl, ru, rw'⟩ := vrs2 rr
      refine ⟨l, [yu, yw], rfl, .of hl, rfl, yu, [yw], rfl, ρ1, h1, s, x1, sr1, ?_⟩
      have p1 := Post.ok x1 p1
      refine (Post.sb sr1 p1).imp fun ov h2 ρ2 H2 e2 x2 p2 zo rzo => ⟨ρ2, h2, s, x2, SR.ext e2 sr1, ?_⟩
      have sr2 := SR.ext e2 sr1
      refine (Post.sb sr2 p2).imp fun iv h3 ρ3 H3 e3 x3 p3 zi rzi => ⟨ρ3, h3, ov, iv, u, x3, rzo.ext e3, rzi, (ru.ext e2).ext e3, ?_⟩
      have sr3 := SR.ext e3 sr2
      refine Post.nox (nox_set _ _ _ _) ((Post.sb sr3 p3).imp fun _ h4 ρ4 H4 e4 x4 p4 => ?_)
      have sr4 := SR.ext e4 sr3
      refine ⟨yw, [], rfl, ρ4, h4, s, x4, sr4, (Post.sb sr4 p4).imp fun ov2 h5 ρ5 H5 e5 x5 p5 zo2 rzo2 => ⟨ρ5, h5, s, x5, SR.ext e5 sr4, ?_⟩⟩
      have sr5 := SR.ext e5 sr4
      refine (Post.sb sr5 p5).imp fun iv2 h6 ρ6 H6 e6 x6 p6 zi2 rzi2 => ⟨ρ6, h6, ov2, iv2, w, x6, rzo2.ext e6, rzi2, ((((rw'.ext e2).ext e3).ext e4).ext e5).ext e6, ?_⟩
      have sr6 := SR.ext e6 sr5
      refine Post.nox (nox_set _ _ _ _) ((Post.sb sr6 p6).imp fun _ h7 ρ7 H7 e7 x7 p7 => ?_)
      exact ⟨rfl, Post.ok x7 p7 σ (SR.ext e7 sr6)⟩
    · exact p1.elim
  · exact p1.elim
theorem ip_V {op : Operator} {oo : Op} (h : (op = .Add ∧ oo = .add) ∨ (op = .Sub ∧ oo = .sub)) : PIp X op (rOp t (aop oo)) := by
  rcases h with ⟨rfl, rfl⟩ | ⟨rfl, rfl⟩
  · intro pins s σ H x y u v Q I rx ry ⟨ρ, h, a, b, hr, va, vb, p⟩
    unfold aop at p
    split at p
    · cases va; cases vb
      exact iop_add pins s σ H _ _ u v Q I rx ry ⟨_, _, rfl, rfl, p.ok hr _ rfl⟩
    · exact absurd (by assumption : Op.add = Op.sub) (by decide)
    · split at p
      · cases va; cases vb
        exact iop_add_str pins s σ H _ _ u v Q I rx ry ⟨_, _, rfl, rfl, by assumption, p.ok hr _ rfl⟩
      · exact p.elim
    · exact p.elim
  · intro pins s σ H x y u v Q I rx ry ⟨ρ, h, a, b, hr, va, vb, p⟩
    unfold aop at p
    split at p
    · exact absurd (by assumption : Op.sub = Op.add) (by decide)
    · cases va; cases vb
      exact iop_sub pins s σ H _ _ u v Q I rx ry ⟨_, _, rfl, rfl, p.ok hr _ rfl⟩
    · exact absurd (by assumption : Op.sub = Op.add) (by decide)
    · exact p.elim
theorem s_aug {op : Operator} {oo : Op} {j : Nat} {x : Str} {p' : Pos} (O : Ok X t W) (ho : PIp X op (rOp t (aop oo))) (ha : PE X a (tE t W (den g ma))) (hi : X.N[j]? = some x := by rfl) (hx : Loc X.env.scope x := by first | exact Or.inl rfl | exact Or.inr rfl)
    (hf : X.fn x = true ∨ X.env.scope.names.lookup x = some .local := by first | exact .inl rfl | exact .inr rfl | assumption) : PS X (.AugAssign (.Name x p') op a pos) (tS t W (exe g (.aug oo j ma))) := by
  refine PSi (ps_aug O.nd hi hx ha ho hf) fun D σ H ⟨ρ, h, s, hr, sr, p⟩ => ?_
  unfold exe at p
  rw [show den g (.var j) s h = (match s[j]? with
    | some (some v) => .ok v h
    | _ => .bad) by ((conv => lhs; unfold den) <;> rfl)] at p
  split at p
  · rename_i v e
    obtain ⟨q, e1, r⟩ := pr_get sr.pr e
    cases q with
    | none => exact r.elim
    | some y =>
      refine ⟨y, e1, ρ, h, s, hr, sr, (Post.sb sr (show Post t ρ H ((den g ma s h).sb s fun y h => (aop oo v y h).sb s fun v h => .ok (.nx (s.set j (some v))) h) _ _ from p)).imp fun w h1 ρ1 H1 e1 x1 p1 z rz => ⟨ρ1, h1, v, w, x1, VR.ext e1 (show VR t ρ v y from r), rz, ?_⟩⟩
      refine Post.nox ?_ ((Post.sb (SR.ext e1 sr) p1).imp fun u h2 ρ2 H2 e2 x2 p2 zz rzz => Post.ok x2 p2 _ ((SR.ext (e1.trans e2) sr).put j rzz))
      unfold aop
      repeat' split
      all_goals first | exact nox_ok | exact nox_bad
  · exact p.elim
theorem s_ite (hc : PT X c (tT t W (denT g mc))) (ha : PSs X ss (tS t W (exes g nss))) (hb : PSs X ss2 (tS t W (exes g nss2))) : PS X (.If c ss ss2 pos) (tS t W (exe g (.ite mc nss nss2))) := by
  refine PSi (ps_if hc ha hb) fun D σ H ⟨ρ, h, s, x, sr, p⟩ => ⟨ρ, h, s, x, sr, ?_⟩
  unfold exe at p
  refine (Post.sb sr p).imp fun k h1 ρ1 H1 e1 x1 p1 => ?_
  cases k with
  | true => exact ⟨ρ1, h1, s, x1, SR.ext e1 sr, p1⟩
  | false => exact ⟨ρ1, h1, s, x1, SR.ext e1 sr, p1⟩
theorem s_whl (O : Ok X t W) (hc : PT X c (tT t W (denT g mc))) (ha : PSs X ss (tS t W (exes g nss))) : PS X (.While c ss [] pos) (tS t W (exe g (.whl mc nss))) := by
  refine PSi (ps_while O.own hc ha) fun D σ H q => ?_
  unfold exe at q
  refine ⟨fun m σ H => tS t W (fun s h => loopW (denT g mc) (exes g nss) m s h) D σ H, ⟨turns, q⟩, fun m σ H ⟨ρ, h, s, x, sr, p⟩ => ?_⟩
  cases m with
  | zero => exact p.elim
  | succ m =>
    unfold loopW at p
    refine ⟨ρ, h, s, x, sr, (Post.sb sr p).imp fun k h1 ρ1 H1 e1 x1 p1 => ?_⟩
    cases k with
    | true =>
      rw [if_pos rfl] at p1 ⊢
      exact ⟨_, fun σ' H' w => ⟨m, Nat.lt_succ_self m, w⟩, ρ1, h1, s, x1, SR.ext e1 sr, Post.go (fun _ _ q => q) rfl p1⟩
    | false =>
      rw [if_neg Bool.false_ne_true] at p1 ⊢
      exact Post.ok x1 p1 σ (SR.ext e1 sr)
theorem s_frr (O : OkC X t W) (hi : PI X tg iter (tI t W (fun s h => (dens g ms s h).bind fun vs h => srcR sr vs h))) (hg : PG X tg (gT X.K mt)) (hb : PSs X ss (tS t W (exes g nss))) (hs : ∀ x, foldedSetIterable iter X.env x = pure x := by intro _; rfl) :
    PS X (.For tg iter ss [] pos) (tS t W (exe g (.frr mt sr ms nss))) := by
  refine PSi (ps_for O.own O.calm hi hg hb hs) fun D σ H ⟨ρ, h, s, x, sr, p⟩ => ?_
  unfold exe at p
  refine ⟨ρ, h, s, x, sr, (Post.sb sr p).imp fun w h1 ρ1 H1 e1 x1 p1 J hJ => ?_⟩
  refine ⟨fun i m σ' H' => ∃ ρ' h' s', Ext ρ1 H1 ρ' H' ∧ HR t ρ' h' H' ∧ SR t ρ' s' σ' ∧ i ≤ w.items.length ∧ m = w.items.length - i ∧ Post t ρ' H' (loopF w mt (exes g nss) (w.items.drop i) s' h') (KFl t W D) E0',
    ⟨w.items.length, ρ1, h1, s, Ext.refl _ _, x1, SR.ext e1 sr, Nat.zero_le _, rfl, p1⟩, ?_⟩
  rintro i m σ' H' ⟨ρ', h', s', e', x', sr', hi', rfl, p'⟩
  have wok : w.ok h' = true := by
    cases hd : w.items.drop i with
    | nil =>
      rw [hd] at p'
      unfold loopF at p'
      split at p'
      · assumption
      · exact p'.elim
    | cons it its =>
      rw [hd] at p'
      unfold loopF at p'
      split at p'
      · assumption
      · exact p'.elim
  obtain ⟨h1', h2'⟩ := hJ i ρ' h' H' e'.pre x' wok
  by_cases hlt : i < w.items.length
  · obtain ⟨it, hit⟩ : ∃ it, w.items[i]? = some it := ⟨w.items[i], by simp [hlt]⟩
    obtain ⟨go, yl⟩ := h2' it hit
    have hdrop : w.items.drop i = it :: w.items.drop (i + 1) := by
      have h3 : w.items[i] = it := by
        have := List.getElem?_eq_getElem hlt
        rw [hit] at this
        exact (Option.some.inj this).symm
      rw [← h3]
      exact List.drop_eq_getElem_cons hlt
    rw [hdrop] at p'
    unfold loopF at p'
    rw [if_pos wok] at p'
    refine .inr ⟨go, _, fun σ2 H2 k => ⟨w.items.length - (i + 1), by omega, k⟩, fun y H2 hy => ?_⟩
    obtain ⟨ρ2, e2, x2, r2⟩ := yl y H2 hy
    split at p'
    · exact p'.elim
    · rename_i s2 hs2
      refine gT_use x2 r2 (SR.ext e2 sr') hs2 fun σ2 sr2 _ => ⟨ρ2, _, s2, x2, sr2, ?_⟩
      refine Post.goE (D := D) (fun ρ3 h3 s3 σ3 H3 e3 x3 sr3 p3 => ?_) rfl (Post.ext e2 p')
      exact ⟨ρ3, h3, s3, (e'.trans e2).trans e3, x3, sr3, by omega, rfl, p3⟩
  · have hd : w.items.drop i = [] := List.drop_eq_nil_iff.mpr (by omega)
    refine .inl ⟨h1' (by omega), ?_⟩
    rw [hd] at p'
    unfold loopF at p'
    rw [if_pos wok] at p'
    exact Post.ok x' p' σ' sr'
end
end Mi


/-! # Mi8: defs by their bodies; the law's end -/
namespace Mi
open PySem PySem.Spec PyProof.Rows L2

abbrev WE (E : XK) : L2.WX := fun c d _ H => E c d H
section
variable {P : Program} {w : World} {K : PySem.W.Frag} {mg : Str → Option Value} {base : PySem.Heap}
/-- a def (its promise sp) by its body -/
theorem fn_g {k : Nat} {f : Addr} {name qual : Str} {params : Arguments} {body : List Stmt} {scope : Scope} {dV kV doc pm cdv ct oc : Value} {an od : Option Addr} {osl : Array (Option Value)} {N ps : List Str} {sp : Sp}
    (lk : K.lookup f = some ⟨oc, od, .func (PySem.W.fnOf name qual params body scope dV kV doc pm an cdv ct), osl⟩) (hcd : PySem.W.codeIn K cdv qual = true) (S : FnScope N ps scope)
    (len : ∀ vs H Q E, sp vs H Q E → vs.length = ps.length)
    (go : ∀ (A : Around) (outer : List Env) (s : Shared) (H : Hp) (vs : List V) (Q : VK) (E : XK), Room k (A.deeper (envOfC qual scope s.heap.objs.size f cdv)) → A.guards = some [] → sp vs H Q E →
      ∃ r, PSs (cxOf (L2.CX P w) P w K mg base N qual scope f cdv A outer s H E) body r ∧ r { nx := fun _ H' => Q .non H', rt := Q } (L2.start N vs) H) :
    FnG P w K mg base (k + 1) f (PySem.W.fnOf name qual params body scope dV kV doc pm an cdv ct) ps sp where
  len := len
  run := by
    intro A outer s H args us vs Q E room gu env binds rel promise
    have few := len _ _ _ _ promise
    have kin : K.In s.heap := env.mod.kin.keeps fun b o e => (env.bs b o e).1
    have nolim : s.heap.NoLimit := env.mod.nolimit.keeps fun b o e => (env.bs b o e).1
    have kinds : ∀ y ∈ ps.zip us, scope.names.lookup y.1 = some .local ∨ (scope.names.lookup y.1 = some .cell ∧ ((cellsFrom (s.heap.objs.size + 1) scope.names []).lookup y.1).isSome = true) := by
      intro y hy
      rcases S.par y.1 (List.of_mem_zip (show (y.1, y.2) ∈ ps.zip us from hy)).1 with q | q
      · exact Or.inl q
      · exact Or.inr ⟨q, PySem.W.cellsFrom_some _ _ _ (Or.inl q)⟩
    refine codeAny_call_function room.depth (kin _ _ lk) rfl S.co S.gen rfl (PySem.W.codeRec_of kin hcd) (binds _ _ _ _ ?_)
    refine wpAny_newFunctionEnv_cells S.kind kinds fun e he s1 x => ?_
    subst he
    refine ⟨nolim.keeps x.toInCall.keep, codeAny_func ?_⟩
    obtain ⟨r, hr, q⟩ := go A outer s H vs Q E (room.deeper _) gu promise
    have inv : Inv (cxOf (L2.CX P w) P w K mg base N qual scope f cdv A outer s H E) [] (L2.start N vs) H s1 := inv_start S room.hd env few rel x
    refine wpAny_mono (hr.run [] s1 (L2.start N vs) H _ inv q) (fun fl s2 h2 => ?_) fun u s2 h2 => h2
    cases fl with
    | next =>
      obtain ⟨σ2, H2, J, z⟩ := h2
      exact ⟨.non, H2, J.os, J.bare, J.base, J.hok, rfl, z⟩
    | ret u =>
      obtain ⟨v, σ2, H2, J, rv, z⟩ := h2
      exact ⟨v, H2, J.os, J.bare, J.base, J.hok, rv, z⟩
    | brk =>
      obtain ⟨_, _, _, z⟩ := h2
      exact False.elim z
    | cont =>
      obtain ⟨_, _, _, z⟩ := h2
      exact False.elim z
/-- what is never called -/
theorem fn_bad {t : Th} {k : Nat} {f : Addr} {fd : FuncData} {ps : List Str} : FnG P w K mg base k f fd ps (spC t fun _ _ => .bad) :=
  ⟨fun vs H Q E ⟨_, _, _, _, _, p⟩ => p.elim, fun A outer s H args us vs Q E _ _ _ _ _ ⟨_, _, _, _, _, p⟩ => p.elim⟩
theorem sr_start {t : Th} {ρ : List Addr} {d : Def} {N : List Str} (hx : t.ex = none) (hN : N.length = d.slots) {as : List Val} {vs : List V} (r : VRs t ρ as vs) : SR t ρ (startV d as) (L2.start N vs) := by
  refine ⟨?_, fun _ _ _ _ e => by rw [hx] at e; cases e⟩
  unfold startV L2.start
  rw [hN, ← r.length]
  refine pr_append (pr_map (f := some) (g := some) (F' := SO t ρ) (fun a b h => h) r) ?_
  generalize d.slots - as.length = n
  induction n with
  | zero => exact .nil
  | succ n ih => exact .cons trivial ih
theorem ok_cx {t : Th} {k : Nat} {N ps : List Str} {qual : Str} {scope : Scope} {f : Addr} {cdv : Value} {A : Around} {outer : List Env} {s : Shared} {H : Hp} {E : XK} (hK : t.K = K) (hpx : t.ex = none) (sm : ∃ mm, base.Ns sysModules mm) (S : FnScope N ps scope) (hr : Room k (A.deeper (envOfC qual scope s.heap.objs.size f cdv))) (hg : A.guards = some []) :
    OkC (cxOf (L2.CX P w) P w K mg base N qual scope f cdv A outer s H E) t (WE E) where
  px := hpx
  hK := hK
  calm := rfl
  nd := S.nd
  hu := by
    have := hr.un
    show (A.deeper (envOfC qual scope s.heap.objs.size f cdv)).units + 150 < cLine
    omega
  hg := hg
  sm := sm
  own := passes_of rfl
  tk := takes_of rfl rfl rfl rfl
/-- a def of the text does what its mirror does -/
theorem fn_law {t : Th} {k : Nat} {g : G} {x qual : Str} {st : Stmt} {f : Addr} {N ps : List Str} {d : Def} {dV kV doc pm cdv ct oc : Value} {an od : Option Addr} {osl : Array (Option Value)} (hK : t.K = K) (hpx : t.ex = none) (sm : ∃ mm, base.Ns sysModules mm)
    (lk : K.lookup f = some ⟨oc, od, .func (PySem.W.fnOf x qual (defArgs st) (defBody st) (defScope st) dV kV doc pm an cdv ct), osl⟩) (hcd : PySem.W.codeIn K cdv qual = true) (S : FnScope N ps (defScope st)) (hp : d.params = ps.length) (hN : N.length = d.slots)
    (body : ∀ (A : Around) (outer : List Env) (s : Shared) (H : Hp) (E : XK), OkC (cxOf (L2.CX P w) P w K mg base N qual (defScope st) f cdv A outer s H E) t (WE E) → Room k (A.deeper (envOfC qual (defScope st) s.heap.objs.size f cdv)) →
      PSs (cxOf (L2.CX P w) P w K mg base N qual (defScope st) f cdv A outer s H E) (defBody st) (tS t (WE E) (exes g d.body))) :
    FnG P w K mg base (k + 1) f (PySem.W.fnOf x qual (defArgs st) (defBody st) (defScope st) dV kV doc pm an cdv ct) ps (spC t (runDef g d)) := by
  refine fn_g lk hcd S (fun vs H Q E ⟨ρ, h, as, hr, r, p⟩ => ?_) fun A outer s H vs Q E room gu ⟨ρ, h, as, hr, r, p⟩ => ⟨_, body A outer s H E (ok_cx hK hpx sm S room gu) room, ?_⟩
  · unfold runDef at p
    split at p
    · rename_i e
      rw [← r.length, e, hp]
    · exact p.elim
  · unfold runDef at p
    split at p
    · refine ⟨ρ, h, startV d as, hr, sr_start hpx hN r, ?_⟩
      generalize exes g d.body (startV d as) h = z at p ⊢
      cases z with
      | bad => exact p
      | exc c fs h1 => exact p.elim
      | ok fl h1 =>
        cases fl with
        | nx s' => exact fun ρ1 H1 e1 x1 σ' sr => p ρ1 H1 e1 x1 _ rfl
        | rt v => exact fun ρ1 H1 e1 x1 y ry => p ρ1 H1 e1 x1 y ry
        | ex c fs s' => exact fun ρ1 H1 e1 x1 C dd ys σ' h1 h2 h3 sr => p ρ1 H1 C dd ys e1 x1 h1 h2 h3
    · exact p.elim
/-- a def that may be called, n written arguments, the rest its defaults -/
structure CF (P : Program) (w : World) (K : PySem.W.Frag) (mg : Str → Option Value) (base : PySem.Heap) (t : Th) (k : Nat) (f : Str) (m : List Val → Heap → Res Val) : Prop where
  ex : ∃ (fa : Addr) (fd : FuncData) (ps : List Str), mg f = some (.ref fa) ∧ PySem.W.keepIn K (.ref fa) = true ∧ Binds K fd ps [] ∧ FnG P w K mg base k fa fd ps (spC t m)
theorem CF.n {t : Th} {k : Nat} {f : Str} {m : List Val → Heap → Res Val} (C : CF P w K mg base t k f m) : CalleeN P w K mg base t k f [] m := by
  obtain ⟨fa, fd, ps, h1, h2, h3, h4⟩ := C.ex
  exact ⟨fa, fd, ps, [], [], h1, h2, h3, .nil, fun _ => .nil, h4⟩
end

/-- a callee with defaults dl -/
structure CFD (P : Program) (w : World) (K : PySem.W.Frag) (mg : Str → Option Value) (base : PySem.Heap) (t : Th) (k : Nat) (f : Str) (dl : List Val) (m : List Val → Heap → Res Val) : Prop where
  ex : ∃ (fa : Addr) (fd : FuncData) (ps : List Str) (dvs : List V), mg f = some (.ref fa) ∧ PySem.W.keepIn K (.ref fa) = true ∧ (∀ ρ, VRs t ρ dl dvs) ∧ (∀ j, j ≤ dvs.length → ∃ us, Vals (dvs.drop j) us ∧ Binds K fd ps us) ∧ FnG P w K mg base k fa fd ps (spC t m)
theorem CFD.n {P : Program} {w : World} {K : PySem.W.Frag} {mg : Str → Option Value} {base : PySem.Heap} {t : Th} {k : Nat} {f : Str} {dl : List Val} {m : List Val → Heap → Res Val} (C : CFD P w K mg base t k f dl m) (j : Nat) (hj : j ≤ dl.length) : CalleeN P w K mg base t k f (dl.drop j) m := by
  obtain ⟨fa, fd, ps, dvs, h1, h2, h3, h4, h5⟩ := C.ex
  obtain ⟨us, hv, hb⟩ := h4 j (by rw [← (h3 []).length]; exact hj)
  exact ⟨fa, fd, ps, us, dvs.drop j, h1, h2, hb, hv, fun ρ => pr_drop j (h3 ρ), h5⟩

/-! ## the mirror, k deep -/
def mOf (D : Nat → Option Def) (gl : Nat → Option Val) (scr : List Int) : Nat → Def → List Val → Heap → Res Val
  | 0, _ => fun _ _ => .bad
  | k + 1, d => runDef ⟨calls D gl scr k, gl, scr, none⟩ d
theorem calls_eq {D : Nat → Option Def} {gl : Nat → Option Val} {scr : List Int} {k : Nat} {f : Nat} {d : Def} {ds : List Val} {n : Nat} (e : D f = some d) (hd : d.dflt.drop (d.dflt.length + n - d.params) = ds) (vs : List Val) (h : Heap) (hn : vs.length = n)
    (hb : calls D gl scr k f vs h ≠ .bad) : calls D gl scr k f vs h = mOf D gl scr k d (vs ++ ds) h := by
  cases k with
  | zero => exact absurd rfl hb
  | succ k =>
    show (match D f with
      | some d => runDef ⟨calls D gl scr k, gl, scr, none⟩ d (vs ++ d.dflt.drop (d.dflt.length + vs.length - d.params)) h
      | none => .bad) = _
    rw [e]
    dsimp only
    rw [hn, hd]
    rfl

/-! ## dicts written out -/
def prs (t : Th) (W : L2.WX) (g : G) : Exs → List (TE × TE)
  | .cons k (.cons v r) => (tE t W (den g k), tE t W (den g v)) :: prs t W g r
  | _ => []
def pairUp : List V → List (V × V)
  | k :: v :: r => (k, v) :: pairUp r
  | _ => []
section
variable {X : Cx} {t : Th} {W : L2.WX} {g : G} {σ : L2.St}
def evenE : Exs → Bool
  | .nil => true
  | .cons _ .nil => false
  | .cons _ (.cons _ r) => evenE r
theorem pairs_imp : ∀ (ms : Exs) {ρ : List Addr} {h : Heap} {s : Sl} {H : Hp} {R : List (V × V) → Hp → Prop}, evenE ms = true → HR t ρ h H → SR t ρ s σ →
    Post t ρ H (dens g ms s h) (fun vs h' ρ' H' => ∀ zs, VRs t ρ' vs zs → R (pairUp zs) H') (EW W σ) → tPairs (prs t W g ms) σ H R
  | .nil, ρ, h, s, H, R, ev, x, sr, p => by
    unfold dens at p
    exact Post.ok x p [] .nil
  | .cons k .nil, ρ, h, s, H, R, ev, x, sr, p => by cases ev
  | .cons k (.cons v r), ρ, h, s, H, R, ev, x, sr, p => by
    unfold dens at p
    refine ⟨ρ, h, s, x, sr, (Post.bind p).imp fun kv h1 ρ1 H1 e1 x1 p1 y ry => ?_⟩
    unfold dens at p1
    refine ⟨ρ1, h1, s, x1, SR.ext e1 sr, ?_⟩
    have p1 := Post.bind p1
    have p2 : Post t ρ1 H1 (den g v s h1) (fun vv h2 ρ2 H2 => Post t ρ2 H2 ((dens g r s h2).bind fun vs h => Res.ok (vv :: vs) h) (fun vs h' ρ' H' => Post t ρ' H' (Res.ok (kv :: vs) h') (fun vs h' ρ' H' => ∀ zs, VRs t ρ' vs zs → R (pairUp zs) H') (EW W σ)) (EW W σ)) (EW W σ) := Post.bind p1
    refine p2.imp fun vv h2 ρ2 H2 e2 x2 p3 z rz => ?_
    refine pairs_imp r ev x2 (SR.ext (e1.trans e2) sr) ((Post.bind p3).imp fun vs h3 ρ3 H3 e3 x3 p4 => ?_)
    have q := Post.ok x3 (Post.ok x3 p4)
    exact fun zs rzs => q (y :: z :: zs) (.cons ((ry.ext e2).ext e3) (.cons (rz.ext e3) rzs))
theorem kvs_vr {ρ : List Addr} : ∀ {vs : List Val} {zs : List V} {kvs : List (Key × Val)}, kvsO vs = some kvs → VRs t ρ vs zs → ∃ ws : List (Key × V), pairUp zs = ws.map (fun kv => (kV kv.1, kv.2)) ∧ KRs t ρ kvs ws
  | [], _, kvs, e, .nil => by cases e; exact ⟨[], rfl, .nil⟩
  | [_], _, kvs, e, _ => by cases e
  | k :: v :: r, _, kvs, e, .cons rk (.cons rv rr) => by
    unfold kvsO at e
    split at e
    · rename_i k' r' e1 e2
      cases e
      obtain ⟨ws, h1, h2⟩ := kvs_vr e2 rr
      have := key_vr e1 rk
      subst this
      exact ⟨(k', _) :: ws, by unfold pairUp; rw [h1]; rfl, .cons ⟨rfl, rv⟩ h2⟩
    · cases e
theorem kr_merge {ρ : List Addr} : ∀ {kvs acc : List (Key × Val)} {ws bcc : List (Key × V)}, KRs t ρ kvs ws → KRs t ρ acc bcc → KRs t ρ (kvs.foldl (fun acc kv => putK acc kv.1 kv.2) acc) (ws.foldl (fun acc kv => L2.putK acc kv.1 kv.2) bcc)
  | _, _, _, _, .nil, r => r
  | x :: xs, acc, y :: ys, bcc, .cons ⟨e, r⟩ rs, q => by
    simp only [List.foldl_cons]
    rw [← e]
    exact kr_merge rs (kr_put q r)
theorem e_dic {pos : Pos} {keys : List (Option Expr)} {values : List Expr} {ms : Exs} (O : Ok X t W) (hp : PPs X pos keys values (prs t W g ms)) (ev : evenE ms = true := by rfl) (hall : keys.all (·.isSome) = true := by rfl) (hl : keys.length = values.length := by rfl) (h0 : keys ≠ [] := by exact List.cons_ne_nil _ _)
    (h15 : keys.length ≤ 15 := by decide) : PE X (.Dict keys values pos) (tE t W (den g (.dic ms))) := by
  refine PEi (pe_disp hp hall hl h0 h15) fun σ H Q ⟨ρ, h, s, x, sr, p⟩ => fun D hD => ?_
  unfold den at p
  have nD := x.free hD
  have e0 : Ext ρ H ρ (upd H D (.dK [])) := (Ext.refl _ _).aside hD
  refine pairs_imp ms ev (x.aside nD (by rw [hD]; exact fun _ _ => nofun) (by rw [hD]; exact fun _ => nofun)) sr ((Post.ext e0 (Post.bind1 p)).imp fun vs h' ρ' H' e' x' p' zs rz => ?_)
  obtain ⟨nD', hD'⟩ := e'.not nD upd_same
  refine ⟨hD', ?_⟩
  split at p'
  · rename_i kvs ek
    split at p'
    · rename_i hz
      obtain ⟨ws, h1, h2⟩ := kvs_vr ek rz
      refine ⟨ws, h1, by rw [← Paired.length h2]; exact hz, ?_⟩
      have E := ((e0.trans e').aside hD (u := .dK (mergeK [] ws))).adopt hD
      have Y := (x'.aside nD' (by rw [hD']; exact fun _ _ => nofun) (by rw [hD']; exact fun _ => nofun) (u := .dK (mergeK [] ws))).adopt nD' (o := .dic (kvs.foldl (fun acc kv => putK acc kv.1 kv.2) [])) ⟨_, upd_same, pr_mono (fun _ _ z => ⟨z.1, z.2.app⟩) (kr_merge h2 .nil)⟩
      exact p' _ _ E Y _ (VR.new x')
    · exact p'.elim
  · exact p'.elim
end
/-! ## short names -/
section
variable {X : Cx} {t : Th} {W : L2.WX} (O : Ok X t W)
include O
theorem q_add : OpR X (binaryOp .Add) (rOp t (bop .add)) := op1 O.hK
theorem q_sub : OpR X (binaryOp .Sub) (rOp t (bop .sub)) := op2
theorem q_mul : OpR X (binaryOp .Mult) (rOp t (bop .mul)) := op3
theorem q_fdiv : OpR X (binaryOp .FloorDiv) (rOp t (bop .fdiv)) := op4
theorem q_mod : OpR X (binaryOp .Mod) (rOp t (bop .mod)) := op5
theorem q_pow : OpR X (binaryOp .Pow) (rOp t (bop .pow)) := op6
theorem q_eq : OpR X (compareOp .Eq) (rOp t (bop .eq)) := op7 O.hK (by have := O.hu; omega)
theorem q_ne : OpR X (compareOp .NotEq) (rOp t (bop .ne)) := op8 O.hK (by have := O.hu; omega)
theorem q_lt : OpR X (compareOp .Lt) (rOp t (bop .lt)) := op9 O.hK (by have := O.hu; omega)
theorem q_le : OpR X (compareOp .LtE) (rOp t (bop .le)) := op10
theorem q_gt : OpR X (compareOp .Gt) (rOp t (bop .gt)) := op11
theorem q_ge : OpR X (compareOp .GtE) (rOp t (bop .ge)) := op12
theorem q_is : OpR X (compareOp .Is) (rOp t (bop .is)) := op13
theorem q_isnot : OpR X (compareOp .IsNot) (rOp t (bop .isnot)) := op14
theorem q_in_ : OpR X (compareOp .In) (rOp t (bop .in_)) := op15 O.hK (by have := O.hu; omega)
theorem q_notin : OpR X (compareOp .NotIn) (rOp t (bop .notin)) := op16 O.hK (by have := O.hu; omega)
end
theorem bB {o : Op} {x y : Val} {h : Heap} (ho : (match o with | .add | .sub | .mul | .fdiv | .mod | .pow => false | _ => true) = true) : isB (bop o x y h) := by
  cases o <;> first | (cases ho; done) | exact isB_ofB
theorem bt_len : bootBuiltins "len" = some (.builtin "len") := by decide +kernel
theorem bt_max : bootBuiltins "max" = some (.builtin "max") := by decide +kernel
theorem bt_min : bootBuiltins "min" = some (.builtin "min") := by decide +kernel
theorem bt_sum : bootBuiltins "sum" = some (.builtin "sum") := by decide +kernel
theorem bt_all : bootBuiltins "all" = some (.builtin "all") := by decide +kernel
theorem bt_any : bootBuiltins "any" = some (.builtin "any") := by decide +kernel
theorem bt_repr : bootBuiltins "repr" = some (.builtin "repr") := by decide +kernel
theorem bt_isinstance : bootBuiltins "isinstance" = some (.builtin "isinstance") := by decide +kernel
theorem bt_int : bootBuiltins "int" = some (.type "int") := by decide +kernel
theorem bt_str : bootBuiltins "str" = some (.type "str") := by decide +kernel
theorem bt_bool : bootBuiltins "bool" = some (.type "bool") := by decide +kernel
theorem bt_list : bootBuiltins "list" = some (.type "list") := by decide +kernel
theorem bt_tuple : bootBuiltins "tuple" = some (.type "tuple") := by decide +kernel
theorem bt_dict : bootBuiltins "dict" = some (.type "dict") := by decide +kernel

/-! ## the law's end -/
section
variable {P : Program} {w : World} {K : PySem.W.Frag} {mg mb : Str → Option Value}
/-- the heap at the law's entry, H: nothing is tracked but the script -/
def H0 (K : PySem.W.Frag) (a : Addr) (vs : List Value) (ns : List Int) : Hp := fun b => if b = a ∧ K.lookup a = none then some (.frz { cls := .type "list", data := .seq vs.toArray } (.lst (ns.map V.int))) else none
theorem law_end {k : Nat} {fa a : Addr} {fd : FuncData} {x : Str} {s₁ : Shared} {vs : List Value} {ns : List Int} {ga : Nat → Option Addr} {m : List Val → Heap → Res Val} {h' : Heap}
    (KX : K.In s₁.heap) (gl : s₁.heap.Ns mainGlobals mg) (bl : s₁.heap.Ns builtinsNs mb) (bb : ∀ x : Str, x ≠ "__name__" → mb x = bootBuiltins x) (nl : s₁.heap.NoLimit) (sm : ∃ mm, s₁.heap.Ns sysModules mm) (gens : s₁.gens = #[])
    (at_ : s₁.heap.get? a = some { cls := .type "list", data := .seq vs.toArray }) (are : IntsAre vs ns) (fits : ns.length ≤ sizeLine) (room : Room k callerA)
    (F : ∀ base : PySem.Heap, K.In base → base.Ns mainGlobals mg → (∃ mm, base.Ns sysModules mm) → FnG P w K mg base k fa fd [x] (spC ⟨K, ga, a, ns, none⟩ m)) (bind : ∀ (s : Shared) (u : Value), BindsTo s fd ⟨[u], []⟩ [(x, u)])
    (ends : m [.scr] [] = .ok (.bl true) h') :
    codeAny (model P w) callerA (.call (.ref fa) ⟨[.ref a], []⟩) (fun r s' => r = .ok (.ret (.bool true)) ∧ OldK s₁.heap s'.heap ∧ s'.os = s₁.os ∧ AllBare s'.gens) s₁ := by
  have rel := vals_ints are
  have count := are.length
  have hz : ∀ {b : Addr} {u : HO}, H0 K a vs ns b = some u → b = a ∧ K.lookup a = none ∧ u = .frz { cls := .type "list", data := .seq vs.toArray } (.lst (ns.map V.int)) := by
    intro b u e
    unfold H0 at e
    split at e
    · rename_i c
      exact ⟨c.1, c.2, (Option.some.inj e).symm⟩
    · cases e
  have none_of : ∀ {b : Addr}, b ≠ a → H0 K a vs ns b = none := by
    intro b hb
    cases q : H0 K a vs ns b with
    | none => rfl
    | some u => exact absurd (hz q).1 hb
  have hok : HOk P w (H0 K a vs ns) s₁.heap := by
    intro b u e
    obtain ⟨rfl, _, rfl⟩ := hz e
    exact ⟨at_, by rw [List.length_map]; exact fits, vs, _, rel, at_⟩
  have keepN : ∀ {b : Addr} {mm : Str → Option Value}, s₁.heap.Ns b mm → (hidT s₁.heap (H0 K a vs ns)).Ns b mm := by
    intro b mm ⟨o, es, ep, e, d, r⟩
    refine ⟨o, es, ep, hidT_get e (none_of fun z => ?_), d, r⟩
    subst z
    rw [at_] at e
    cases e
    cases d
  have kin : K.In (hidT s₁.heap (H0 K a vs ns)) := by
    intro b o e
    refine hidT_get (KX b o e) ?_
    cases q : H0 K a vs ns b with
    | none => rfl
    | some u =>
      obtain ⟨rfl, z, _⟩ := hz q
      rw [z] at e; cases e
  have mod : Mod K mg (hidT s₁.heap (H0 K a vs ns)) := ⟨kin, keepN gl, ⟨mb, keepN bl, bb⟩, (fun ⟨mc, h1, h2⟩ => ⟨mc, keepN h1, h2⟩) nl⟩
  have env : Env0 P w K mg (hidT s₁.heap (H0 K a vs ns)) callerA [] s₁ (H0 K a vs ns) := by
    refine ⟨rfl, mod, fun b o e => of_hidT e, Nat.le_of_eq (hidT_size _ _), trivial, fun b hb => ?_, hok, .of_eq gens⟩
    cases (show b ∈ ([] : List Addr) from hb)
  have scr : ScrOk ⟨K, ga, a, ns, none⟩ (H0 K a vs ns) := by
    cases q : K.lookup a with
    | none => exact .inl ⟨_, if_pos ⟨rfl, q⟩⟩
    | some o =>
      have e := KX a o q
      rw [at_] at e
      cases e
      exact .inr ⟨_, vs.toArray, _, q, rfl, rfl, rfl, by rw [List.size_toArray, count]; exact fits, by simpa using rel⟩
  have hr : HR ⟨K, ga, a, ns, none⟩ [] [] (H0 K a vs ns) := ⟨rfl, List.nodup_nil, fun n o b e _ => by simp at e, scr, fun _ _ _ _ e => by cases e⟩
  refine codeAny_mono ((F _ kin (keepN gl) (let ⟨mm, z⟩ := sm; ⟨mm, keepN z⟩)).run callerA [] s₁ (H0 K a vs ns) ⟨[.ref a], []⟩ [.ref a] [.ref a] (fun v _ => v = .bl true) (fun _ _ _ => False) room rfl env (bind s₁ (.ref a)) (.cons rfl .nil)
    ⟨[], [], [.scr], hr, .cons rfl .nil, by rw [ends]; exact fun ρ' H' e x z rz => rz⟩) fun r s' h => ?_
  cases r with
  | error e =>
    obtain ⟨_, _, _, _, _, _, _, _, _, _, _, _, z⟩ := h
    exact z.elim
  | ok fl =>
    cases fl with
    | next => exact h.elim
    | brk => exact h.elim
    | cont => exact h.elim
    | ret u =>
      obtain ⟨v, H', os, bare, un, hok', ru, rfl⟩ := h
      obtain rfl : u = Value.bool true := ru
      refine ⟨rfl, OldK.of_keep fun b o e => ?_, os, bare⟩
      have nof : b ∉ frs [] := by intro z; cases (show b ∈ ([] : List Addr) from z)
      cases q : H0 K a vs ns b with
      | none => exact un.keep b o e q nof (by simp)
      | some u =>
        obtain ⟨rfl, _, rfl⟩ := hz q
        have e1 := (hok b _ q).1
        have e2 := (hok' b _ (un.frzs b _ _ q)).1
        rw [e] at e1
        cases e1
        exact e2
/-- what k_head leaves -/
theorem walk_g {l : PySem.W.OpenLaw} {n k : Nat} {q : Program} {loose : List Str} {XP : (Str → Option Value) → PySem.Heap → Prop} {YP : World → PySem.Heap → Prop} {d : DefRec} {K : Params → PySem.W.Frag} {x : Str}
    (hn : l.most = some n) (hn2 : n ≤ sizeLine) (hdf : d.params.defaults = []) (hi : importsNone q = true) (room : Room k callerA) (hY : ∀ (w : World) (h : PySem.Heap), YP w h → (K w.params).In h)
    (F : ∀ (w : World) (mg : Str → Option Value) (fa : Addr) (h : PySem.Heap), (K w.params).In h → h.Ns mainGlobals mg → mg d.name = some (.ref fa) →
      ∃ (fd : FuncData) (ga : Nat → Option Addr) (m : List Int → List Val → Heap → Res Val), (∀ (s : Shared) (u : Value), BindsTo s fd ⟨[u], []⟩ [(x, u)]) ∧ (∀ ns : List Int, ns.length ≤ n → ∃ h', m ns [.scr] [] = .ok (.bl true) h') ∧
        ∀ (a : Addr) (ns : List Int) (base : PySem.Heap), (K w.params).In base → base.Ns mainGlobals mg → (∃ mm, base.Ns sysModules mm) → FnG l.prog w (K w.params) mg base k fa fd [x] (spC ⟨K w.params, ga, a, ns, none⟩ (m ns))) :
    PySem.W.WalkO q loose XP YP l.row.toRowW d [] (fun f vs => PySem.call f vs) := by
  refine Att.attach_call hn hdf fun w s₀ s₁ mg mb fa o pm cd doc a vs ns G Y ho hd hcd hmg hobj hints hlen hg => ?_
  have KX := hY w _ Y
  obtain ⟨fd, ga, m, hb, hm, hF⟩ := F w mg fa _ KX G.T.g hmg
  obtain ⟨h', he⟩ := hm ns hlen
  exact law_end KX G.T.g G.T.b G.T.builtins G.T.nolimit (let ⟨mm, z, _⟩ := (G.T.seer hi).mods; ⟨mm, z⟩) hg hobj hints (Nat.le_trans hlen hn2) room (hF a ns) hb he
end
end Mi


/-! # Mi8X: raise, try, a caught exception's fields -/
namespace Mi
open PySem PySem.Spec PyProof.Rows L2
/-- an exception class as it may be raised: its number, its fields -/
structure CE (P : Program) (w : World) (K : PySem.W.Frag) (mg : Str → Option Value) (base : PySem.Heap) (t : Th) (x : Str) (i : Nat) (fs : List Str) : Prop where
  ex : ∃ (C fI : Addr) (fd : FuncData) (ps : List Str), t.ga i = some C ∧ ExC K mg x C fI fs ∧ Binds K fd ps [] ∧ FnOk P w K mg base (L2.CX P w) 2 fI fd ps (spI C fs)
/-- a class as a clause names it: which ones it takes -/
structure HE (K : PySem.W.Frag) (mg : Str → Option Value) (t : Th) (x : Str) (ids : List Nat) : Prop where
  ex : ∃ T : Addr, mg x = some (.ref T) ∧ ∀ k C, t.ga k = some C → PySem.W.exmOne K (.ref C) (.ref T) = some (decide (k ∈ ids))
/-- a field that those classes have -/
def FE (K : PySem.W.Frag) (t : Th) (ids : List Nat) (f : Str) : Prop := ∀ k C, k ∈ ids → t.ga k = some C → XfC K C ∧ PySem.W.findIn K (.ref C) f = some none
section
variable {t : Th} {ρ : List Addr} {h : Heap} {H : Hp}
theorem frs_zip : ∀ {fs : List Str} {vs : List Val} {ys : List V}, VRs t ρ vs ys → FRs t ρ (fs.zip vs) (fs.zip ys)
  | [], _, _, _ => by rw [List.zip_nil_left, List.zip_nil_left]; exact .nil
  | f :: fs, _, _, .nil => .nil
  | f :: fs, _, _, .cons r rs => .cons ⟨rfl, r⟩ (frs_zip rs)
theorem frs_look {f : Str} {v : Val} : ∀ {fs : List (Str × Val)} {ys : List (Str × V)}, FRs t ρ fs ys → fs.lookup f = some v → ∃ y, ys.lookup f = some y ∧ VR t ρ v y
  | [], _, .nil, e => by cases e
  | (k, w) :: fs, (k', y) :: ys, .cons r rs, e => by
    obtain ⟨r1, r2⟩ := r
    dsimp only at r1 r2
    subst r1
    simp only [List.lookup] at e ⊢
    by_cases hk : (f == k) = true
    · rw [hk] at e ⊢
      cases e
      exact ⟨y, rfl, r2⟩
    · have hk2 : (f == k) = false := by simpa using hk
      rw [hk2] at e ⊢
      exact frs_look rs e
end
section
variable {X : Cx} {t : Th} {W : L2.WX} {g : G} {e : Expr} {es : List Expr} {ms : Exs} {pos : Pos}
theorem s_rse {x : Str} {i : Nat} {fs : List Str} {p pos' : Pos} {k : Nat} (O : OkC X t W) (C : CE X.prog X.w X.K X.mg X.base t x i fs) (hr : Room (k + 3) X.A) (ha : PA X (e :: es) (tA t W (dens g ms))) (hf : fs.length ≤ 900 := by decide) (hg : Gl X x := by rfl)
    (hdb : (x == ("__debug__" : Str)) = false := by decide) (he : starEach (e :: es) X.env = (false, eval e X.env) :: starEach es X.env := by rfl) (hpl : (backTo pos (starEach es X.env)).any (·.1) = false := by rfl) :
    PS X (.Raise (some (.Call (.Name x p) (e :: es) [] pos)) none pos') (tS t W (exe g (.rse i fs ms))) := by
  obtain ⟨Ca, fI, fd, ps, hga, T, hb, F⟩ := C.ex
  refine PSi (ps_rse O.calm O.tk T F (hr.mono (Nat.le_add_left _ _)) hb hg ha hdb he hpl) fun D σ H ⟨ρ, h, s, x, sr, p⟩ => ⟨ρ, h, s, x, sr, ?_⟩
  unfold exe at p
  refine (Post.sb sr p).imp fun vs h1 ρ1 H1 e1 x1 p1 ys ry => ?_
  split at p1
  · rename_i hl
    refine mko_in (C := Ca) (Q := fun cls d H' => W cls d σ H') (by rw [← ry.length]; exact hl) hf fun d hd => ?_
    have nd : d ∉ ρ1 := x1.free hd
    refine p1 ρ1 _ ((Ext.refl _ _).aside hd) (x1.aside nd (by rw [hd]; exact fun _ _ => nofun) (by rw [hd]; exact fun _ => nofun)) Ca d _ σ hga upd_same ?_ (SR.ext e1 sr)
    exact pr_rev (frs_zip ry)
  · exact p1.elim
theorem OkC.tr (O : OkC X t W) {W' : L2.WX} {pn : List (Addr × PySem.Obj)} {xe : Value → Shared → Prop} (tk : Takes (X.tr pn xe) W') (own : PassesOwn (model X.prog X.w) X.A X.env xe) : OkC (X.tr pn xe) t W' :=
  ⟨⟨O.hK, O.nd, O.hu, O.hg, O.sm, own, tk⟩, O.calm, O.px⟩
theorem OkC.su (O : OkC X t W) (a : Addr) (pn : List (Addr × PySem.Obj)) (e : Option (Nat × Addr × Addr × List (Str × Val))) : Ok (X.suite a pn) { t with ex := e } W0 :=
  ⟨O.hK, O.nd, O.hu, O.hg, O.sm, PassesOwn.never, takes0⟩
/-- e.f in the suite of «except .. as e» -/
theorem e_efl {a C d : Addr} {oe : PySem.Obj} {pn : List (Addr × PySem.Obj)} {i : Nat} {nm f : Str} {fs : List (Str × Val)} {p : Pos} {ids : List Nat} {k : Nat} {W' : L2.WX} (hk : k ∈ ids) (hga : t.ga k = some C) (T : FE X.K t ids f) (hz : Zc (.ref C) (some d) oe) (hf : ∃ vs, oe.data = .fields vs) (hex : t.ex = some (i, a, d, fs)) (hg : g.ex = some fs)
    (hi : X.N[i]? = some nm := by rfl) (hv : Vis X.env.scope nm := by first | exact Or.inl rfl | exact Or.inr (Or.inl rfl) | exact Or.inr (Or.inr rfl)) (hd : (nm == ("__debug__" : Str)) = false := by decide) (hcd : (nm == ("__classdict__" : Str)) = false := by decide)
    (hb : attributeBase (.Name nm p) f X.env (eval (.Name nm p) X.env) = eval (.Name nm p) X.env := by rfl) : PE (X.suite a ((a, oe) :: pn)) (.Attribute (.Name nm p) f pos) (tE t W' (den g (.efl i f))) := by
  obtain ⟨xf, no⟩ := T k C hk hga
  refine PEi (pe_xf xf no hz hf (pe_var (X := X.suite a ((a, oe) :: pn)) hi hv hd hcd) hb) fun σ H Q ⟨ρ, h, s, x, sr, p⟩ => ?_
  unfold den at p
  split at p
  · rename_i hs
    rw [hg] at p
    dsimp only at p
    split at p
    · rename_i v hv
      obtain ⟨ys, e1, e2⟩ := x.xs _ _ _ _ hex
      obtain ⟨y, e3, ry⟩ := frs_look e2 hv
      exact ⟨.ref a, sr.px _ _ _ _ hex hs, rfl, rfl, d, ys, y, rfl, e1, e3, Post.ok x p _ ry⟩
    · exact p.elim
  · exact p.elim
end
/-! ## the things said with and without a handled exception -/
abbrev Th.hot (t : Th) (i : Nat) (a d : Addr) (fs : List (Str × Val)) : Th := { t with ex := some (i, a, d, fs) }
section
variable {t : Th} {e : Option (Nat × Addr × Addr × List (Str × Val))} {ρ ρ' : List Addr} {h h' : Heap} {H H' : Hp} {α : Type}
theorem VR_ex : VR { t with ex := e } = VR t := by
  funext ρ v y
  cases v <;> rfl
theorem OR_ex : OR { t with ex := e } = OR t := by
  funext ρ H a o
  cases o <;> simp only [OR, VRs, KRs, FRs, VR_ex]
theorem SO_ex : SO { t with ex := e } = SO t := by
  funext ρ o p
  cases o <;> cases p <;> simp only [SO, VR_ex]
theorem HR.cold (hx : t.ex = none) (x : HR { t with ex := e } ρ h H) : HR t ρ h H :=
  ⟨x.len, x.nd, fun n o a h1 h2 => by have := x.ob n o a h1 h2; rw [OR_ex] at this; exact this, x.sc, fun i a d fs z => by rw [hx] at z; cases z⟩
theorem HR.warm (x : HR t ρ h H) (q : XOk { t with ex := e } ρ H) : HR { t with ex := e } ρ h H :=
  ⟨x.len, x.nd, fun n o a h1 h2 => by have := x.ob n o a h1 h2; rw [OR_ex]; exact this, x.sc, q⟩
theorem SR.cold (hx : t.ex = none) {s : Sl} {σ : L2.St} (x : SR { t with ex := e } ρ s σ) : SR t ρ s σ :=
  ⟨by have := x.pr; rw [SO_ex] at this; exact this, fun i a d fs z => by rw [hx] at z; cases z⟩
theorem XOk.ext (x : HR { t with ex := e } ρ h H) (e1 : Ext ρ H ρ' H') : XOk { t with ex := e } ρ' H' := fun i a d fs z => by
  obtain ⟨ys, q1, q2⟩ := x.xs i a d fs z
  refine ⟨ys, e1.keep d _ (fun hm => ?_) q1, pr_mono (fun _ _ w => ⟨w.1, VR.ext e1 w.2⟩) q2⟩
  obtain ⟨u, h1, _, h2⟩ := x.tr hm
  rw [q1] at h1; cases h1
  exact h2 _ rfl
/-- from the one to the other -/
theorem Post.cold (hx : t.ex = none) (x : HR { t with ex := e } ρ h H) {r : Res α} {k k' : α → Heap → List Addr → Hp → Prop} {E : Value → Option Addr → Hp → Prop} (p : Post { t with ex := e } ρ H r k E)
    (hk : ∀ a h' ρ' H', Ext ρ H ρ' H' → HR { t with ex := e } ρ' h' H' → k a h' ρ' H' → k' a h' ρ' H') : Post t ρ H r k' E := by
  cases r with
  | ok a h1 => exact fun ρ2 H2 e2 y => hk _ _ _ _ e2 (y.warm (XOk.ext x e2)) (p ρ2 H2 e2 (y.warm (XOk.ext x e2)))
  | exc c fs h1 => exact fun ρ2 H2 C d ys e2 y hc hd hf => p ρ2 H2 C d ys e2 (y.warm (XOk.ext x e2)) hc hd (pr_mono (fun _ _ w => ⟨w.1, by rw [VR_ex]; exact w.2⟩) hf)
  | bad => exact p
theorem CalleeN.hot {P : Program} {w : World} {K : PySem.W.Frag} {mg : Str → Option Value} {base : PySem.Heap} {k : Nat} {f : Str} {ds : List Val} {m : List Val → Heap → Res Val} (hx : t.ex = none) (C : CalleeN P w K mg base t k f ds m) : CalleeN P w K mg base { t with ex := e } k f ds m := by
  obtain ⟨fa, fd, ps, us, dvs, h1, h2, h3, h4, h5, F⟩ := C.ex
  have imp : ∀ vs H Q E, spC { t with ex := e } m vs H Q E → spC t m vs H Q E := fun vs H Q E ⟨ρ, h, as, x, r, p⟩ =>
    ⟨ρ, h, as, x.cold hx, by unfold VRs at r; rw [VR_ex] at r; exact r, Post.cold hx x p fun a h' ρ' H' _ _ q y ry => q y (by rw [VR_ex]; exact ry)⟩
  exact ⟨fa, fd, ps, us, dvs, h1, h2, h3, h4, fun ρ => by unfold VRs; rw [VR_ex]; exact h5 ρ, ⟨fun vs H Q E q => F.len vs H Q E (imp _ _ _ _ q), fun A outer s H args us vs Q E room gu env b r q => F.run A outer s H args us vs Q E room gu env b r (imp _ _ _ _ q)⟩⟩
theorem FE.hot {K : PySem.W.Frag} {ids : List Nat} {f : Str} (x : FE K t ids f) : FE K { t with ex := e } ids f := x
end
/-! ## try -/
/-- the clauses, their mirror -/
inductive HC (X : Cx) (t : Th) (g : G) : List ExceptHandler → Hds → Prop
  | nil : HC X t g [] .nil
  | plain {x : Str} {ids : List Nat} {b₀ : Stmt} {suite : List Stmt} {np pos' : Pos} {hds : List ExceptHandler} {nss : Sts} {hs : Hds} (hE : HE X.K X.mg t x ids) (hg : Gl X x) (hdb : (x == ("__debug__" : Str)) = false)
      (hsu : ∀ a pn fs, Ok (X.suite a pn) t W0 → PSs (X.suite a pn) (b₀ :: suite) (tS t W0 (exes { g with ex := some fs } nss))) (r : HC X t g hds hs) :
      HC X t g (.ExceptHandler (some (.Name x np)) none (b₀ :: suite) pos' :: hds) (.cons ids none nss hs)
  | named {x nm : Str} {ids : List Nat} {i : Nat} {b₀ : Stmt} {suite : List Stmt} {np pos' : Pos} {hds : List ExceptHandler} {nss : Sts} {hs : Hds} (hE : HE X.K X.mg t x ids) (hg : Gl X x) (hdb : (x == ("__debug__" : Str)) = false) (hi : X.N[i]? = some nm) (hln : X.env.kindOf nm = some .local)
      (hsu : ∀ a oe pn fs C d k, k ∈ ids → t.ga k = some C → Zc (.ref C) (some d) oe → (∃ vs, oe.data = .fields vs) → Ok (X.suite a ((a, oe) :: pn)) (t.hot i a d fs) W0 → PSs (X.suite a ((a, oe) :: pn)) (b₀ :: suite) (tS (t.hot i a d fs) W0 (exes { g with ex := some fs } nss))) (r : HC X t g hds hs) :
      HC X t g (.ExceptHandler (some (.Name x np)) (some nm) (b₀ :: suite) pos' :: hds) (.cons ids (some i) nss hs)
section
variable {X : Cx} {t : Th} {W : L2.WX} {g : G} {pos : Pos} {hds : List ExceptHandler} {hs : Hds}
theorem hands_ok (hx : t.ex = none) (O : ∀ a pn e, Ok (X.suite a pn) { t with ex := e } W0) (k : HC X t g hds hs) : ∃ l, HdsAny X hds l ∧ ∀ (ρ : List Addr) (h : Heap) (H : Hp) (s : Sl) (σ : L2.St) (D : Ends) (W : L2.WX) (c : Nat) (fs : List (Str × Val)) (C d : Addr) (ys : List (Str × V)),
    HR t ρ h H → SR t ρ s σ → t.ga c = some C → H d = some (.xd ys) → FRs t ρ fs ys → Post t ρ H (hands g hs c fs s h) (KFl t W D) E0' → wAny X.K W D l (.ref C) (some d) σ H := by
  induction k with
  | nil => exact ⟨[], .nil, fun ρ h H s σ D W c fs C d ys x sr hc hd hf p => by unfold hands at p; exact Post.ok x p C d ys σ hc hd hf sr⟩
  | @plain x' ids b₀ suite np pos' hds nss hs hE hg hdb hsu r ih =>
    obtain ⟨l, hl, ih⟩ := ih
    obtain ⟨T, hT, hm⟩ := hE.ex
    refine ⟨(.ref T, none, fun a cls d => fun D σ H => ∃ fs, tS t W0 (exes { g with ex := some fs } nss) D σ H) :: l, .plain ⟨hg, hdb, .inl hT⟩ (fun a oe cls d pn z1 z2 => ⟨fun pins s σ H D I ⟨fs, q⟩ => (hsu a ((a, oe) :: pn) fs (by have := O a ((a, oe) :: pn) t.ex; exact this)).run pins s σ H D I q⟩) hl, fun ρ h H s σ D W c fs C d ys x sr hc hd hf p => ⟨_, hm c C hc, fun e a ha => ?_, fun e => ih ρ h H s σ D W c fs C d ys x sr hc hd hf ?_⟩⟩
    · have e := of_decide_eq_true e
      unfold hands at p
      rw [if_pos e] at p
      refine ⟨fs, ρ, h, s, x, sr, (Post.bind p).imp fun fl h1 ρ1 H1 e1 x1 p1 => ?_⟩
      cases fl with
      | nx s' => exact Post.ok (E := E0') x1 p1
      | rt v => exact Post.ok (E := E0') x1 p1
      | ex c' fs' s' => exact p1.elim
    · have e := of_decide_eq_false e
      unfold hands at p
      rw [if_neg e] at p
      exact p
  | @named x' nm ids i b₀ suite np pos' hds nss hs hE hg hdb hi hln hsu r ih =>
    obtain ⟨l, hl, ih⟩ := ih
    obtain ⟨T, hT, hm⟩ := hE.ex
    refine ⟨(.ref T, some i, fun a cls d => fun D σ H => ∃ fs C d', cls = .ref C ∧ d = some d' ∧ (∃ k ∈ ids, t.ga k = some C) ∧ tS (t.hot i a d' fs) W0 (exes { g with ex := some fs } nss) D σ H) :: l,
      .named ⟨hg, hdb, .inl hT⟩ hi hln (fun a oe cls d pn z1 z2 => ⟨fun pins s σ H D I ⟨fs, C, d', e1, e2, ⟨k, hk, hga⟩, q⟩ => by subst e1; subst e2; exact (hsu a oe pn fs C d' k hk hga z1 z2 (O a ((a, oe) :: pn) _)).run pins s σ H D I q⟩) hl, fun ρ h H s σ D W c fs C d ys x sr hc hd hf p => ⟨_, hm c C hc, fun e a ha => ?_, fun e => ih ρ h H s σ D W c fs C d ys x sr hc hd hf ?_⟩⟩
    · have e := of_decide_eq_true e
      unfold hands at p
      rw [if_pos e] at p
      have xo : XOk (t.hot i a d fs) ρ H := fun i' a' d' fs' z => by
        cases z
        exact ⟨ys, hd, pr_mono (fun _ _ w => ⟨w.1, by rw [VR_ex]; exact w.2⟩) hf⟩
      have xh : HR (t.hot i a d fs) ρ h H := x.warm xo
      have srh : SR (t.hot i a d fs) ρ (goneS (some i) s) (σ.set i (some (.ref a))) := by
        refine ⟨?_, fun i' a' d' fs' z e2 => ?_⟩
        · rw [SO_ex]
          exact pr_set (show SO t ρ none (some (.ref a)) from trivial) i sr.pr
        · cases z
          have hl : i < s.length := by
            have := (List.getElem?_eq_some_iff.mp e2).1
            rw [show (goneS (some i) s).length = s.length from List.length_set] at this
            exact this
          rw [List.getElem?_set_self (by rw [← sr.pr.length]; exact hl)]
      refine ⟨fs, C, d, rfl, rfl, ⟨c, e, hc⟩, ρ, h, goneS (some i) s, xh, srh, ?_⟩
      generalize exes { g with ex := some fs } nss (goneS (some i) s) h = z at p ⊢
      cases z with
      | bad => exact p
      | exc c' fs' h1 => exact fun _ _ _ _ _ e2 y _ _ _ => (p _ _ _ _ _ e2 (y.cold hx) (by assumption) (by assumption) (by rename_i q; exact pr_mono (fun _ _ w => ⟨w.1, by have := w.2; rw [VR_ex] at this; exact this⟩) q)).elim
      | ok fl h1 =>
        cases fl with
        | nx s' => exact fun ρ1 H1 e1 x1 σ' sr' => p ρ1 H1 e1 (x1.cold hx) (σ'.set i none) (by
            have q := SR.cold hx sr'
            exact ⟨pr_set (show SO t ρ1 none none from trivial) i q.pr, fun _ _ _ _ z => by rw [hx] at z; cases z⟩)
        | rt v => exact fun ρ1 H1 e1 x1 y ry => p ρ1 H1 e1 (x1.cold hx) y (by rw [VR_ex] at ry; exact ry)
        | ex c' fs' s' => exact p.elim
    · have e := of_decide_eq_false e
      unfold hands at p
      rw [if_neg e] at p
      exact p
theorem s_tri {body : List Stmt} {h₀ : ExceptHandler} {nss : Sts} (O : OkC X t W) (hb : ∀ (W' : L2.WX) (pn : List (Addr × PySem.Obj)) (xe : Value → Shared → Prop), OkC (X.tr pn xe) t W' → PSs (X.tr pn xe) body (tS t W' (exes g nss))) (hh : HC X t g (h₀ :: hds) hs)
    (hst : X.stack = X.env :: X.outer := by rfl) (hf : X.env.frame = some X.env.locals := by rfl) : PS X (.Try body (h₀ :: hds) [] [] pos) (tS t W (exe g (.tri nss hs))) := by
  obtain ⟨l, hl, ih⟩ := hands_ok O.px (fun a pn e => O.su a pn e) hh
  refine PSi (ps_try_any hst hf O.nd O.tk (tb := fun W' => tS t W' (exes g nss)) (fun W' pn xe tk own => hb W' pn xe (O.tr tk own)) hl) fun D σ H ⟨ρ, h, s, x, sr, p⟩ => ⟨ρ, h, s, x, sr, ?_⟩
  unfold exe at p
  refine (Post.bind p).imp fun fl h1 ρ1 H1 e1 x1 p1 => ?_
  cases fl with
  | nx s' => exact Post.ok (E := E0') x1 p1
  | rt v => exact Post.ok (E := E0') x1 p1
  | ex c fs s' => exact fun C d ys σ' hc hd hf sr' => ih ρ1 h1 H1 s' σ' D W c fs C d ys x1 sr' hc hd hf p1
end
/-! ## x in range(..) -/
def rRng (neg : Bool) : R2 := fun x y H Q => ∃ i a lo hi, x = V.int i ∧ y = V.ref a ∧ H a = some (.rng lo hi) ∧ Q (.bl (xor neg (decide (lo ≤ i ∧ i < hi)))) H
def rRgs : List V → Hp → VK → Prop := fun vs H Q => (∃ j, vs = [V.int j] ∧ ∀ p, H p = none → Q (.ref p) (upd H p (.rng 0 j))) ∨ ∃ i j, vs = [V.int i, V.int j] ∧ ∀ p, H p = none → Q (.ref p) (upd H p (.rng i j))
section
variable {X : Cx} {t : Th} {W : L2.WX} {g : G} {a b : Expr} {bs : List Expr} {ma : Ex} {ms : Exs} {pos : Pos}
theorem rg_in : OpR X (compareOp .In) (rRng false) := by
  intro pins s σ H x y v u Q I rx ry ⟨i, a, lo, hi, e1, e2, e3, q⟩
  exact op_in_rng pins s σ H x y v u Q I rx ry ⟨i, a, lo, hi, e1, e2, e3, by rw [Bool.false_xor] at q; exact q⟩
theorem rg_notin : OpR X (compareOp .NotIn) (rRng true) := by
  intro pins s σ H x y v u Q I rx ry h
  obtain ⟨i, a, lo, hi, rfl, rfl, ha, q⟩ := h
  obtain ⟨k, rfl⟩ := rx
  obtain rfl : u = Value.ref a := ry
  obtain ⟨t1, t2, t3, ho⟩ := I.hok a _ ha
  show wpAny _ _ (do return Value.bool (!(← contains (Value.ref a) (Value.int i k)))) _ _ s
  refine wpAny_bind (wpAny_contains_slot (T := "range") ⟨_, ho, rfl⟩ F.slot_range_contains (call_meets F.slot_range_contains ⟨_, ho, rfl⟩ F.entry_range_contains (F.args_range_contains_2 _ _) (q_contains a lo hi i t1 t2 t3 k)
    ⟨ho, wpAny_truthy_bool (wpAny_pure ⟨.bl _, H, I, rfl, ?_⟩)⟩))
  rw [place1]
  rw [Bool.true_xor] at q
  exact q
theorem cr_rgs : CallR X (.type "range") rRgs := by
  intro pins s σ H vs us Q I r h
  rcases h with ⟨j, rfl, q⟩ | ⟨i, j, rfl, q⟩
  · match us, r with
    | [_], .cons ⟨u, e⟩ .nil =>
      subst e
      refine call_range_1 ⟨.ref s.heap.objs.size, upd H s.heap.objs.size (.rng 0 j), I.laid (t' := s.toks + 1 + 1) (fun b o e => Heap.get?_push_of_some _ e) (Nat.le_refl _) ?_, rfl, q _ (I.hok.fresh (Nat.le_refl _))⟩
      exact ⟨s.toks, u, s.toks + 1, Heap.get?_push_size _ rfl⟩
  · exact cr_range2 pins s σ H _ us Q I r ⟨i, j, rfl, q⟩
theorem rg_imp {op : CmpOp} {neg : Bool} {σ : L2.St} {H : Hp} {Q : VK} (q : tE t W (den g (.inr neg ma ms)) σ H Q) : tOp (rRng neg) (tE t W (den g ma)) (tCB rRgs (tA t W (dens g ms))) σ H Q := by
  obtain ⟨ρ, h, s, x, sr, p⟩ := q
  unfold den at p
  refine ⟨ρ, h, s, x, sr, (Post.bind p).imp fun v h1 ρ1 H1 e1 x1 p1 y ry => ⟨ρ1, h1, s, x1, SR.ext e1 sr, (Post.bind p1).imp fun vs h2 ρ2 H2 e2 x2 p2 zs rz => ?_⟩⟩
  have fin : ∀ (i lo hi : Int), y = .int i → Post t ρ2 H2 (.ok (.bl (xor neg (decide (lo ≤ i ∧ i < hi)))) h2) (KV1 t Q) (EW W σ) → ∀ p, H2 p = none → rRng neg y (.ref p) (upd H2 p (.rng lo hi)) Q := by
    intro i lo hi ey p3 p hp
    have nd : p ∉ ρ2 := x2.free hp
    exact ⟨i, p, lo, hi, ey, rfl, upd_same, p3 ρ2 _ ((Ext.refl _ _).aside hp) (x2.aside nd (by rw [hp]; exact fun _ _ => nofun) (by rw [hp]; exact fun _ => nofun)) _ rfl⟩
  unfold inrV at p2
  split at p2
  · rename_i i
    have ey : y = .int i := ry
    split at p2
    · obtain ⟨z, rfl, r1⟩ := vrs1 rz
      cases r1
      exact .inl ⟨_, rfl, fin _ _ _ ey p2⟩
    · obtain ⟨z1, z2, rfl, r1, r2⟩ := vrs2 rz
      cases r1; cases r2
      exact .inr ⟨_, _, rfl, fin _ _ _ ey p2⟩
    · exact p2.elim
  · exact p2.elim
theorem e_inr {op : CmpOp} {neg : Bool} {p p2 : Pos} (ho : OpR X (compareOp op) (rRng neg)) (ha : PE X a (tE t W (den g ma))) (hm : X.mg "range" = none) (hb : PA X (b :: bs) (tA t W (dens g ms))) (hg : Gl X "range" := by rfl)
    (he : starEach (b :: bs) X.env = (false, eval b X.env) :: starEach bs X.env := by rfl) (hpl : (backTo p2 (starEach bs X.env)).any (·.1) = false := by rfl) (hmk : behindInMarks op (.Call (.Name "range" p) (b :: bs) [] p2) = false := by rfl) :
    PE X (.Compare a [op] [.Call (.Name "range" p) (b :: bs) [] p2] pos) (tE t W (den g (.inr neg ma ms))) :=
  PEi (pe_cmpR ho ha (pe_callTy cr_rgs hg hm (by decide +kernel) hb (by decide) (by decide) he hpl) hmk) fun σ H Q q => rg_imp (op := op) q
theorem t_inr {op : CmpOp} {neg : Bool} {p p2 : Pos} (ho : OpR X (compareOp op) (rRng neg)) (ha : PE X a (tE t W (den g ma))) (hm : X.mg "range" = none) (hb : PA X (b :: bs) (tA t W (dens g ms))) (hg : Gl X "range" := by rfl)
    (he : starEach (b :: bs) X.env = (false, eval b X.env) :: starEach bs X.env := by rfl) (hpl : (backTo p2 (starEach bs X.env)).any (·.1) = false := by rfl) (hmk : behindInMarks op (.Call (.Name "range" p) (b :: bs) [] p2) = false := by rfl) :
    PT X (.Compare a [op] [.Call (.Name "range" p) (b :: bs) [] p2] pos) (tT t W (denT g (.inr neg ma ms))) := by
  refine PTi (pt_cmpR ho ha (pe_callTy cr_rgs hg hm (by decide +kernel) hb (by decide) (by decide) he hpl) hmk) fun σ H Q ⟨ρ, h, s, hr, sr, q⟩ => ?_
  refine rg_imp (op := op) (Q := fun v H' => ∃ k, v = .bl k ∧ Q k H') ⟨ρ, h, s, hr, sr, ?_⟩
  unfold denT at q
  unfold den at q ⊢
  have q1 := Post.bind q
  have q2 := Post.bind q1
  refine (show Post t ρ H ((den g ma s h).bind fun x h => (dens g ms s h).bind fun vs h => inrV neg x vs h) _ _ from ?_)
  generalize he : ((den g ma s h).bind fun x h => (dens g ms s h).bind fun vs h => inrV neg x vs h) = r at q1 ⊢
  cases r with
  | bad => exact q1
  | exc c fs h1 => exact q1
  | ok v h1 =>
    have hv : ∃ k, v = .bl k := by
      cases hx : den g ma s h with
      | ok x1 h1' =>
        rw [hx] at he
        cases hy : dens g ms s h1' with
        | ok y1 h2' =>
          simp only [Res.bind_ok, hy] at he
          unfold inrV at he
          repeat' split at he
          all_goals cases he
          all_goals exact ⟨_, rfl⟩
        | exc _ _ _ => simp only [Res.bind_ok, hy, Res.bind_exc] at he; cases he
        | bad => simp only [Res.bind_ok, hy, Res.bind_bad] at he; cases he
      | exc _ _ _ => rw [hx] at he; cases he
      | bad => rw [hx] at he; cases he
    obtain ⟨k, rfl⟩ := hv
    intro ρ2 H2 e2 x2 z rz
    cases rz
    exact ⟨k, rfl, (q1 ρ2 H2 e2 x2).ok x2⟩
end
end Mi


/-! # Mi9: how a text of Mi is reckoned: what must hold at its end; heaps that grow; the script's numbers -/
namespace Mi
open PySem (Str PyData)

/-- an equation that simp shall not take for one by unfolding -/
theorem nrfl {α : Sort _} {a b : α} (h : a = b) : a = b := h
abbrev RQ (α : Type) := α → Heap → Prop
abbrev RE := Nat → List (Str × Val) → Heap → Prop
def Res.sat {α : Type} (r : Res α) (Q : RQ α) (E : RE) : Prop :=
  match r with
  | .ok a h => Q a h
  | .exc c fs h => E c fs h
  | .bad => False
abbrev nox : RE := fun _ _ _ => False
theorem Res.sat.imp {α : Type} {r : Res α} {Q Q' : RQ α} {E E' : RE} (s : r.sat Q E) (hq : ∀ a h, Q a h → Q' a h) (he : ∀ c fs h, E c fs h → E' c fs h) : r.sat Q' E' := by
  cases r with
  | ok a h => exact hq _ _ s
  | exc c fs h => exact he _ _ _ s
  | bad => exact s
theorem Res.sat.on {α : Type} {r : Res α} {Q Q' : RQ α} {E : RE} (s : r.sat Q nox) (hq : ∀ a h, Q a h → Q' a h) : r.sat Q' E := s.imp hq fun _ _ _ z => z.elim
@[simp] theorem sat_ok {α : Type} {a : α} {h : Heap} {Q : RQ α} {E : RE} : (Res.ok a h).sat Q E = Q a h := nrfl rfl
@[simp] theorem sat_exc {α : Type} {c : Nat} {fs : List (Str × Val)} {h : Heap} {Q : RQ α} {E : RE} : (Res.exc c fs h).sat Q E = E c fs h := nrfl rfl
@[simp] theorem sat_bad {α : Type} {Q : RQ α} {E : RE} : (Res.bad : Res α).sat Q E = False := nrfl rfl
@[simp] theorem sat_bind {α β : Type} {r : Res α} {f : α → Heap → Res β} {Q : RQ β} {E : RE} : (r.bind f).sat Q E = r.sat (fun a h => (f a h).sat Q E) E := by cases r <;> rfl
@[simp] theorem sat_sb {α : Type} {σ : Sl} {r : Res α} {f : α → Heap → Res Fl} {Q : RQ Fl} {E : RE} : (r.sb σ f).sat Q E = r.sat (fun a h => (f a h).sat Q E) (fun c fs h => Q (.ex c fs σ) h) := by cases r <;> rfl
@[simp] theorem sat_fin {r : Res Fl} {Q : RQ Val} {E : RE} : r.fin.sat Q E = r.sat (fun f h => (f.out h).sat Q E) nox := by
  cases r with
  | ok f h => rfl
  | exc => rfl
  | bad => rfl
@[simp] theorem sat_ite_bad {α : Type} {c : Prop} [Decidable c] {r : Res α} {Q : RQ α} {E : RE} : (if c then r else .bad).sat Q E = (c ∧ r.sat Q E) := by
  by_cases h : c <;> simp [h]
theorem sat_ite {α : Type} {c : Prop} [Decidable c] {r r' : Res α} {Q : RQ α} {E : RE} (h1 : c → r.sat Q E) (h2 : ¬ c → r'.sat Q E) : (if c then r else r').sat Q E := by
  by_cases h : c
  · rw [if_pos h]; exact h1 h
  · rw [if_neg h]; exact h2 h

/-- to the clauses, where it is raised -/
def Fl.tri (f : Fl) (h : Heap) (k : Nat → List (Str × Val) → Sl → Heap → Res Fl) : Res Fl :=
  match f with
  | .ex c fs σ => k c fs σ h
  | .nx σ => .ok (.nx σ) h
  | .rt v => .ok (.rt v) h
@[simp] theorem Fl.tri_nx {σ : Sl} {h : Heap} {k : Nat → List (Str × Val) → Sl → Heap → Res Fl} : (Fl.nx σ).tri h k = .ok (.nx σ) h := nrfl rfl
@[simp] theorem Fl.tri_rt {v : Val} {h : Heap} {k : Nat → List (Str × Val) → Sl → Heap → Res Fl} : (Fl.rt v).tri h k = .ok (.rt v) h := nrfl rfl
@[simp] theorem Fl.tri_ex {c : Nat} {fs : List (Str × Val)} {σ : Sl} {h : Heap} {k : Nat → List (Str × Val) → Sl → Heap → Res Fl} : (Fl.ex c fs σ).tri h k = k c fs σ h := nrfl rfl
/-! ## the equations -/
@[simp] theorem SL_is : SL = 16777216 := nrfl rfl
section
variable {g : G} {σ : Sl} {h : Heap}
@[simp] theorem den_var {i : Nat} : den g (.var i) σ h = (match σ[i]? with | some (some v) => .ok v h | _ => .bad) := by rw [den] <;> rfl
@[simp] theorem den_cst {v : Val} : den g (.cst v) σ h = .ok v h := by rw [den] <;> rfl
@[simp] theorem den_glb {x : Nat} : den g (.glb x) σ h = (match g.glob x with | some v => .ok v h | none => .bad) := by rw [den] <;> rfl
@[simp] theorem den_bin {o : Op} {a b : Ex} : den g (.bin o a b) σ h = (den g a σ h).bind fun x h => (den g b σ h).bind fun y h => bop o x y h := by rw [den] <;> rfl
@[simp] theorem den_neg {a : Ex} : den g (.neg a) σ h = (den g a σ h).bind fun x h => (match x with | .int i => .ok (.int (-i)) h | _ => .bad) := by rw [den] <;> rfl
@[simp] theorem den_not {a : Ex} : den g (.not a) σ h = (den g a σ h).bind fun x h => (truB x h).bind fun b h => .ok (.bl (!b)) h := by rw [den] <;> rfl
@[simp] theorem den_and {a b : Ex} : den g (.and a b) σ h = (den g a σ h).bind fun x h => (truB x h).bind fun t h => if t then den g b σ h else .ok x h := by rw [den] <;> rfl
@[simp] theorem den_or {a b : Ex} : den g (.or a b) σ h = (den g a σ h).bind fun x h => (truB x h).bind fun t h => if t then .ok x h else den g b σ h := by rw [den] <;> rfl
@[simp] theorem den_chn {o p : Op} {a b c : Ex} : den g (.chn o p a b c) σ h = (den g a σ h).bind fun x h => (den g b σ h).bind fun y h => (bop o x y h).bind fun k h =>
    (match k with
    | .bl true => (den g c σ h).bind fun z h => bop p y z h
    | .bl false => .ok (.bl false) h
    | _ => .bad) := by rw [den] <;> rfl
@[simp] theorem den_ite {c a b : Ex} : den g (.ite c a b) σ h = (den g c σ h).bind fun x h => (truB x h).bind fun t h => if t then den g a σ h else den g b σ h := by rw [den] <;> rfl
@[simp] theorem den_lst {es : Exs} : den g (.lst es) σ h = (dens g es σ h).bind fun vs h => if vs.length ≤ SL then new (.lst vs) h else .bad := by rw [den] <;> rfl
@[simp] theorem den_tup {es : Exs} : den g (.tup es) σ h = (dens g es σ h).bind fun vs h => if vs.length ≤ SL then new (.tup vs) h else .bad := by rw [den] <;> rfl
@[simp] theorem den_dnew : den g .dnew σ h = new (.dic []) h := by rw [den] <;> rfl
@[simp] theorem den_dic {es : Exs} : den g (.dic es) σ h = (dens g es σ h).bind fun vs h => (match kvsO vs with
    | some kvs => if kvs.length ≤ 15 then new (.dic (kvs.foldl (fun acc kv => putK acc kv.1 kv.2) [])) h else .bad
    | none => .bad) := by rw [den] <;> rfl
@[simp] theorem den_idx {a i : Ex} : den g (.idx a i) σ h = (den g a σ h).bind fun x h => (den g i σ h).bind fun y h => idxV g x y h := by rw [den] <;> rfl
@[simp] theorem den_slc {a : Ex} {lo hi : Exo} : den g (.slc a lo hi) σ h = (den g a σ h).bind fun x h => (deno g lo σ h).bind fun l h => (deno g hi σ h).bind fun u h => slcV x l u h := by rw [den] <;> rfl
@[simp] theorem den_rev {a : Ex} : den g (.rev a) σ h = (den g a σ h).bind fun x h => revV x h := by rw [den] <;> rfl
@[simp] theorem den_cal {f : Nat} {es : Exs} : den g (.cal f es) σ h = (dens g es σ h).bind fun vs h => g.call f vs h := by rw [den] <;> rfl
@[simp] theorem den_pri {p : Pr} {es : Exs} : den g (.pri p es) σ h = (dens g es σ h).bind fun vs h => Mi.pri g p vs h := by rw [den] <;> rfl
@[simp] theorem den_met {m : Me} {o : Ex} {es : Exs} : den g (.met m o es) σ h = (den g o σ h).bind fun x h => if rcv m x h then (dens g es σ h).bind fun vs h => Mi.met m x vs h else .bad := by rw [den] <;> rfl
@[simp] theorem den_lc {e : Ex} {t : Tg} {s : Src} {es : Exs} {own : List Nat} {c : Exo} : den g (.lc e t s es own c) σ h = ((dens g es σ h).bind fun vs h => srcR s vs h).bind fun w h => (lcF w t (denc g c) (den g e) (wipe σ own) w.items [] h).bind fun vs h => new (.lst vs) h := by rw [den] <;> rfl
@[simp] theorem dens_nil : dens g .nil σ h = .ok [] h := by rw [dens] <;> rfl
@[simp] theorem dens_cons {e : Ex} {es : Exs} : dens g (.cons e es) σ h = (den g e σ h).bind fun v h => (dens g es σ h).bind fun vs h => .ok (v :: vs) h := by rw [dens] <;> rfl
@[simp] theorem deno_none : deno g .none σ h = .ok none h := by rw [deno] <;> rfl
@[simp] theorem deno_some {e : Ex} : deno g (.some e) σ h = (den g e σ h).bind intO := by rw [deno] <;> rfl
@[simp] theorem denc_none : denc g .none σ h = .ok true h := by rw [denc] <;> rfl
@[simp] theorem denc_some {e : Ex} : denc g (.some e) σ h = (den g e σ h).bind truB := by rw [denc] <;> rfl
@[simp] theorem denT_eq {e : Ex} : denT g e σ h = (den g e σ h).bind truB := nrfl rfl
@[simp] theorem exe_pass : exe g .pass σ h = .ok (.nx σ) h := by rw [exe] <;> rfl
@[simp] theorem exe_nvr : exe g .nvr σ h = .bad := by rw [exe] <;> rfl
@[simp] theorem exe_exp {e : Ex} : exe g (.exp e) σ h = (den g e σ h).sb σ fun _ h => .ok (.nx σ) h := by rw [exe] <;> rfl
@[simp] theorem exe_ret {e : Ex} : exe g (.ret e) σ h = (den g e σ h).sb σ fun v h => .ok (.rt v) h := by rw [exe] <;> rfl
@[simp] theorem exe_asg {t : Tg} {e : Ex} : exe g (.asg t e) σ h = (den g e σ h).sb σ fun v h => setT t v σ h := by rw [exe] <;> rfl
@[simp] theorem exe_par {is : List Nat} {es : Exs} : exe g (.par is es) σ h = (dens g es σ h).sb σ fun vs h => setP is vs σ h := by rw [exe] <;> rfl
@[simp] theorem exe_sti {o i e : Ex} : exe g (.sti o i e) σ h = (den g e σ h).sb σ fun v h => (den g o σ h).sb σ fun x h => (den g i σ h).sb σ fun y h => (setV x y v h).sb σ fun _ h => .ok (.nx σ) h := by rw [exe] <;> rfl
@[simp] theorem exe_sw2 {o i p j e : Ex} : exe g (.sw2 o i p j e) σ h = (den g e σ h).sb σ fun v h => (twoV v h).sb σ fun xy h => (den g o σ h).sb σ fun x h => (den g i σ h).sb σ fun y h => (setV x y xy.1 h).sb σ fun _ h =>
    (den g p σ h).sb σ fun x h => (den g j σ h).sb σ fun y h => (setV x y xy.2 h).sb σ fun _ h => .ok (.nx σ) h := by rw [exe] <;> rfl
@[simp] theorem exe_aug {o : Op} {i : Nat} {e : Ex} : exe g (.aug o i e) σ h = (den g (.var i) σ h).sb σ fun x h => (den g e σ h).sb σ fun y h => (aop o x y h).sb σ fun v h => .ok (.nx (σ.set i (some v))) h := by rw [exe] <;> rfl
@[simp] theorem exe_ite {c : Ex} {a b : Sts} : exe g (.ite c a b) σ h = (denT g c σ h).sb σ fun t h => if t then exes g a σ h else exes g b σ h := by rw [exe] <;> rfl
@[simp] theorem exe_whl {c : Ex} {b : Sts} : exe g (.whl c b) σ h = loopW (denT g c) (exes g b) turns σ h := by rw [exe] <;> rfl
@[simp] theorem exe_frr {t : Tg} {s : Src} {es : Exs} {b : Sts} : exe g (.frr t s es b) σ h = ((dens g es σ h).bind fun vs h => srcR s vs h).sb σ fun w h => loopF w t (exes g b) w.items σ h := by rw [exe] <;> rfl
@[simp] theorem den_efl {i : Nat} {f : Str} : den g (.efl i f) σ h = (match σ[i]? with | some none => (match g.ex with | some fs => (match fs.lookup f with | some v => .ok v h | none => .bad) | none => .bad) | _ => .bad) := by rw [den] <;> rfl
@[simp] theorem den_inr {neg : Bool} {a : Ex} {es : Exs} : den g (.inr neg a es) σ h = (den g a σ h).bind fun x h => (dens g es σ h).bind fun vs h => inrV neg x vs h := by rw [den] <;> rfl
@[simp] theorem inrV_1 {neg : Bool} {i j : Int} : inrV neg (.int i) [.int j] h = .ok (.bl (xor neg (decide (0 ≤ i ∧ i < j)))) h := nrfl rfl
@[simp] theorem inrV_2 {neg : Bool} {i l j : Int} : inrV neg (.int i) [.int l, .int j] h = .ok (.bl (xor neg (decide (l ≤ i ∧ i < j)))) h := nrfl rfl
@[simp] theorem exe_rse {c : Nat} {fs : List Str} {es : Exs} : exe g (.rse c fs es) σ h = (dens g es σ h).sb σ fun vs h => if vs.length = fs.length then .ok (.ex c (fs.zip vs).reverse σ) h else .bad := by rw [exe] <;> rfl
@[simp] theorem exe_tri {b : Sts} {hs : Hds} : exe g (.tri b hs) σ h = (exes g b σ h).bind fun f h => f.tri h (fun c fs σ h => hands g hs c fs σ h) := by
  rw [exe]
  all_goals first | rfl | (congr 1; funext f h; cases f <;> rfl)
@[simp] theorem hands_nil {c : Nat} {fs : List (Str × Val)} : hands g .nil c fs σ h = .ok (.ex c fs σ) h := by rw [hands] <;> rfl
@[simp] theorem hands_cons {c : Nat} {fs : List (Str × Val)} {ids : List Nat} {sl : Option Nat} {b : Sts} {r : Hds} : hands g (.cons ids sl b r) c fs σ h = if c ∈ ids then (exes { g with ex := some fs } b (goneS sl σ) h).bind fun f h => unx sl f h else hands g r c fs σ h := by rw [hands] <;> rfl
@[simp] theorem goneS_none : goneS none σ = σ := nrfl rfl
@[simp] theorem goneS_some {i : Nat} : goneS (some i) σ = σ.set i none := nrfl rfl
@[simp] theorem unx_nx {sl : Option Nat} : unx sl (.nx σ) h = .ok (.nx (goneS sl σ)) h := nrfl rfl
@[simp] theorem unx_rt {sl : Option Nat} {v : Val} : unx sl (.rt v) h = .ok (.rt v) h := nrfl rfl
@[simp] theorem unx_ex {sl : Option Nat} {c : Nat} {fs : List (Str × Val)} : unx sl (.ex c fs σ) h = .bad := nrfl rfl
@[simp] theorem exes_nil : exes g .nil σ h = .ok (.nx σ) h := by rw [exes] <;> rfl
@[simp] theorem exes_cons {s : St} {ss : Sts} : exes g (.cons s ss) σ h = (exe g s σ h).bind fun f h => f.go h (exes g ss) := by rw [exes] <;> rfl
end
section
variable {g : G} {h : Heap}
/-- str(i) -/
def istr (i : Int) : Str := Str.ofString (toString i)
@[simp] theorem tgV_nm {i : Nat} {v : Val} {σ : Sl} : tgV (.nm i) v σ h = some (σ.set i (some v)) := nrfl rfl
@[simp] theorem wipe_nil {σ : Sl} : wipe σ [] = σ := nrfl rfl
@[simp] theorem wipe_cons {σ : Sl} {i : Nat} {is : List Nat} : wipe σ (i :: is) = (wipe σ is).set i none := nrfl rfl
@[simp] theorem bop_in1 {c : Nat} {z : Str} : bop .in_ (.str ⟨#[c]⟩) (.str z) h = .ok (.bl (decide (c ∈ z.cps.toList))) h := nrfl rfl
@[simp] theorem bop_notin1 {c : Nat} {z : Str} : bop .notin (.str ⟨#[c]⟩) (.str z) h = .ok (.bl (!decide (c ∈ z.cps.toList))) h := nrfl rfl
@[simp] theorem rcv_join {a : Str} : rcv .join (.str a) h = true := nrfl rfl
@[simp] theorem rcv_split {a : Str} : rcv .split (.str a) h = true := nrfl rfl
@[simp] theorem rcv_sindex {a : Str} : rcv .sindex (.str a) h = true := nrfl rfl
@[simp] theorem slc_str {z : Str} {lo hi : Option Int} : slcV (.str z) lo hi h = if z.length ≤ SL then .ok (.str (L2.cutS z lo hi)) h else .bad := nrfl rfl
@[simp] theorem pri_len_str {z : Str} : Mi.pri g .len [.str z] h = if z.length ≤ SL then .ok (.int z.length) h else .bad := by
  unfold pri lenV
  by_cases c : z.length ≤ SL
  · simp only [if_pos c]
  · simp only [if_neg c]
@[simp] theorem is_a_str {x : Str} {t : String} : Mi.pri g .isinst [.str x, .ty t] h = if okTy t = true then .ok (.bl (isTy "str" t)) h else .bad := nrfl rfl
@[simp] theorem is_a_int {x : Int} {t : String} : Mi.pri g .isinst [.int x, .ty t] h = if okTy t = true then .ok (.bl (isTy "int" t)) h else .bad := nrfl rfl
@[simp] theorem is_a_bl {x : Bool} {t : String} : Mi.pri g .isinst [.bl x, .ty t] h = if okTy t = true then .ok (.bl (isTy "bool" t)) h else .bad := nrfl rfl
@[simp] theorem is_a_non {t : String} : Mi.pri g .isinst [.non, .ty t] h = if okTy t = true then .ok (.bl (isTy "NoneType" t)) h else .bad := nrfl rfl
theorem is_a_lst {p : Nat} {xs : List Val} (e : h[p]? = some (.lst xs)) {t : String} : Mi.pri g .isinst [.ref p, .ty t] h = if okTy t = true then .ok (.bl (isTy "list" t)) h else .bad := by simp [Mi.pri, tyO, e]
theorem is_a_tup {p : Nat} {xs : List Val} (e : h[p]? = some (.tup xs)) {t : String} : Mi.pri g .isinst [.ref p, .ty t] h = if okTy t = true then .ok (.bl (isTy "tuple" t)) h else .bad := by simp [Mi.pri, tyO, e]
theorem is_a_dic {p : Nat} {xs : List (Key × Val)} (e : h[p]? = some (.dic xs)) {t : String} : Mi.pri g .isinst [.ref p, .ty t] h = if okTy t = true then .ok (.bl (isTy "dict" t)) h else .bad := by simp [Mi.pri, tyO, e]
theorem len_lst {p : Nat} {xs : List Val} (e : h[p]? = some (.lst xs)) : Mi.pri g .len [.ref p] h = .ok (.int xs.length) h := by simp [Mi.pri, lenV, e]
theorem len_tup {p : Nat} {xs : List Val} (e : h[p]? = some (.tup xs)) : Mi.pri g .len [.ref p] h = .ok (.int xs.length) h := by simp [Mi.pri, lenV, e]
@[simp] theorem pri_str_int {i : Int} : Mi.pri g .str [.int i] h = if i.natAbs.log2 < 1920 then .ok (.str (istr i)) h else .bad := nrfl rfl
@[simp] theorem pri_str_str {x : Str} : Mi.pri g .str [.str x] h = .ok (.str x) h := nrfl rfl
@[simp] theorem pri_int_int {i : Int} : Mi.pri g .int [.int i] h = .ok (.int i) h := nrfl rfl
@[simp] theorem pri_int_bl {b : Bool} : Mi.pri g .int [.bl b] h = .ok (.int (if b then 1 else 0)) h := nrfl rfl
theorem pri_int_str {x : Str} {n : Int} (e : PySem.intText? x = some n) (hl : x.length ≤ 640) : Mi.pri g .int [.str x] h = .ok (.int n) h := by
  unfold Mi.pri
  simp [e, hl]
theorem log2_small {i : Int} (h : i.natAbs < 10 ^ 500) : i.natAbs.log2 < 1920 := by
  by_cases z : i.natAbs = 0
  · rw [z]; decide
  · rw [Nat.log2_lt z]
    exact Nat.lt_of_lt_of_le h (by decide +kernel)
@[simp] theorem setT_nm {i : Nat} {v : Val} {σ : Sl} : setT (.nm i) v σ h = .ok (.nx (σ.set i (some v))) h := nrfl rfl
@[simp] theorem truB_bl {b : Bool} : truB (.bl b) h = .ok b h := nrfl rfl
@[simp] theorem truB_int {i : Int} : truB (.int i) h = .ok (i != 0) h := nrfl rfl
@[simp] theorem truB_non : truB .non h = .ok false h := nrfl rfl
@[simp] theorem intO_int {i : Int} : intO (.int i) h = .ok (some i) h := nrfl rfl
@[simp] theorem bop_add {i j : Int} : bop .add (.int i) (.int j) h = .ok (.int (i + j)) h := nrfl rfl
@[simp] theorem bop_adds {a b : Str} : bop .add (.str a) (.str b) h = if a.length + b.length ≤ SL then .ok (.str (a ++ b)) h else .bad := nrfl rfl
@[simp] theorem bop_sub {i j : Int} : bop .sub (.int i) (.int j) h = .ok (.int (i - j)) h := nrfl rfl
@[simp] theorem bop_mul {i j : Int} : bop .mul (.int i) (.int j) h = if (-18446744073709551616 < i ∧ i < 18446744073709551616) ∨ (-18446744073709551616 < j ∧ j < 18446744073709551616) then .ok (.int (i * j)) h else .bad := nrfl rfl
@[simp] theorem bop_fdiv {i j : Int} : bop .fdiv (.int i) (.int j) h = if 0 < j ∧ j < 1073741824 then .ok (.int (i / j)) h else .bad := nrfl rfl
@[simp] theorem bop_mod {i j : Int} : bop .mod (.int i) (.int j) h = if 0 < j then .ok (.int (i % j)) h else .bad := nrfl rfl
@[simp] theorem bop_pow {i j : Int} : bop .pow (.int i) (.int j) h = if 0 ≤ j ∧ j ≤ 1000000 ∧ i.natAbs < 18446744073709551616 then .ok (.int (i ^ j.toNat)) h else .bad := nrfl rfl
@[simp] theorem bop_eq {i j : Int} : bop .eq (.int i) (.int j) h = .ok (.bl (decide (i = j))) h := nrfl rfl
@[simp] theorem bop_eqs {i j : Str} : bop .eq (.str i) (.str j) h = .ok (.bl (decide (i = j))) h := nrfl rfl
@[simp] theorem bop_eqb {i j : Bool} : bop .eq (.bl i) (.bl j) h = .ok (.bl (decide (i = j))) h := nrfl rfl
@[simp] theorem bop_ne {i j : Int} : bop .ne (.int i) (.int j) h = .ok (.bl (!decide (i = j))) h := nrfl rfl
@[simp] theorem bop_nes {i j : Str} : bop .ne (.str i) (.str j) h = .ok (.bl (!decide (i = j))) h := nrfl rfl
@[simp] theorem bop_neb {i j : Bool} : bop .ne (.bl i) (.bl j) h = .ok (.bl (!decide (i = j))) h := nrfl rfl
@[simp] theorem bop_lt {i j : Int} : bop .lt (.int i) (.int j) h = .ok (.bl (decide (i < j))) h := nrfl rfl
@[simp] theorem bop_le {i j : Int} : bop .le (.int i) (.int j) h = .ok (.bl (decide (i ≤ j))) h := nrfl rfl
@[simp] theorem bop_gt {i j : Int} : bop .gt (.int i) (.int j) h = .ok (.bl (decide (j < i))) h := nrfl rfl
@[simp] theorem bop_ge {i j : Int} : bop .ge (.int i) (.int j) h = .ok (.bl (decide (j ≤ i))) h := nrfl rfl
@[simp] theorem bop_is_non {x : Val} : bop .is x .non h = .ok (.bl (decide (x = .non))) h := nrfl rfl
@[simp] theorem bop_isnot_non {x : Val} : bop .isnot x .non h = .ok (.bl (!decide (x = .non))) h := nrfl rfl
@[simp] theorem aop_add {i j : Int} : aop .add (.int i) (.int j) h = .ok (.int (i + j)) h := nrfl rfl
@[simp] theorem aop_sub {i j : Int} : aop .sub (.int i) (.int j) h = .ok (.int (i - j)) h := nrfl rfl
@[simp] theorem aop_adds {a b : Str} : aop .add (.str a) (.str b) h = if a.length + b.length ≤ SL then .ok (.str (a ++ b)) h else .bad := nrfl rfl
@[simp] theorem pri_max {i j : Int} : Mi.pri g .max [.int i, .int j] h = .ok (.int (max i j)) h := by
  show Res.ok (Val.int (if j > i then j else i)) h = _
  congr 2
  split <;> omega
@[simp] theorem pri_min {i j : Int} : Mi.pri g .min [.int i, .int j] h = .ok (.int (min i j)) h := by
  show Res.ok (Val.int (if j < i then j else i)) h = _
  congr 2
  split <;> omega
@[simp] theorem pri_len_scr : Mi.pri g .len [.scr] h = .ok (.int g.scr.length) h := nrfl rfl
end

/-! ## heaps that grow; n of them is written -/
structure Fr (h h' : Heap) : Prop where
  len : h.length ≤ h'.length
  get : ∀ m : Nat, m < h.length → h'[m]? = h[m]?
structure Fx1 (n : Nat) (h h' : Heap) : Prop where
  len : h.length ≤ h'.length
  get : ∀ m : Nat, m < h.length → m ≠ n → h'[m]? = h[m]?
theorem Fr.refl (h : Heap) : Fr h h := ⟨Nat.le_refl _, fun _ _ => rfl⟩
theorem Fr.trans {h h' h'' : Heap} (a : Fr h h') (b : Fr h' h'') : Fr h h'' := ⟨Nat.le_trans a.len b.len, fun m hm => (b.get m (Nat.lt_of_lt_of_le hm a.len)).trans (a.get m hm)⟩
theorem Fr.one {h h' : Heap} (a : Fr h h') (n : Nat) : Fx1 n h h' := ⟨a.len, fun m hm _ => a.get m hm⟩
theorem Fx1.refl (n : Nat) (h : Heap) : Fx1 n h h := (Fr.refl h).one n
theorem Fx1.trans {n : Nat} {h h' h'' : Heap} (a : Fx1 n h h') (b : Fx1 n h' h'') : Fx1 n h h'' := ⟨Nat.le_trans a.len b.len, fun m hm z => (b.get m (Nat.lt_of_lt_of_le hm a.len) z).trans (a.get m hm z)⟩
/-- n was not yet there -/
theorem Fx1.fresh {n : Nat} {h h' : Heap} (a : Fx1 n h h') (hn : h.length ≤ n) : Fr h h' := ⟨a.len, fun m hm => a.get m hm (by omega)⟩
theorem lt_of_get {h : Heap} {n : Nat} {o : Ob} (e : h[n]? = some o) : n < h.length := by
  rcases Nat.lt_or_ge n h.length with z | z
  · exact z
  · rw [List.getElem?_eq_none z] at e; cases e
theorem Fr.at {h h' : Heap} (a : Fr h h') {n : Nat} {o : Ob} (e : h[n]? = some o) : h'[n]? = some o := (a.get n (lt_of_get e)).trans e
theorem Fx1.at {m : Nat} {h h' : Heap} (a : Fx1 m h h') {n : Nat} {o : Ob} (e : h[n]? = some o) (hn : n ≠ m) : h'[n]? = some o := (a.get n (lt_of_get e) hn).trans e
theorem Fr.push (h : Heap) (o : Ob) : Fr h (h ++ [o]) := ⟨by simp, fun m hm => List.getElem?_append_left hm⟩
theorem Fx1.put (h : Heap) (n : Nat) (o : Ob) : Fx1 n h (h.set n o) := ⟨by simp, fun m hm z => by simp [List.getElem?_set, Ne.symm z]⟩
/-- a new object: the heap after it is left open -/
theorem sat_new {o : Ob} {h : Heap} {Q : RQ Val} {E : RE} (hq : ∀ (n : Nat) (h' : Heap), h'[n]? = some o → n = h.length → h'.length = h.length + 1 → Fr h h' → Q (.ref n) h') : (new o h).sat Q E :=
  hq h.length (h ++ [o]) (by simp) rfl (by simp) (Fr.push h o)
theorem sat_set {h : Heap} {n j : Nat} {xs : List Val} {k : Int} {v : Val} {Q : RQ Unit} {E : RE} (hn : h[n]? = some (.lst xs)) (hj : L2.ixN xs.length k = some j)
    (hp : ∀ h', h'[n]? = some (.lst (xs.set j v)) → h'.length = h.length → Fx1 n h h' → Q () h') : (setV (.ref n) (.int k) v h).sat Q E := by
  unfold setV
  dsimp only
  rw [hn]
  dsimp only
  rw [hj]
  exact hp _ (by simp [lt_of_get hn]) (by simp) (Fx1.put h n _)
theorem sat_setD {h : Heap} {n : Nat} {xs : List (Key × Val)} {i v : Val} {k : Key} {Q : RQ Unit} {E : RE} (hn : h[n]? = some (.dic xs)) (hj : keyV i = some k) (hl : xs.length < SL)
    (hp : ∀ h', h'[n]? = some (.dic (putK xs k v)) → h'.length = h.length → Fx1 n h h' → Q () h') : (setV (.ref n) i v h).sat Q E := by
  unfold setV
  dsimp only
  rw [hn]
  dsimp only
  rw [hj]
  dsimp only
  rw [if_pos hl]
  exact hp _ (by simp [lt_of_get hn]) (by simp) (Fx1.put h n _)
theorem sat_app {h : Heap} {n : Nat} {xs : List Val} {v : Val} {Q : RQ Val} {E : RE} (hn : h[n]? = some (.lst xs)) (hl : xs.length < SL)
    (hp : ∀ h', h'[n]? = some (.lst (xs ++ [v])) → h'.length = h.length → Fx1 n h h' → Q .non h') : (met .append (.ref n) [v] h).sat Q E := by
  unfold met
  dsimp only
  rw [hn]
  dsimp only
  rw [if_pos hl]
  exact hp _ (by simp [lt_of_get hn]) (by simp) (Fx1.put h n _)
theorem sat_clear {h : Heap} {n : Nat} {xs : List Val} {Q : RQ Val} {E : RE} (hn : h[n]? = some (.lst xs))
    (hp : ∀ h', h'[n]? = some (.lst []) → h'.length = h.length → Fx1 n h h' → Q .non h') : (met .clear (.ref n) [] h).sat Q E := by
  unfold met
  dsimp only
  rw [hn]
  exact hp _ (by simp [lt_of_get hn]) (by simp) (Fx1.put h n _)
theorem rc_clear {h : Heap} {n : Nat} {xs : List Val} (e : h[n]? = some (.lst xs)) : rcv .clear (.ref n) h = true := by
  unfold rcv lstO
  simp [e]
theorem rc_pop {h : Heap} {n : Nat} {xs : List Val} (e : h[n]? = some (.lst xs)) : rcv .pop (.ref n) h = true := by
  unfold rcv lstO
  simp [e]
def lstAt (xs : List Val) (i : Int) (h : Heap) : Res Val := match L2.atI xs i with | some v => .ok v h | none => .bad
theorem ix_lst {h : Heap} {n : Nat} {xs : List Val} (e : h[n]? = some (.lst xs)) (g : G) (i : Int) : idxV g (.ref n) (.int i) h = lstAt xs i h := by
  unfold idxV
  dsimp only
  rw [e]
  rfl
theorem ix_tup {h : Heap} {n : Nat} {xs : List Val} (e : h[n]? = some (.tup xs)) (g : G) (i : Int) : idxV g (.ref n) (.int i) h = lstAt xs i h := by
  unfold idxV
  dsimp only
  rw [e]
  rfl
theorem rc_app {h : Heap} {n : Nat} {xs : List Val} (e : h[n]? = some (.lst xs)) : rcv .append (.ref n) h = true := by
  unfold rcv lstO
  simp [e]

/-! ## loops -/
theorem loopF_inv {w : Walk} {t : Tg} {b : Sl → Heap → Res Fl} {Q : RQ Fl} {E : RE} (I : List It → Sl → Heap → Prop)
    (hw : ∀ r σ h, I r σ h → w.ok h = true)
    (step : ∀ i r σ h, I (i :: r) σ h → ∃ σ', tgV t (yieldI i h).1 σ (yieldI i h).2 = some σ' ∧ (b σ' (yieldI i h).2).sat (fun f h' => (match f with | .nx σ'' => I r σ'' h' | .rt v => Q (.rt v) h' | .ex c fs σ => Q (.ex c fs σ) h')) E)
    (done : ∀ σ h, I [] σ h → Q (.nx σ) h) : ∀ (is : List It) (σ : Sl) (h : Heap), I is σ h → (loopF w t b is σ h).sat Q E
  | [], σ, h, i => by
    unfold loopF
    rw [if_pos (hw _ _ _ i)]
    exact done _ _ i
  | x :: is, σ, h, i => by
    unfold loopF
    rw [if_pos (hw _ _ _ i)]
    obtain ⟨σ', e, s⟩ := step _ _ _ _ i
    rw [e]
    dsimp only
    rw [sat_bind]
    refine s.imp (fun f h' z => ?_) fun _ _ _ z => z
    cases f with
    | nx σ'' => exact loopF_inv I hw step done is σ'' h' z
    | rt v => exact z
    | ex c fs σ => exact z
theorem lcF_inv {w : Walk} {t : Tg} {c : Sl → Heap → Res Bool} {e : Sl → Heap → Res Val} {σ : Sl} {Q : RQ (List Val)} {E : RE} (I : List It → List Val → Heap → Prop)
    (hw : ∀ r a h, I r a h → w.ok h = true) (ha : ∀ i r a h, I (i :: r) a h → a.length < SL)
    (step : ∀ i r a h, I (i :: r) a h → ∃ σ', tgV t (yieldI i h).1 σ (yieldI i h).2 = some σ' ∧ (c σ' (yieldI i h).2).sat (fun b h1 => if b then (e σ' h1).sat (fun v h2 => I r (a ++ [v]) h2) nox else I r a h1) nox)
    (done : ∀ a h, I [] a h → Q a h) : ∀ (is : List It) (a : List Val) (h : Heap), I is a h → (lcF w t c e σ is a h).sat Q E
  | [], a, h, i => by
    unfold lcF
    rw [if_pos (hw _ _ _ i)]
    exact done _ _ i
  | x :: is, a, h, i => by
    unfold lcF
    rw [if_pos (hw _ _ _ i)]
    have hl := ha _ _ _ _ i
    obtain ⟨σ', e1, s⟩ := step _ _ _ _ i
    rw [e1]
    dsimp only
    generalize c σ' (yieldI x h).2 = rc at s
    match rc, s with
    | .ok true h1, s =>
      have s : (e σ' h1).sat (fun v h2 => I is (a ++ [v]) h2) nox := s
      dsimp only
      generalize e σ' h1 = re at s
      match re, s with
      | .ok v h2, s => dsimp only; rw [if_pos hl]; exact lcF_inv I hw ha step done is _ h2 s
    | .ok false h1, s => exact lcF_inv I hw ha step done is a h1 s
theorem loopW_inv {c : Sl → Heap → Res Bool} {b : Sl → Heap → Res Fl} {Q : RQ Fl} {E : RE} (I : Nat → Sl → Heap → Prop)
    (step : ∀ n σ h, I n σ h → (c σ h).sat (fun t h1 => if t then ∃ m, n = m + 1 ∧ (b σ h1).sat (fun f h' => (match f with | .nx σ'' => I m σ'' h' | .rt v => Q (.rt v) h' | .ex c fs σ => Q (.ex c fs σ) h')) E else Q (.nx σ) h1) (fun c fs h => Q (.ex c fs σ) h)) :
    ∀ (k n : Nat) (σ : Sl) (h : Heap), n < k → I n σ h → (loopW c b k σ h).sat Q E
  | 0, n, _, _, hk, _ => by omega
  | k + 1, n, σ, h, hk, i => by
    unfold loopW
    rw [sat_sb]
    refine (step _ _ _ i).imp (fun t h1 z => ?_) fun _ _ _ z => z
    cases t with
    | false => exact z
    | true =>
      obtain ⟨m, e, s⟩ := z
      rw [if_pos rfl, sat_bind]
      refine s.imp (fun f h' z => ?_) fun _ _ _ z => z
      cases f with
      | nx σ'' => exact loopW_inv I step k m σ'' h' (by omega) z
      | rt v => exact z
      | ex c fs σ => exact z

/-! ## texts -/
theorem len_tl (x : Str) : x.length = (TL.tl x).length := by simp [Str.length, TL.tl]
theorem len_cat (a b : Str) : (a ++ b).length = a.length + b.length := by rw [len_tl, TL.tl_append, List.length_append, ← len_tl, ← len_tl]
theorem len_cut (z : Str) (lo hi : Option Int) : (L2.cutS z lo hi).length ≤ z.length := by
  rw [len_tl, len_tl]
  show (List.take _ (List.drop _ _)).length ≤ _
  rw [List.length_take, List.length_drop]
  exact Nat.le_trans (Nat.min_le_right _ _) (Nat.sub_le _ _)
theorem joinL_nil : ∀ l : List (List Nat), TL.joinL [] l = l.flatten
  | [] => rfl
  | [p] => by simp [TL.joinL]
  | p :: q :: r => by
    show p ++ ([] ++ TL.joinL [] (q :: r)) = _
    rw [joinL_nil (q :: r)]
    simp
theorem tl_join0 {a : Str} (ha : TL.tl a = []) (ys : List Str) : TL.tl (PySem.Txt.join a ys) = (ys.map TL.tl).flatten := by
  rw [TL.join_eq, TL.tl_join, ha]
  exact joinL_nil _
theorem len_join0 {k : Nat} {a : Str} (ha : TL.tl a = []) : ∀ {ys : List Str}, (∀ y ∈ ys, y.length ≤ k) → (PySem.Txt.join a ys).length ≤ ys.length * k := by
  intro ys
  rw [len_tl, tl_join0 ha]
  induction ys with
  | nil => intro _; simp
  | cons y r ih =>
    intro h
    have h1 := ih fun z hz => h z (List.mem_cons_of_mem _ hz)
    have h2 := h y (List.mem_cons_self ..)
    rw [len_tl] at h2
    simp only [List.map_cons, List.flatten_cons, List.length_append, List.length_cons, Nat.succ_mul]
    omega
/-- its signs are signs -/
def Okt (x : Str) : Prop := ∀ c ∈ TL.tl x, c < 1114112
theorem Okt.cat {x y : Str} (a : Okt x) (b : Okt y) : Okt (x ++ y) := fun c hc => by
  rw [TL.tl_append] at hc
  rcases List.mem_append.mp hc with z | z
  · exact a c z
  · exact b c z
theorem Okt.one {c : Nat} (h : c < 1114112) : Okt ⟨#[c]⟩ := fun d hd => by
  simp [TL.tl] at hd
  subst hd
  exact h
theorem Okt.cut {z : Str} (a : Okt z) {lo hi : Option Int} : Okt (L2.cutS z lo hi) := fun c hc => a c (List.mem_of_mem_drop (List.mem_of_mem_take (show c ∈ List.take _ (List.drop _ z.cps.toList) from hc)))
theorem Okt.join0 {a : Str} (ha : TL.tl a = []) {ys : List Str} (h : ∀ y ∈ ys, Okt y) : Okt (PySem.Txt.join a ys) := fun c hc => by
  rw [tl_join0 ha] at hc
  obtain ⟨l, hl, h2⟩ := List.mem_flatten.mp hc
  obtain ⟨y, hy, rfl⟩ := List.mem_map.mp hl
  exact h y hy c h2
theorem okt_of {x : Str} (h : (x.cps.all fun c => decide (c < 1114112)) = true) : Okt x := fun c hc => by
  rw [← Array.all_toList] at h
  exact of_decide_eq_true (List.all_eq_true.mp h c hc)
@[simp] theorem len_one {c : Nat} : (⟨#[c]⟩ : Str).length = 1 := nrfl rfl
theorem sum_len {k : Nat} : ∀ {ys : List Str}, (∀ y ∈ ys, y.length ≤ k) → (ys.map (·.length)).sum ≤ ys.length * k
  | [], _ => by simp
  | y :: r, h => by
    have h1 := sum_len fun z hz => h z (List.mem_cons_of_mem _ hz)
    have h2 := h y (List.mem_cons_self ..)
    simp only [List.map_cons, List.sum_cons, List.length_cons, Nat.succ_mul]
    omega
theorem strsO_map : ∀ ys : List Str, strsO (ys.map .str) = some ys
  | [] => rfl
  | y :: r => by show (strsO (r.map .str)).map _ = _; rw [strsO_map r]; rfl
theorem blsO_map : ∀ ys : List Bool, blsO (ys.map .bl) = some ys
  | [] => rfl
  | y :: r => by show (blsO (r.map .bl)).map _ = _; rw [blsO_map r]; rfl
theorem intsO_map : ∀ ys : List Int, intsO (ys.map .int) = some ys
  | [] => rfl
  | y :: r => by show (intsO (r.map .int)).map _ = _; rw [intsO_map r]; rfl
@[simp] theorem pri_repr_bl {g : G} {b : Bool} {h : Heap} : Mi.pri g .repr [.bl b] h = .ok (.str (PyData.shown (.bool b))) h := by cases b <;> rfl
theorem pri_all {g : G} {n : Nat} {bs : List Bool} {h : Heap} (e : h[n]? = some (.lst (bs.map .bl))) : Mi.pri g .all [.ref n] h = .ok (.bl (bs.all id)) h := by
  simp [pri, lstO, e, blsO_map]
theorem pri_any {g : G} {n : Nat} {bs : List Bool} {h : Heap} (e : h[n]? = some (.lst (bs.map .bl))) : Mi.pri g .any [.ref n] h = .ok (.bl (bs.any id)) h := by
  simp [pri, lstO, e, blsO_map]
theorem pri_sum {g : G} {n : Nat} {bs : List Int} {h : Heap} (e : h[n]? = some (.lst (bs.map .int))) : Mi.pri g .sum [.ref n] h = .ok (.int bs.sum) h := by
  simp [pri, seqO, e, intsO_map]
theorem met_join {n : Nat} {a : Str} {ys : List Str} {h : Heap} (e : h[n]? = some (.lst (ys.map .str))) (hl : (ys.map (·.length)).sum + ys.length * a.length ≤ SL) : met .join (.str a) [.ref n] h = .ok (.str (PySem.Txt.join a ys)) h := by
  unfold met
  simp only [seqO, e, Option.bind_some, strsO_map]
  rw [if_pos hl]
theorem ok_lst (w : Walk) (h : Heap) {n : Nat} {o : Ob} (hw : w.stands = [(n, o)]) (e : h[n]? = some o) : w.ok h = true := by
  unfold Walk.ok
  rw [hw]
  simp [e]
theorem ok_nil (w : Walk) (h : Heap) (hw : w.stands = []) : w.ok h = true := by
  unfold Walk.ok
  rw [hw]
  rfl

/-- a comprehension that changes nothing -/
theorem lcF_pure {β : Type} {k : β → Val} {w : Walk} {t : Tg} {c : Sl → Heap → Res Bool} {e : Sl → Heap → Res Val} {σ : Sl} {h : Heap} {p : β → Bool} {f : β → Val} (hw : w.ok h = true) :
    ∀ {xs : List β} {acc : List Val}, (∀ x ∈ xs, ∃ σ', tgV t (k x) σ h = some σ' ∧ c σ' h = .ok (p x) h ∧ (p x = true → e σ' h = .ok (f x) h)) → acc.length + xs.length ≤ SL →
      lcF w t c e σ (xs.map fun x => .v (k x)) acc h = .ok (acc ++ (xs.filter p).map f) h
  | [], acc, _, _ => by
    show lcF w t c e σ [] acc h = _
    unfold lcF
    rw [if_pos hw]
    simp
  | x :: xs, acc, hs, hl => by
    show lcF w t c e σ (.v (k x) :: xs.map fun x => .v (k x)) acc h = _
    unfold lcF
    rw [if_pos hw]
    obtain ⟨σ', h1, h2, h3⟩ := hs x (List.mem_cons_self ..)
    have hs' := fun y hy => hs y (List.mem_cons_of_mem _ hy)
    simp only [List.length_cons] at hl
    rw [show (yieldI (.v (k x)) h).1 = k x from rfl, show (yieldI (.v (k x)) h).2 = h from rfl, h1]
    dsimp only
    rw [h2]
    cases hp : p x with
    | false =>
      dsimp only
      rw [lcF_pure hw hs' (by omega), List.filter_cons_of_neg (by simp [hp])]
    | true =>
      dsimp only
      rw [h3 hp]
      dsimp only
      rw [if_pos (by omega), lcF_pure hw hs' (by simp only [List.length_append, List.length_singleton]; omega), List.filter_cons_of_pos hp]
      simp
theorem lcF_map {β : Type} {k : β → Val} {w : Walk} {t : Tg} {c : Sl → Heap → Res Bool} {e : Sl → Heap → Res Val} {σ : Sl} {h : Heap} {f : β → Val} (hw : w.ok h = true)
    {xs : List β} {acc : List Val} (hs : ∀ x ∈ xs, ∃ σ', tgV t (k x) σ h = some σ' ∧ c σ' h = .ok true h ∧ e σ' h = .ok (f x) h) (hl : acc.length + xs.length ≤ SL) :
      lcF w t c e σ (xs.map fun x => .v (k x)) acc h = .ok (acc ++ xs.map f) h := by
  rw [lcF_pure (p := fun _ => true) hw (fun x hx => by obtain ⟨σ', h1, h2, h3⟩ := hs x hx; exact ⟨σ', h1, h2, fun _ => h3⟩) hl, List.filter_eq_self.mpr fun _ _ => rfl]
theorem filt_all {β : Type} (q : β → Bool) : ∀ l : List β, (l.filter fun c => !q c).isEmpty = l.all q
  | [] => rfl
  | x :: r => by
    cases hq : q x <;> simp [hq, filt_all q r]
@[simp] theorem sat_rng1 {j : Int} {h : Heap} {Q : RQ Walk} {E : RE} : (srcR .rng1 [.int j] h).sat Q E = ((-4611686018427387904 ≤ j ∧ j < 4611686018427387904) ∧ Q ⟨intItems 0 j.toNat, []⟩ h) := by
  unfold srcR srcV
  by_cases c : -4611686018427387904 ≤ j ∧ j < 4611686018427387904
  · simp only [show (-(2 ^ 62) ≤ j ∧ j < 2 ^ 62) = (-4611686018427387904 ≤ j ∧ j < 4611686018427387904) from rfl, if_pos c, c, true_and, sat_ok, and_self, if_true]
  · simp only [show (-(2 ^ 62) ≤ j ∧ j < 2 ^ 62) = (-4611686018427387904 ≤ j ∧ j < 4611686018427387904) from rfl, if_neg c, c, false_and, sat_bad, if_false]
@[simp] theorem sat_rng2 {i j : Int} {h : Heap} {Q : RQ Walk} {E : RE} : (srcR .rng2 [.int i, .int j] h).sat Q E = ((-4611686018427387904 ≤ i ∧ i < 4611686018427387904 ∧ -4611686018427387904 ≤ j ∧ j < 4611686018427387904) ∧ Q ⟨intItems i (j - i).toNat, []⟩ h) := by
  unfold srcR srcV
  by_cases c : -4611686018427387904 ≤ i ∧ i < 4611686018427387904 ∧ -4611686018427387904 ≤ j ∧ j < 4611686018427387904
  · simp only [show (-(2 ^ 62) ≤ i ∧ i < 2 ^ 62 ∧ -(2 ^ 62) ≤ j ∧ j < 2 ^ 62) = (-4611686018427387904 ≤ i ∧ i < 4611686018427387904 ∧ -4611686018427387904 ≤ j ∧ j < 4611686018427387904) from rfl, if_pos c, c, true_and, sat_ok, and_self, if_true]
  · simp only [show (-(2 ^ 62) ≤ i ∧ i < 2 ^ 62 ∧ -(2 ^ 62) ≤ j ∧ j < 2 ^ 62) = (-4611686018427387904 ≤ i ∧ i < 4611686018427387904 ∧ -4611686018427387904 ≤ j ∧ j < 4611686018427387904) from rfl, if_neg c, c, false_and, sat_bad, if_false]
theorem srcR_lst {n : Nat} {xs : List Val} {h : Heap} (e : h[n]? = some (.lst xs)) : srcR .val [.ref n] h = .ok ⟨xs.map .v, [(n, .lst xs)]⟩ h := by
  unfold srcR srcV walkV
  simp [e]
theorem srcR_tup {n : Nat} {xs : List Val} {h : Heap} (e : h[n]? = some (.tup xs)) : srcR .val [.ref n] h = .ok ⟨xs.map .v, [(n, .tup xs)]⟩ h := by
  unfold srcR srcV walkV
  simp [e]
@[simp] theorem srcR_str {z : Str} {h : Heap} : srcR .val [.str z] h = .ok ⟨z.cps.toList.map fun c => .v (.str ⟨#[c]⟩), []⟩ h := nrfl rfl
@[simp] theorem yield_v {x : Val} {h : Heap} : yieldI (.v x) h = (x, h) := nrfl rfl
@[simp] theorem yield_pr {x y : Val} {h : Heap} : yieldI (.pr x y) h = (.ref h.length, h ++ [.tup [x, y]]) := nrfl rfl
/-- a loop over numbers -/
theorem loopF_rng {w : Walk} {t : Tg} {b : Sl → Heap → Res Fl} {Q : RQ Fl} {E : RE} {lo : Int} {N : Nat} (I : Nat → Sl → Heap → Prop) (hw : w.stands = [])
    (step : ∀ k σ h, k < N → I k σ h → ∃ σ', tgV t (.int (lo + k)) σ h = some σ' ∧ (b σ' h).sat (fun f h' => (match f with | .nx σ'' => I (k + 1) σ'' h' | .rt v => Q (.rt v) h' | .ex c fs σ => Q (.ex c fs σ) h')) E)
    (done : ∀ σ h, I N σ h → Q (.nx σ) h) {σ : Sl} {h : Heap} (start : I 0 σ h) : (loopF w t b (intItems lo N) σ h).sat Q E := by
  refine loopF_inv (fun r σ h => ∃ k, k ≤ N ∧ r = intItems (lo + k) (N - k) ∧ I k σ h) (fun _ _ h _ => ok_nil w h hw) ?_ ?_ _ _ _ ⟨0, by omega, by simp, start⟩
  · rintro i r σ h ⟨k, hk, er, hi⟩
    obtain ⟨m, hm⟩ | hm : (∃ m, N - k = m + 1) ∨ N - k = 0 := by
      rcases Nat.eq_zero_or_pos (N - k) with z | z
      · exact .inr z
      · exact .inl ⟨N - k - 1, by omega⟩
    · rw [hm] at er
      unfold intItems at er
      cases er
      obtain ⟨σ', h1, h2⟩ := step k σ h (by omega) hi
      refine ⟨σ', h1, h2.imp (fun f h' z => ?_) fun _ _ _ z => z⟩
      cases f with
      | nx σ'' => exact ⟨k + 1, by omega, by rw [show N - (k + 1) = m by omega]; congr 1; omega, z⟩
      | rt v => exact z
      | ex c fs σ => exact z
    · rw [hm] at er
      unfold intItems at er
      cases er
  · rintro σ h ⟨k, hk, er, hi⟩
    obtain rfl : k = N := by
      rcases Nat.eq_zero_or_pos (N - k) with z | z
      · omega
      · rw [show N - k = (N - k - 1) + 1 by omega] at er
        unfold intItems at er
        cases er
    exact done σ h hi
theorem lcF_rng {w : Walk} {t : Tg} {c : Sl → Heap → Res Bool} {e : Sl → Heap → Res Val} {σ : Sl} {Q : RQ (List Val)} {E : RE} {lo : Int} {N : Nat} (I : Nat → List Val → Heap → Prop) (hw : w.stands = [])
    (ha : ∀ k a h, k < N → I k a h → a.length < SL)
    (step : ∀ k a h, k < N → I k a h → ∃ σ', tgV t (.int (lo + k)) σ h = some σ' ∧ (c σ' h).sat (fun b h1 => if b then (e σ' h1).sat (fun v h2 => I (k + 1) (a ++ [v]) h2) nox else I (k + 1) a h1) nox)
    (done : ∀ a h, I N a h → Q a h) {h : Heap} (start : I 0 [] h) : (lcF w t c e σ (intItems lo N) [] h).sat Q E := by
  refine lcF_inv (fun r a h => ∃ k, k ≤ N ∧ r = intItems (lo + k) (N - k) ∧ I k a h) (fun _ _ h _ => ok_nil w h hw) ?_ ?_ ?_ _ _ _ ⟨0, by omega, by simp, start⟩
  · rintro i r a h ⟨k, hk, er, hi⟩
    refine ha k a h ?_ hi
    rcases Nat.lt_or_ge k N with z | z
    · exact z
    · rw [show N - k = 0 by omega] at er
      unfold intItems at er
      cases er
  · rintro i r a h ⟨k, hk, er, hi⟩
    obtain ⟨m, hm⟩ | hm : (∃ m, N - k = m + 1) ∨ N - k = 0 := by
      rcases Nat.eq_zero_or_pos (N - k) with z | z
      · exact .inr z
      · exact .inl ⟨N - k - 1, by omega⟩
    · rw [hm] at er
      unfold intItems at er
      cases er
      obtain ⟨σ', h1, h2⟩ := step k a h (by omega) hi
      have nx : ∀ a h, I (k + 1) a h → ∃ k', k' ≤ N ∧ intItems (lo + k + 1) m = intItems (lo + k') (N - k') ∧ I k' a h := fun a h z => ⟨k + 1, by omega, by rw [show N - (k + 1) = m by omega]; congr 1; omega, z⟩
      refine ⟨σ', h1, h2.imp (fun b h' z => ?_) fun _ _ _ z => z⟩
      cases b with
      | false => exact nx _ _ z
      | true => exact Res.sat.imp z (fun v h2 y => nx _ _ y) fun _ _ _ z => z
    · rw [hm] at er
      unfold intItems at er
      cases er
  · rintro a h ⟨k, hk, er, hi⟩
    obtain rfl : k = N := by
      rcases Nat.eq_zero_or_pos (N - k) with z | z
      · omega
      · rw [show N - k = (N - k - 1) + 1 by omega] at er
        unfold intItems at er
        cases er
    exact done a h hi
/-- a loop over values, each made of something -/
theorem loopF_each {β : Type} {k : β → Val} {w : Walk} {t : Tg} {b : Sl → Heap → Res Fl} {Q : RQ Fl} {E : RE} (I : List β → Sl → Heap → Prop) (hw : ∀ r σ h, I r σ h → w.ok h = true)
    (step : ∀ x r σ h, I (x :: r) σ h → ∃ σ', tgV t (k x) σ h = some σ' ∧ (b σ' h).sat (fun f h' => (match f with | .nx σ'' => I r σ'' h' | .rt v => Q (.rt v) h' | .ex c fs σ => Q (.ex c fs σ) h')) E)
    (done : ∀ σ h, I [] σ h → Q (.nx σ) h) {xs : List β} {σ : Sl} {h : Heap} (start : I xs σ h) : (loopF w t b (xs.map fun x => .v (k x)) σ h).sat Q E := by
  refine loopF_inv (fun r σ h => ∃ ys : List β, r = ys.map (fun x => It.v (k x)) ∧ I ys σ h) (fun _ _ h z => by obtain ⟨ys, _, z⟩ := z; exact hw _ _ _ z) ?_ ?_ _ _ _ ⟨xs, rfl, start⟩
  · rintro i r σ h ⟨ys, er, hi⟩
    cases ys with
    | nil => cases er
    | cons x ys =>
      cases er
      obtain ⟨σ', h1, h2⟩ := step x ys σ h hi
      refine ⟨σ', h1, h2.imp (fun f h' z => ?_) fun _ _ _ z => z⟩
      cases f with
      | nx σ'' => exact ⟨ys, rfl, z⟩
      | rt v => exact z
      | ex c fs σ => exact z
  · rintro σ h ⟨ys, er, hi⟩
    cases ys with
    | nil => exact done σ h hi
    | cons x ys => cases er
/-- a loop over values -/
theorem loopF_vals {w : Walk} {t : Tg} {b : Sl → Heap → Res Fl} {Q : RQ Fl} {E : RE} (I : List Val → Sl → Heap → Prop) (hw : ∀ r σ h, I r σ h → w.ok h = true)
    (step : ∀ x r σ h, I (x :: r) σ h → ∃ σ', tgV t x σ h = some σ' ∧ (b σ' h).sat (fun f h' => (match f with | .nx σ'' => I r σ'' h' | .rt v => Q (.rt v) h' | .ex c fs σ => Q (.ex c fs σ) h')) E)
    (done : ∀ σ h, I [] σ h → Q (.nx σ) h) {xs : List Val} {σ : Sl} {h : Heap} (start : I xs σ h) : (loopF w t b (xs.map .v) σ h).sat Q E := by
  refine loopF_inv (fun r σ h => ∃ ys, r = ys.map .v ∧ I ys σ h) (fun _ _ h z => by obtain ⟨ys, _, z⟩ := z; exact hw _ _ _ z) ?_ ?_ _ _ _ ⟨xs, rfl, start⟩
  · rintro i r σ h ⟨ys, er, hi⟩
    cases ys with
    | nil => cases er
    | cons x ys =>
      cases er
      obtain ⟨σ', h1, h2⟩ := step x ys σ h hi
      refine ⟨σ', h1, h2.imp (fun f h' z => ?_) fun _ _ _ z => z⟩
      cases f with
      | nx σ'' => exact ⟨ys, rfl, z⟩
      | rt v => exact z
      | ex c fs σ => exact z
  · rintro σ h ⟨ys, er, hi⟩
    cases ys with
    | nil => exact done σ h hi
    | cons x ys => cases er
/-- a list of texts, read -/
theorem mapO_str (n : Nat) (h : Heap) : ∀ ys : List Str, mapO (rd n h) (ys.map .str) = some (ys.map PyData.str)
  | [] => rfl
  | y :: r => by
    rw [List.map_cons, mapO, mapO_str n h r]
    cases n <;> simp [rd]
theorem lay_strs : ∀ {ys : List Str}, (∀ y ∈ ys, Okt y) → PyData.canLayAll0 (ys.map PyData.str) = true
  | [], _ => rfl
  | y :: r, hy => by
    show (PyData.canLay0 (.str y) && PyData.canLayAll0 (r.map PyData.str)) = true
    rw [lay_strs fun z hz => hy z (List.mem_cons_of_mem _ hz), Bool.and_true]
    show PyData.strOk y = true
    unfold PyData.strOk
    rw [← Array.all_toList, List.all_eq_true]
    exact fun c hc => decide_eq_true (hy y (List.mem_cons_self ..) c hc)
theorem depth_strs : ∀ ys : List Str, PyData.depthAll (ys.map PyData.str) = 0
  | [] => rfl
  | y :: r => by
    show max (PyData.depth (.str y)) (PyData.depthAll (r.map PyData.str)) = 0
    rw [depth_strs r]
    rfl
/-- a list of texts against [] -/
theorem eq_none {h : Heap} {p q : Nat} {ys : List Str} (e1 : h[p]? = some (.lst (ys.map .str))) (e2 : h[q]? = some (.lst [])) (hy : ∀ y ∈ ys, Okt y) : bop .eq (.ref p) (.ref q) h = .ok (.bl ys.isEmpty) h := by
  show ofB (eqO h (.ref p) (.ref q)) h = _
  have h1 : rd 60 h (.ref p) = some (.list (ys.map PyData.str)) := by
    unfold rd
    rw [e1]
    dsimp only
    rw [mapO_str]
    rfl
  have h2 : rd 60 h (.ref q) = some (.list []) := by
    unfold rd
    rw [e2]
    rfl
  unfold eqO
  rw [h1, h2]
  dsimp only
  rw [if_pos]
  · cases ys <;> rfl
  · refine ⟨?_, by decide⟩
    unfold PySem.SeqAt.shaped
    rw [show PyData.canLay0 (.list (ys.map PyData.str)) = true from lay_strs hy, show PyData.depth (.list (ys.map PyData.str)) = 1 by (show PyData.depthAll _ + 1 = 1; rw [depth_strs])]
    decide

/-! ## the numbers that the script gives -/
def cellB (p q : Int) : Sts := .cons (.ite (.bin .lt (.var 1) (.pri .len (.cons (.var 0) (.nil)))) (.cons (.ret (.idx (.var 0) (.var 1))) (.nil)) (.nil)) (.cons (.ret (.bin .add (.bin .mul (.cst (.int p)) (.var 1)) (.cst (.int q)))) (.nil))
def boxB : Sts := .cons (.ret (.lst (.cons (.pri .max (.cons (.cst (.int 0)) (.cons (.bin .sub (.var 0) (.bin .pow (.cst (.int 10)) (.cst (.int 18)))) (.nil)))) (.cons (.bin .mod (.var 0) (.cst (.int 2147483629))) (.cons (.cst (.int 0)) (.nil)))))) (.nil)
def takeB (p q r : Int) : Sts := .cons (.ite (.bin .gt (.idx (.var 0) (.cst (.int 0))) (.cst (.int 0))) (.cons (.asg (.nm 2) (.bin .mod (.idx (.var 0) (.cst (.int 0))) (.var 1))) (.cons (.sti (.var 0) (.cst (.int 0)) (.bin .fdiv (.idx (.var 0) (.cst (.int 0))) (.var 1))) (.cons (.ret (.var 2)) (.nil)))) (.nil)) (.cons (.sti (.var 0) (.cst (.int 2)) (.bin .add (.idx (.var 0) (.cst (.int 2))) (.cst (.int 1)))) (.cons (.asg (.nm 3) (.bin .mod (.bin .pow (.bin .add (.bin .add (.idx (.var 0) (.cst (.int 1))) (.bin .mul (.cst (.int p)) (.idx (.var 0) (.cst (.int 2))))) (.cst (.int q))) (.cst (.int 5))) (.cst (.int 2147483647)))) (.cons (.asg (.nm 3) (.bin .mod (.bin .pow (.bin .add (.var 3) (.bin .mul (.cst (.int r)) (.idx (.var 0) (.cst (.int 2))))) (.cst (.int 3))) (.cst (.int 2147483587)))) (.cons (.ret (.bin .mod (.bin .fdiv (.var 3) (.cst (.int 16))) (.var 1))) (.nil)))))
/-- n is a box, after at most c takes -/
def Bx (n : Nat) (c : Nat) (h : Heap) : Prop := ∃ x y z : Int, h[n]? = some (.lst [.int x, .int y, .int z]) ∧ 0 ≤ x ∧ 0 ≤ y ∧ y < 2147483629 ∧ 0 ≤ z ∧ z ≤ c
theorem Bx.lt {n c : Nat} {h : Heap} (b : Bx n c h) : n < h.length := by obtain ⟨x, y, z, e, _⟩ := b; exact lt_of_get e
theorem Bx.fr {n c : Nat} {h h' : Heap} (b : Bx n c h) (f : Fr h h') : Bx n c h' := by obtain ⟨x, y, z, e, r⟩ := b; exact ⟨x, y, z, f.at e, r⟩
theorem Bx.up {n c d : Nat} {h : Heap} (b : Bx n c h) (l : c ≤ d) : Bx n d h := by obtain ⟨x, y, z, e, r⟩ := b; exact ⟨x, y, z, e, r.1, r.2.1, r.2.2.1, r.2.2.2.1, by omega⟩
theorem atI_of {α : Type} {xs : List α} {k : Int} (h0 : 0 ≤ k) (h1 : k < xs.length) : ∃ x, L2.atI xs k = some x ∧ x ∈ xs ∧ xs[k.toNat]? = some x := by
  have hn : k.toNat < xs.length := by omega
  refine ⟨xs[k.toNat], ?_, List.getElem_mem _, by simp [hn]⟩
  unfold L2.atI L2.ixN
  rw [if_pos h0, if_pos h1]
  simp [hn]
theorem sat_at {xs : List Val} {k : Int} {h : Heap} {Q : RQ Val} {E : RE} (h0 : 0 ≤ k) (h1 : k < xs.length) (hq : ∀ v ∈ xs, xs[k.toNat]? = some v → Q v h) : (lstAt xs k h).sat Q E := by
  obtain ⟨x, e, m, e2⟩ := atI_of h0 h1
  unfold lstAt
  rw [e]
  exact hq x m e2
theorem sat_atL {g : G} {n : Nat} {xs : List Val} {k : Int} {h : Heap} {Q : RQ Val} {E : RE} (e : h[n]? = some (.lst xs)) (h0 : 0 ≤ k) (h1 : k < xs.length) (hq : ∀ v ∈ xs, xs[k.toNat]? = some v → Q v h) : (idxV g (.ref n) (.int k) h).sat Q E := by
  rw [ix_lst e]
  exact sat_at h0 h1 hq
theorem sat_atT {g : G} {n : Nat} {xs : List Val} {k : Int} {h : Heap} {Q : RQ Val} {E : RE} (e : h[n]? = some (.tup xs)) (h0 : 0 ≤ k) (h1 : k < xs.length) (hq : ∀ v ∈ xs, xs[k.toNat]? = some v → Q v h) : (idxV g (.ref n) (.int k) h).sat Q E := by
  rw [ix_tup e]
  exact sat_at h0 h1 hq
theorem sat_atS {g : G} {z : Str} {k : Int} {h : Heap} {Q : RQ Val} {E : RE} (hz : z.length ≤ SL) (h0 : 0 ≤ k) (h1 : k < z.length) (hq : ∀ c ∈ z.cps.toList, z.cps.toList[k.toNat]? = some c → Q (.str ⟨#[c]⟩) h) : (idxV g (.str z) (.int k) h).sat Q E := by
  obtain ⟨x, e, m, e2⟩ := atI_of (xs := z.cps.toList) h0 (by simpa [Str.length] using h1)
  unfold idxV
  dsimp only
  rw [if_pos hz, e]
  exact hq x m e2
def isI : Val → Bool
  | .int _ => true
  | _ => false
def isS : Val → Bool
  | .str _ => true
  | _ => false
theorem sat_atI {g : G} {n : Nat} {xs : List Val} {k : Int} {h : Heap} {Q : RQ Val} {E : RE} (e : h[n]? = some (.lst xs)) (h0 : 0 ≤ k) (h1 : k < xs.length) (hi : xs.all isI = true) (hq : ∀ i : Int, Val.int i ∈ xs → Q (.int i) h) : (idxV g (.ref n) (.int k) h).sat Q E := by
  refine sat_atL e h0 h1 fun v hv _ => ?_
  have := List.all_eq_true.mp hi v hv
  cases v <;> first | exact hq _ hv | cases this
theorem sat_atSt {g : G} {n : Nat} {xs : List Val} {k : Int} {h : Heap} {Q : RQ Val} {E : RE} (e : h[n]? = some (.lst xs)) (h0 : 0 ≤ k) (h1 : k < xs.length) (hi : xs.all isS = true) (hq : ∀ i : Str, Val.str i ∈ xs → Q (.str i) h) : (idxV g (.ref n) (.int k) h).sat Q E := by
  refine sat_atL e h0 h1 fun v hv _ => ?_
  have := List.all_eq_true.mp hi v hv
  cases v <;> first | exact hq _ hv | cases this
theorem Fx1.fr {n : Nat} {h h' h'' : Heap} (a : Fx1 n h h') (b : Fr h' h'') : Fx1 n h h'' := a.trans (b.one n)
theorem Fr.fx {n : Nat} {h h' h'' : Heap} (a : Fr h h') (b : Fx1 n h' h'') : Fx1 n h h'' := (a.one n).trans b
theorem ok_cell {p q : Int} {g : G} {k : Int} {h : Heap} {d : Def} {Q : RQ Val} {E : RE} (hb : d.body = cellB p q) (hp : d.params = 2) (hs : d.slots = 2) (hq : -1000000 < p ∧ p < 1000000) (h0 : 0 ≤ k) (h1 : k < 1000) (Z : ∀ c : Int, Q (.int c) h) :
    (runDef g d [.scr, .int k] h).sat Q E := by
  unfold runDef startV cellB at *
  rw [hb, hp, hs]
  simp
  refine sat_ite (fun c => ?_) fun c => ?_
  · obtain ⟨x, e, _⟩ := atI_of (xs := g.scr) h0 (by simpa using c)
    simp [idxV, e]
    exact Z _
  · simp
    exact ⟨by omega, Z _⟩
theorem ok_box {g : G} {c : Int} {h : Heap} {d : Def} {Q : RQ Val} {E : RE} (hb : d.body = boxB) (hp : d.params = 1) (hs : d.slots = 1) (Z : ∀ (n : Nat) (h' : Heap), n = h.length → Bx n 0 h' → Fr h h' → h'.length = h.length + 1 → Q (.ref n) h') :
    (runDef g d [.int c] h).sat Q E := by
  unfold runDef startV boxB at *
  rw [hb, hp, hs]
  simp
  refine sat_new fun n h' e l e2 f => Z n h' l ⟨_, _, _, e, ?_⟩ f e2
  omega
theorem ok_take {p q r : Int} {g : G} {n c : Nat} {m : Int} {h : Heap} {d : Def} {Q : RQ Val} {E : RE} (hb : d.body = takeB p q r) (hp : d.params = 2) (hs : d.slots = 4) (hpq : 0 ≤ p ∧ p < 100000 ∧ 0 ≤ q ∧ q < 1000 ∧ 0 ≤ r ∧ r < 100000000) (B : Bx n c h) (hc : c < 100000000) (hm : 0 < m ∧ m < 1073741824)
    (Z : ∀ (x : Int) (h' : Heap), 0 ≤ x → x < m → Bx n (c + 1) h' → Fx1 n h h' → h'.length = h.length → Q (.int x) h') :
    (runDef g d [.ref n, .int m] h).sat Q E := by
  obtain ⟨x, y, z, e, hx, hy0, hy, hz0, hz⟩ := B
  unfold runDef startV takeB at *
  rw [hb, hp, hs]
  simp [ix_lst e, lstAt, L2.atI, L2.ixN]
  refine sat_ite (fun c => ?_) fun c => ?_
  · simp [ix_lst e, lstAt, L2.atI, L2.ixN, hm]
    refine sat_set e rfl fun h' e' l' f => ?_
    try simp at e'
    try simp
    exact Z _ _ (Int.emod_nonneg _ (by omega)) (Int.emod_lt_of_pos _ hm.1) ⟨_, _, _, e', Int.ediv_nonneg hx (by omega), hy0, hy, hz0, by omega⟩ f l'
  · simp [ix_lst e, lstAt, L2.atI, L2.ixN, hm]
    refine sat_set e rfl fun h' e' l' f => ?_
    try simp at e'
    simp [ix_lst e', lstAt, L2.atI, L2.ixN, hm]
    have h1 : 0 ≤ p * (z + 1) := Int.mul_nonneg hpq.1 (by omega)
    have h2 : p * (z + 1) ≤ 100000 * 100000001 := Int.mul_le_mul (by omega) (by omega) (by omega) (by omega)
    have h3 : 0 ≤ r * (z + 1) := Int.mul_nonneg hpq.2.2.2.2.1 (by omega)
    have h4 : r * (z + 1) ≤ 100000000 * 100000001 := Int.mul_le_mul (by omega) (by omega) (by omega) (by omega)
    generalize p * (z + 1) = u at *
    generalize r * (z + 1) = v at *
    have h5 : 0 ≤ (y + u + q) ^ 5 % 2147483647 := Int.emod_nonneg _ (by omega)
    have h6 : (y + u + q) ^ 5 % 2147483647 < 2147483647 := Int.emod_lt_of_pos _ (by omega)
    generalize (y + u + q) ^ 5 % 2147483647 = s at *
    refine ⟨by omega, by omega, by omega, by omega, ?_⟩
    exact Z _ _ (Int.emod_nonneg _ (by omega)) (Int.emod_lt_of_pos _ hm.1) ⟨_, _, _, e', hx, hy0, hy, by omega, by omega⟩ f l'
theorem law_of {r : Res Val} (s : r.sat (fun v _ => v = .bl true) nox) : ∃ h', r = .ok (.bl true) h' := by
  cases r with
  | ok v h => cases (show v = .bl true from s); exact ⟨h, rfl⟩
  | exc => exact s.elim
  | bad => exact s.elim
theorem mul_lst {m : Nat} {xs : List Val} {h : Heap} {k : Int} (e : h[m]? = some (.lst xs)) : bop .mul (.ref m) (.int k) h = if -9223372036854775808 ≤ k ∧ k < 9223372036854775808 ∧ xs.length * k.toNat ≤ SL then new (.lst (List.replicate k.toNat xs).flatten) h else .bad := by
  show mulV (.ref m) (.int k) h = _
  unfold mulV
  simp [e]
theorem add_lst {m n : Nat} {xs ys : List Val} {h : Heap} (e : h[m]? = some (.lst xs)) (e2 : h[n]? = some (.lst ys)) : bop .add (.ref m) (.ref n) h = if xs.length + ys.length ≤ SL then new (.lst (xs ++ ys)) h else .bad := by
  show addV (.ref m) (.ref n) h = _
  unfold addV
  simp [e, e2]
@[simp] theorem mul_str {a : Str} {k : Int} {h : Heap} : bop .mul (.str a) (.int k) h = if -9223372036854775808 ≤ k ∧ k < 9223372036854775808 ∧ a.length * k.toNat ≤ SL then .ok (.str (repS a k)) h else .bad := nrfl rfl
theorem repS_len (a : Str) (k : Int) : (repS a k).length = k.toNat * a.length := by simp [repS, Str.length]
theorem tg_pair {i j p : Nat} {x y : Val} {σ : Sl} {h : Heap} (e : h[p]? = some (.tup [x, y])) : tgV (.tp [i, j]) (.ref p) σ h = some ((σ.set i (some x)).set j (some y)) := by
  unfold tgV
  simp [e, setAll]
theorem tg_three {i j k p : Nat} {x y z : Val} {σ : Sl} {h : Heap} (e : h[p]? = some (.tup [x, y, z])) : tgV (.tp [i, j, k]) (.ref p) σ h = some (((σ.set i (some x)).set j (some y)).set k (some z)) := by
  unfold tgV
  simp [e, setAll]
theorem set_two {i j p : Nat} {x y : Val} {σ : Sl} {h : Heap} (e : h[p]? = some (.tup [x, y])) : setT (.tp [i, j]) (.ref p) σ h = .ok (.nx ((σ.set i (some x)).set j (some y))) h := by
  unfold setT tgV
  simp [e, setAll]
theorem set_twoL {i j p : Nat} {x y : Val} {σ : Sl} {h : Heap} (e : h[p]? = some (.lst [x, y])) : setT (.tp [i, j]) (.ref p) σ h = .ok (.nx ((σ.set i (some x)).set j (some y))) h := by
  unfold setT tgV
  simp [e, setAll]
theorem set_three {i j k p : Nat} {x y z : Val} {σ : Sl} {h : Heap} (e : h[p]? = some (.tup [x, y, z])) : setT (.tp [i, j, k]) (.ref p) σ h = .ok (.nx (((σ.set i (some x)).set j (some y)).set k (some z))) h := by
  unfold setT tgV
  simp [e, setAll]
theorem set_threeL {i j k p : Nat} {x y z : Val} {σ : Sl} {h : Heap} (e : h[p]? = some (.lst [x, y, z])) : setT (.tp [i, j, k]) (.ref p) σ h = .ok (.nx (((σ.set i (some x)).set j (some y)).set k (some z))) h := by
  unfold setT tgV
  simp [e, setAll]
theorem set_four {i j k l p : Nat} {x y z u : Val} {σ : Sl} {h : Heap} (e : h[p]? = some (.tup [x, y, z, u])) : setT (.tp [i, j, k, l]) (.ref p) σ h = .ok (.nx ((((σ.set i (some x)).set j (some y)).set k (some z)).set l (some u))) h := by
  unfold setT tgV
  simp [e, setAll]
theorem set_fourL {i j k l p : Nat} {x y z u : Val} {σ : Sl} {h : Heap} (e : h[p]? = some (.lst [x, y, z, u])) : setT (.tp [i, j, k, l]) (.ref p) σ h = .ok (.nx ((((σ.set i (some x)).set j (some y)).set k (some z)).set l (some u))) h := by
  unfold setT tgV
  simp [e, setAll]
@[simp] theorem bop_isnot_bl {a b : Bool} {h : Heap} : bop .isnot (.bl a) (.bl b) h = .ok (.bl (!decide (a = b))) h := nrfl rfl
@[simp] theorem bop_is_bl {a b : Bool} {h : Heap} : bop .is (.bl a) (.bl b) h = .ok (.bl (decide (a = b))) h := nrfl rfl
theorem rc_ext {h : Heap} {n : Nat} {xs : List Val} (e : h[n]? = some (.lst xs)) : rcv .extend (.ref n) h = true := by
  unfold rcv lstO
  simp [e]
theorem sat_ext {h : Heap} {n m : Nat} {xs ys : List Val} {Q : RQ Val} {E : RE} (hn : h[n]? = some (.lst xs)) (hm : h[m]? = some (.lst ys)) (hl : xs.length + ys.length ≤ SL)
    (hp : ∀ h', h'[n]? = some (.lst (xs ++ ys)) → h'.length = h.length → Fx1 n h h' → Q .non h') : (met .extend (.ref n) [.ref m] h).sat Q E := by
  unfold met
  dsimp only
  rw [hn, hm]
  dsimp only
  rw [if_pos hl]
  exact hp _ (by simp [lt_of_get hn]) (by simp) (Fx1.put h n _)
theorem rc_ins {h : Heap} {n : Nat} {xs : List Val} (e : h[n]? = some (.lst xs)) : rcv .insert (.ref n) h = true := by
  unfold rcv lstO
  simp [e]
theorem rep_one {α : Type} (x : α) : ∀ k : Nat, (List.replicate k [x]).flatten = List.replicate k x
  | 0 => rfl
  | k + 1 => by rw [List.replicate_succ, List.flatten_cons, rep_one x k]; rfl
theorem mul_tup {m : Nat} {xs : List Val} {h : Heap} {k : Int} (e : h[m]? = some (.tup xs)) : bop .mul (.ref m) (.int k) h = if xs ≠ [] ∧ 2 ≤ k ∧ k ≤ 1000 ∧ xs.length ≤ 1000 then new (.tup (List.replicate k.toNat xs).flatten) h else .bad := by
  show mulV (.ref m) (.int k) h = _
  unfold mulV
  simp [e]
end Mi


/-! # Mi10: data in a heap (trees), what stands though some addresses change -/
namespace Mi
open PySem (Str PyData)

/-- outside X nothing that was there changes -/
structure Fo (X : List Nat) (h h' : Heap) : Prop where
  len : h.length ≤ h'.length
  get : ∀ m : Nat, m < h.length → m ∉ X → h'[m]? = h[m]?
theorem Fo.refl (X : List Nat) (h : Heap) : Fo X h h := ⟨Nat.le_refl _, fun _ _ _ => rfl⟩
theorem Fo.trans {X : List Nat} {h h' h'' : Heap} (a : Fo X h h') (b : Fo X h' h'') : Fo X h h'' := ⟨Nat.le_trans a.len b.len, fun m hm z => (b.get m (Nat.lt_of_lt_of_le hm a.len) z).trans (a.get m hm z)⟩
theorem Fo.of {X : List Nat} {h h' : Heap} (a : Fr h h') : Fo X h h' := ⟨a.len, fun m hm _ => a.get m hm⟩
theorem Fo.one {n : Nat} {X : List Nat} {h h' : Heap} (a : Fx1 n h h') (hn : n ∈ X) : Fo X h h' := ⟨a.len, fun m hm z => a.get m hm fun e => z (e ▸ hn)⟩
theorem Fo.sub {X Y : List Nat} {h h' : Heap} (a : Fo X h h') (s : ∀ n ∈ X, n ∈ Y) : Fo Y h h' := ⟨a.len, fun m hm z => a.get m hm fun e => z (s m e)⟩
theorem Fo.fr {h h' : Heap} (a : Fo [] h h') : Fr h h' := ⟨a.len, fun m hm => a.get m hm (by simp)⟩
theorem Fo.fx {n : Nat} {h h' : Heap} (a : Fo [n] h h') : Fx1 n h h' := ⟨a.len, fun m hm z => a.get m hm (by simpa using z)⟩
/-- what is not yet there may change -/
theorem Fo.drop {n : Nat} {X : List Nat} {h h' : Heap} (a : Fo (n :: X) h h') (hn : h.length ≤ n) : Fo X h h' := ⟨a.len, fun m hm z => a.get m hm fun e => by
  rcases List.mem_cons.mp e with rfl | e
  · omega
  · exact z e⟩
theorem Fo.at {X : List Nat} {h h' : Heap} (a : Fo X h h') {n : Nat} {o : Ob} (e : h[n]? = some o) (hn : n ∉ X) : h'[n]? = some o := (a.get n (lt_of_get e) hn).trans e

mutual
/-- the value v is the data d; nothing in X is read -/
def Is (X : List Nat) (h : Heap) : PyData → Val → Prop
  | .none, v => v = .non
  | .bool b, v => v = .bl b
  | .int i, v => v = .int i
  | .str x, v => v = .str x
  | .list ds, v => ∃ p xs, v = .ref p ∧ p ∉ X ∧ h[p]? = some (.lst xs) ∧ IsAll X h ds xs
  | .tuple ds, v => ∃ p xs, v = .ref p ∧ p ∉ X ∧ h[p]? = some (.tup xs) ∧ IsAll X h ds xs
  | .dict kvs, v => ∃ p xs, v = .ref p ∧ p ∉ X ∧ h[p]? = some (.dic xs) ∧ IsKv X h kvs xs
def IsAll (X : List Nat) (h : Heap) : List PyData → List Val → Prop
  | [], xs => xs = []
  | d :: ds, xs => ∃ y ys, xs = y :: ys ∧ Is X h d y ∧ IsAll X h ds ys
def IsKv (X : List Nat) (h : Heap) : List (PyData × PyData) → List (Key × Val) → Prop
  | [], xs => xs = []
  | (k, d) :: ds, xs => ∃ q y ys, xs = (q, y) :: ys ∧ k = keyD q ∧ Is X h d y ∧ IsKv X h ds ys
end
mutual
theorem Is.mono {X Y : List Nat} {h h' : Heap} (f : ∀ n o, n ∉ X → h[n]? = some o → n ∉ Y ∧ h'[n]? = some o) : ∀ {d : PyData} {v : Val}, Is X h d v → Is Y h' d v
  | .none, v, i => by unfold Is at *; exact i
  | .bool b, v, i => by unfold Is at *; exact i
  | .int b, v, i => by unfold Is at *; exact i
  | .str b, v, i => by unfold Is at *; exact i
  | .list ds, v, i => by unfold Is at *; obtain ⟨p, xs, e, n, g, a⟩ := i; exact ⟨p, xs, e, (f _ _ n g).1, (f _ _ n g).2, IsAll.mono f a⟩
  | .tuple ds, v, i => by unfold Is at *; obtain ⟨p, xs, e, n, g, a⟩ := i; exact ⟨p, xs, e, (f _ _ n g).1, (f _ _ n g).2, IsAll.mono f a⟩
  | .dict ds, v, i => by unfold Is at *; obtain ⟨p, xs, e, n, g, a⟩ := i; exact ⟨p, xs, e, (f _ _ n g).1, (f _ _ n g).2, IsKv.mono f a⟩
theorem IsAll.mono {X Y : List Nat} {h h' : Heap} (f : ∀ n o, n ∉ X → h[n]? = some o → n ∉ Y ∧ h'[n]? = some o) : ∀ {ds : List PyData} {v : List Val}, IsAll X h ds v → IsAll Y h' ds v
  | [], v, i => by unfold IsAll at *; exact i
  | d :: ds, v, i => by unfold IsAll at *; obtain ⟨y, ys, e, a, b⟩ := i; exact ⟨y, ys, e, Is.mono f a, IsAll.mono f b⟩
theorem IsKv.mono {X Y : List Nat} {h h' : Heap} (f : ∀ n o, n ∉ X → h[n]? = some o → n ∉ Y ∧ h'[n]? = some o) : ∀ {ds : List (PyData × PyData)} {v : List (Key × Val)}, IsKv X h ds v → IsKv Y h' ds v
  | [], v, i => by unfold IsKv at *; exact i
  | (k, d) :: ds, v, i => by unfold IsKv at *; obtain ⟨q, y, ys, e, z, a, b⟩ := i; exact ⟨q, y, ys, e, z, Is.mono f a, IsKv.mono f b⟩
end
theorem Is.fo {X : List Nat} {h h' : Heap} {d : PyData} {v : Val} (i : Is X h d v) (f : Fo X h h') : Is X h' d v := i.mono fun n o hn e => ⟨hn, f.at e hn⟩
theorem Is.fr {X : List Nat} {h h' : Heap} {d : PyData} {v : Val} (i : Is X h d v) (f : Fr h h') : Is X h' d v := i.fo (Fo.of f)
theorem Is.fx {n : Nat} {h h' : Heap} {d : PyData} {v : Val} (i : Is [n] h d v) (f : Fx1 n h h') : Is [n] h' d v := i.fo (Fo.one f (by simp))
theorem Is.sub {X Y : List Nat} {h : Heap} {d : PyData} {v : Val} (i : Is X h d v) (s : ∀ n ∈ Y, n ∈ X) : Is Y h d v := i.mono fun n o hn e => ⟨fun z => hn (s n z), e⟩
theorem IsAll.fo {X : List Nat} {h h' : Heap} {d : List PyData} {v : List Val} (i : IsAll X h d v) (f : Fo X h h') : IsAll X h' d v := i.mono fun n o hn e => ⟨hn, f.at e hn⟩
theorem IsAll.fr {X : List Nat} {h h' : Heap} {d : List PyData} {v : List Val} (i : IsAll X h d v) (f : Fr h h') : IsAll X h' d v := i.fo (Fo.of f)
theorem IsAll.sub {X Y : List Nat} {h : Heap} {d : List PyData} {v : List Val} (i : IsAll X h d v) (s : ∀ n ∈ Y, n ∈ X) : IsAll Y h d v := i.mono fun n o hn e => ⟨fun z => hn (s n z), e⟩
/-- what is new may be in X as well -/
theorem Is.more {X : List Nat} {m : Nat} {h : Heap} {d : PyData} {v : Val} (i : Is X h d v) (hm : h.length ≤ m) : Is (m :: X) h d v := i.mono fun n o hn e => ⟨fun z => by
  have := lt_of_get e
  rcases List.mem_cons.mp z with rfl | z
  · omega
  · exact hn z, e⟩
theorem IsAll.more {X : List Nat} {m : Nat} {h : Heap} {d : List PyData} {v : List Val} (i : IsAll X h d v) (hm : h.length ≤ m) : IsAll (m :: X) h d v := i.mono fun n o hn e => ⟨fun z => by
  have := lt_of_get e
  rcases List.mem_cons.mp z with rfl | z
  · omega
  · exact hn z, e⟩
section
variable {X : List Nat} {h : Heap}
theorem is_lst {p : Nat} {xs : List Val} {ds : List PyData} (hp : p ∉ X) (e : h[p]? = some (.lst xs)) (a : IsAll X h ds xs) : Is X h (.list ds) (.ref p) := by unfold Is; exact ⟨p, xs, rfl, hp, e, a⟩
theorem is_tup {p : Nat} {xs : List Val} {ds : List PyData} (hp : p ∉ X) (e : h[p]? = some (.tup xs)) (a : IsAll X h ds xs) : Is X h (.tuple ds) (.ref p) := by unfold Is; exact ⟨p, xs, rfl, hp, e, a⟩
theorem Is.lst {v : Val} {ds : List PyData} (i : Is X h (.list ds) v) : ∃ p xs, v = .ref p ∧ p ∉ X ∧ h[p]? = some (.lst xs) ∧ IsAll X h ds xs := by unfold Is at i; exact i
theorem Is.tup {v : Val} {ds : List PyData} (i : Is X h (.tuple ds) v) : ∃ p xs, v = .ref p ∧ p ∉ X ∧ h[p]? = some (.tup xs) ∧ IsAll X h ds xs := by unfold Is at i; exact i
theorem Is.int {v : Val} {n : Int} (i : Is X h (.int n) v) : v = .int n := by unfold Is at i; exact i
theorem Is.str {v : Val} {n : Str} (i : Is X h (.str n) v) : v = .str n := by unfold Is at i; exact i
theorem Is.bl {v : Val} {n : Bool} (i : Is X h (.bool n) v) : v = .bl n := by unfold Is at i; exact i
@[simp] theorem is_int {n : Int} : Is X h (.int n) (.int n) := by unfold Is; rfl
@[simp] theorem is_str {n : Str} : Is X h (.str n) (.str n) := by unfold Is; rfl
@[simp] theorem is_bl {n : Bool} : Is X h (.bool n) (.bl n) := by unfold Is; rfl
@[simp] theorem is_non : Is X h .none .non := by unfold Is; rfl
@[simp] theorem isall_nil : IsAll X h [] [] := by unfold IsAll; rfl
theorem IsAll.nil {xs : List Val} (i : IsAll X h [] xs) : xs = [] := by unfold IsAll at i; exact i
theorem IsAll.cons {d : PyData} {ds : List PyData} {xs : List Val} (i : IsAll X h (d :: ds) xs) : ∃ y ys, xs = y :: ys ∧ Is X h d y ∧ IsAll X h ds ys := by unfold IsAll at i; exact i
theorem isall_cons {d : PyData} {ds : List PyData} {x : Val} {xs : List Val} (a : Is X h d x) (b : IsAll X h ds xs) : IsAll X h (d :: ds) (x :: xs) := by unfold IsAll; exact ⟨x, xs, rfl, a, b⟩
@[simp] theorem isall_cc {d : PyData} {ds : List PyData} {x : Val} {xs : List Val} : IsAll X h (d :: ds) (x :: xs) = (Is X h d x ∧ IsAll X h ds xs) := by
  apply propext
  constructor
  · intro i
    obtain ⟨y, ys, e, a, b⟩ := i.cons
    cases e
    exact ⟨a, b⟩
  · exact fun ⟨a, b⟩ => isall_cons a b
theorem IsAll.length : ∀ {ds : List PyData} {xs : List Val}, IsAll X h ds xs → xs.length = ds.length
  | [], xs, i => by rw [i.nil]; rfl
  | d :: ds, xs, i => by
    obtain ⟨y, ys, e, a, b⟩ := i.cons
    rw [e, List.length_cons, List.length_cons, IsAll.length b]
theorem IsAll.app : ∀ {ds es : List PyData} {xs ys : List Val}, IsAll X h ds xs → IsAll X h es ys → IsAll X h (ds ++ es) (xs ++ ys)
  | [], es, xs, ys, i, j => by rw [i.nil]; exact j
  | d :: ds, es, xs, ys, i, j => by
    obtain ⟨y, zs, e, a, b⟩ := i.cons
    rw [e]
    exact isall_cons a (IsAll.app b j)
theorem isall_map {α : Type} {k : α → PyData} {f : α → Val} (hk : ∀ a, Is X h (k a) (f a)) : ∀ l : List α, IsAll X h (l.map k) (l.map f)
  | [] => isall_nil
  | a :: l => isall_cons (hk a) (isall_map hk l)
theorem IsAll.of_map {α : Type} {k : α → PyData} {f : α → Val} (hk : ∀ a v, Is X h (k a) v → v = f a) : ∀ {l : List α} {xs : List Val}, IsAll X h (l.map k) xs → xs = l.map f
  | [], xs, i => i.nil
  | a :: l, xs, i => by
    obtain ⟨y, ys, e, b, c⟩ := IsAll.cons i
    rw [e, hk _ _ b, IsAll.of_map hk c]
    rfl
theorem isall_ints {ws : List Int} {xs : List Val} : IsAll X h (ws.map PyData.int) xs ↔ xs = ws.map Val.int := ⟨fun i => i.of_map (fun _ _ z => z.int), fun e => e ▸ isall_map (fun _ => is_int) ws⟩
theorem IsAll.get : ∀ {ds : List PyData} {xs : List Val} {k : Nat} {x : Val}, IsAll X h ds xs → xs[k]? = some x → ∃ d, ds[k]? = some d ∧ Is X h d x
  | [], xs, k, x, i, e => by rw [i.nil] at e; simp at e
  | d :: ds, xs, k, x, i, e => by
    obtain ⟨y, ys, e2, a, b⟩ := i.cons
    rw [e2] at e
    cases k with
    | zero => simp at e; subst e; exact ⟨d, rfl, a⟩
    | succ k => simp at e; obtain ⟨d', h1, h2⟩ := IsAll.get b e; exact ⟨d', by simpa using h1, h2⟩
end
/-! ## reading -/
theorem mapO_len {α β : Type} {f : α → Option β} : ∀ {l : List α} {r : List β}, mapO f l = some r → r.length = l.length
  | [], r, e => by cases e; rfl
  | x :: l, r, e => by
    unfold mapO at e
    split at e
    · rename_i y ys h1 h2
      cases e
      rw [List.length_cons, List.length_cons, mapO_len h2]
    · cases e
mutual
theorem Is.rd {X : List Nat} {h : Heap} : ∀ {d : PyData} {v : Val} {k : Nat}, Is X h d v → d.depth ≤ k → Mi.rd k h v = some d
  | .none, v, k, i, hd => by unfold Is at i; subst i; cases k <;> rfl
  | .bool b, v, k, i, hd => by unfold Is at i; subst i; cases k <;> rfl
  | .int b, v, k, i, hd => by unfold Is at i; subst i; cases k <;> rfl
  | .str b, v, k, i, hd => by unfold Is at i; subst i; cases k <;> rfl
  | .list ds, v, k, i, hd => by
    obtain ⟨p, xs, rfl, _, e, a⟩ := i.lst
    have hd : PyData.depthAll ds + 1 ≤ k := hd
    obtain ⟨k, rfl⟩ : ∃ j, k = j + 1 := ⟨k - 1, by omega⟩
    unfold Mi.rd
    rw [e]
    dsimp only
    rw [IsAll.rd a (by omega)]
    rfl
  | .tuple ds, v, k, i, hd => by
    obtain ⟨p, xs, rfl, _, e, a⟩ := i.tup
    have hd : PyData.depthAll ds + 1 ≤ k := hd
    obtain ⟨k, rfl⟩ : ∃ j, k = j + 1 := ⟨k - 1, by omega⟩
    unfold Mi.rd
    rw [e]
    dsimp only
    rw [IsAll.rd a (by omega)]
    rfl
  | .dict ds, v, k, i, hd => by
    unfold Is at i
    obtain ⟨p, xs, rfl, _, e, a⟩ := i
    have hd : PyData.depthKv ds + 1 ≤ k := hd
    obtain ⟨k, rfl⟩ : ∃ j, k = j + 1 := ⟨k - 1, by omega⟩
    unfold Mi.rd
    rw [e]
    dsimp only
    rw [IsKv.rd a (by omega)]
    rfl
theorem IsAll.rd {X : List Nat} {h : Heap} : ∀ {ds : List PyData} {xs : List Val} {k : Nat}, IsAll X h ds xs → PyData.depthAll ds ≤ k → mapO (Mi.rd k h) xs = some ds
  | [], xs, k, i, hd => by rw [i.nil]; rfl
  | d :: ds, xs, k, i, hd => by
    obtain ⟨y, ys, rfl, a, b⟩ := i.cons
    have hd : max (PyData.depth d) (PyData.depthAll ds) ≤ k := hd
    unfold mapO
    rw [Is.rd a (by omega), IsAll.rd b (by omega)]
theorem IsKv.rd {X : List Nat} {h : Heap} : ∀ {ds : List (PyData × PyData)} {xs : List (Key × Val)} {k : Nat}, IsKv X h ds xs → PyData.depthKv ds ≤ k → mapO (fun p : Key × Val => (Mi.rd k h p.2).map fun d => (keyD p.1, d)) xs = some ds
  | [], xs, k, i, hd => by unfold IsKv at i; rw [i]; rfl
  | (q, d) :: ds, xs, k, i, hd => by
    unfold IsKv at i
    obtain ⟨q', y, ys, rfl, rfl, a, b⟩ := i
    have hd : max (max (PyData.depth (keyD q')) (PyData.depth d)) (PyData.depthKv ds) ≤ k := hd
    unfold mapO
    rw [Is.rd a (by omega), IsKv.rd b (by omega)]
    rfl
end
/-! ## repr, == -/
structure Okd (d : PyData) (n w : Nat) : Prop where
  lay : d.canLay0 = true
  shb : d.showable = true
  dep : d.depth ≤ n
  len : d.shown.length ≤ w
theorem Okd.up {d : PyData} {n w m v : Nat} (o : Okd d n w) (h1 : n ≤ m) (h2 : w ≤ v) : Okd d m v := ⟨o.lay, o.shb, Nat.le_trans o.dep h1, Nat.le_trans o.len h2⟩
theorem okd_non : Okd .none 0 5 := ⟨rfl, rfl, Nat.le_refl _, by decide +kernel⟩
theorem okd_bl (b : Bool) : Okd (.bool b) 0 5 := ⟨rfl, rfl, Nat.le_refl _, by cases b <;> decide +kernel⟩
theorem okd_int {i : Int} {k : Nat} (hk : 0 < k) (h : i.natAbs < 10 ^ k) (h2 : k ≤ 500) : Okd (.int i) 0 (k + 1) := by
  refine ⟨rfl, ?_, Nat.le_refl _, ?_⟩
  · show decide (i.natAbs.log2 < 1920) = true
    refine decide_eq_true ?_
    by_cases z : i.natAbs = 0
    · rw [z]; decide
    · rw [Nat.log2_lt z]
      refine Nat.lt_of_lt_of_le h (Nat.le_trans (Nat.pow_le_pow_right (by decide) h2) ?_)
      decide +kernel
  · show (Str.ofString (toString i)).length ≤ k + 1
    rw [PySem.ofString_length]
    exact PySem.int_text_length_le10 hk h
theorem piled_le {b : Nat} : ∀ {ts : List Str}, (∀ t ∈ ts, t.length ≤ b) → PySem.piled ts ≤ ts.length * (b + 2)
  | [], _ => by simp [PySem.piled]
  | t :: r, h => by
    have h1 := piled_le fun z hz => h z (List.mem_cons_of_mem _ hz)
    have h2 := h t (List.mem_cons_self ..)
    simp only [PySem.piled_cons, List.length_cons, Nat.succ_mul] at *
    omega
theorem listText_le : ∀ ts : List Str, (PySem.listText ts).length ≤ PySem.piled ts + 2
  | [] => by decide +kernel
  | t :: r => by
    unfold PySem.listText
    rw [len_cat]
    have e : (PySem.textFrom 0 "[" (t :: r)).length = (PySem.textFrom 1 (("[" : Str) ++ (if 0 > 0 then ", " else "" : String) ++ t) r).length := rfl
    rw [e, PySem.textFrom_length_pos _ _ _ (by decide), len_cat, len_cat, PySem.piled_cons]
    have e1 : ("[" : Str).length = 1 := by decide +kernel
    have e2 : ("]" : Str).length = 1 := by decide +kernel
    have e3 : (((if 0 > 0 then ", " else "" : String) : Str)).length = 0 := by decide +kernel
    omega
theorem tupleText_le : ∀ ts : List Str, (PySem.tupleText ts).length ≤ PySem.piled ts + 3
  | [] => by decide +kernel
  | t :: r => by
    unfold PySem.tupleText
    rw [len_cat, len_cat]
    have := PySem.join_length_add (t :: r) (by simp)
    have e1 : ("(" : Str).length = 1 := by decide +kernel
    have e2 : (((if (t :: r).length == 1 then ",)" else ")" : String) : Str)).length ≤ 2 := by split <;> decide +kernel
    omega
theorem shownAll_map : ∀ ds : List PyData, PyData.shownAll ds = ds.map PyData.shown
  | [] => rfl
  | d :: ds => by rw [PyData.shownAll, shownAll_map ds]; rfl
theorem canLayAll_of : ∀ {ds : List PyData}, (∀ d ∈ ds, d.canLay0 = true) → PyData.canLayAll0 ds = true
  | [], _ => rfl
  | d :: ds, h => by rw [PyData.canLayAll0, h d (List.mem_cons_self ..), canLayAll_of fun z hz => h z (List.mem_cons_of_mem _ hz)]; rfl
theorem showableAll_of : ∀ {ds : List PyData}, (∀ d ∈ ds, d.showable = true) → PyData.showableAll ds = true
  | [], _ => rfl
  | d :: ds, h => by rw [PyData.showableAll, h d (List.mem_cons_self ..), showableAll_of fun z hz => h z (List.mem_cons_of_mem _ hz)]; rfl
theorem depthAll_of {n : Nat} : ∀ {ds : List PyData}, (∀ d ∈ ds, d.depth ≤ n) → PyData.depthAll ds ≤ n
  | [], _ => Nat.zero_le _
  | d :: ds, h => by
    have h1 := h d (List.mem_cons_self ..)
    have h2 := depthAll_of fun z hz => h z (List.mem_cons_of_mem _ hz)
    show max (PyData.depth d) (PyData.depthAll ds) ≤ n
    omega
theorem okd_list {ds : List PyData} {n w : Nat} (h : ∀ d ∈ ds, Okd d n w) : Okd (.list ds) (n + 1) (ds.length * (w + 2) + 2) := by
  refine ⟨canLayAll_of fun d hd => (h d hd).lay, showableAll_of fun d hd => (h d hd).shb, Nat.succ_le_succ (depthAll_of fun d hd => (h d hd).dep), ?_⟩
  show (PySem.listText (PyData.shownAll ds)).length ≤ _
  rw [shownAll_map]
  have h1 := listText_le (ds.map PyData.shown)
  have h2 : PySem.piled (ds.map PyData.shown) ≤ (ds.map PyData.shown).length * (w + 2) := piled_le fun t ht => by
    obtain ⟨d, hd, rfl⟩ := List.mem_map.mp ht
    exact (h d hd).len
  rw [List.length_map] at h2
  omega
theorem okd_tuple {ds : List PyData} {n w : Nat} (h : ∀ d ∈ ds, Okd d n w) : Okd (.tuple ds) (n + 1) (ds.length * (w + 2) + 3) := by
  refine ⟨canLayAll_of fun d hd => (h d hd).lay, showableAll_of fun d hd => (h d hd).shb, Nat.succ_le_succ (depthAll_of fun d hd => (h d hd).dep), ?_⟩
  show (PySem.tupleText (PyData.shownAll ds)).length ≤ _
  rw [shownAll_map]
  have h1 := tupleText_le (ds.map PyData.shown)
  have h2 : PySem.piled (ds.map PyData.shown) ≤ (ds.map PyData.shown).length * (w + 2) := piled_le fun t ht => by
    obtain ⟨d, hd, rfl⟩ := List.mem_map.mp ht
    exact (h d hd).len
  rw [List.length_map] at h2
  omega
/-- data that repr can show, dicts too -/
structure Okr (d : PyData) (n w : Nat) : Prop where
  shb : d.showable = true
  dep : d.depth ≤ n
  len : d.shown.length ≤ w
theorem Okd.r {d : PyData} {n w : Nat} (o : Okd d n w) : Okr d n w := ⟨o.shb, o.dep, o.len⟩
theorem Okr.up {d : PyData} {n w m v : Nat} (o : Okr d n w) (h1 : n ≤ m) (h2 : w ≤ v) : Okr d m v := ⟨o.shb, Nat.le_trans o.dep h1, Nat.le_trans o.len h2⟩
theorem okr_list {ds : List PyData} {n w : Nat} (h : ∀ d ∈ ds, Okr d n w) : Okr (.list ds) (n + 1) (ds.length * (w + 2) + 2) := by
  refine ⟨showableAll_of fun d hd => (h d hd).shb, Nat.succ_le_succ (depthAll_of fun d hd => (h d hd).dep), ?_⟩
  show (PySem.listText (PyData.shownAll ds)).length ≤ _
  rw [shownAll_map]
  have h1 := listText_le (ds.map PyData.shown)
  have h2 : PySem.piled (ds.map PyData.shown) ≤ (ds.map PyData.shown).length * (w + 2) := piled_le fun t ht => by
    obtain ⟨d, hd, rfl⟩ := List.mem_map.mp ht
    exact (h d hd).len
  rw [List.length_map] at h2
  omega
theorem okr_tuple {ds : List PyData} {n w : Nat} (h : ∀ d ∈ ds, Okr d n w) : Okr (.tuple ds) (n + 1) (ds.length * (w + 2) + 3) := by
  refine ⟨showableAll_of fun d hd => (h d hd).shb, Nat.succ_le_succ (depthAll_of fun d hd => (h d hd).dep), ?_⟩
  show (PySem.tupleText (PyData.shownAll ds)).length ≤ _
  rw [shownAll_map]
  have h1 := tupleText_le (ds.map PyData.shown)
  have h2 : PySem.piled (ds.map PyData.shown) ≤ (ds.map PyData.shown).length * (w + 2) := piled_le fun t ht => by
    obtain ⟨d, hd, rfl⟩ := List.mem_map.mp ht
    exact (h d hd).len
  rw [List.length_map] at h2
  omega
theorem okr_dnew : Okr (.dict []) 1 2 := ⟨rfl, by decide, by decide +kernel⟩
theorem sat_reprR {g : G} {X : List Nat} {h : Heap} {d : PyData} {v : Val} {n w : Nat} (i : Is X h d v) (o : Okr d n w) (hn : n ≤ 60) (hw : w ≤ 16777216) : Mi.pri g .repr [v] h = .ok (.str d.shown) h := by
  unfold pri
  dsimp only
  rw [i.rd (Nat.le_trans o.dep hn)]
  dsimp only
  rw [if_pos ⟨o.shb, Nat.le_trans o.dep hn, Nat.le_trans o.len hw⟩]
theorem sat_repr {g : G} {X : List Nat} {h : Heap} {d : PyData} {v : Val} {n w : Nat} (i : Is X h d v) (o : Okd d n w) (hn : n ≤ 60) (hw : w ≤ 16777216) : Mi.pri g .repr [v] h = .ok (.str d.shown) h := by
  unfold pri
  dsimp only
  rw [i.rd (Nat.le_trans o.dep hn)]
  dsimp only
  rw [if_pos ⟨o.shb, Nat.le_trans o.dep hn, Nat.le_trans o.len hw⟩]
theorem Okd.shaped {d : PyData} {n w : Nat} (o : Okd d n w) (hn : n ≤ 60) : PySem.SeqAt.shaped d = true := by
  unfold PySem.SeqAt.shaped
  rw [o.lay, Bool.true_and]
  exact decide_eq_true (Nat.le_trans (Nat.le_trans o.dep hn) (by decide))
theorem eqO_is {X Y : List Nat} {h : Heap} {d e : PyData} {x y : Val} {n w m v : Nat} (i : Is X h d x) (j : Is Y h e y) (o : Okd d n w) (o' : Okd e m v) (hn : n ≤ 60) (hm : m ≤ 60) : eqO h x y = some (PyData.eqv d e) := by
  have r1 := i.rd (Nat.le_trans o.dep hn)
  have r2 := j.rd (Nat.le_trans o'.dep hm)
  have hs := And.intro (o.shaped hn) (o'.shaped hm)
  unfold eqO
  split
  · cases r1; cases r2; simp [PyData.eqv]; rw [Bool.eq_iff_iff]; simp
  · cases r1; cases r2; simp [PyData.eqv]; rw [Bool.eq_iff_iff]; simp
  · cases r1; cases r2; simp [PyData.eqv]; rw [Bool.eq_iff_iff]; simp
  · rw [r1, r2]
    dsimp only
    rw [if_pos hs]
theorem bop_eq_is {X Y : List Nat} {h : Heap} {d e : PyData} {x y : Val} {n w m v : Nat} (i : Is X h d x) (j : Is Y h e y) (o : Okd d n w) (o' : Okd e m v) (hn : n ≤ 60) (hm : m ≤ 60) : bop .eq x y h = .ok (.bl (PyData.eqv d e)) h := by
  show ofB (eqO h x y) h = _
  rw [eqO_is i j o o' hn hm]
  rfl
theorem bop_ne_is {X Y : List Nat} {h : Heap} {d e : PyData} {x y : Val} {n w m v : Nat} (i : Is X h d x) (j : Is Y h e y) (o : Okd d n w) (o' : Okd e m v) (hn : n ≤ 60) (hm : m ≤ 60) : bop .ne x y h = .ok (.bl (!PyData.eqv d e)) h := by
  show ofB ((eqO h x y).map (!·)) h = _
  rw [eqO_is i j o o' hn hm]
  rfl
mutual
theorem eqv_refl : ∀ {d : PyData}, d.canLay0 = true → PyData.eqv d d = true
  | .none, _ => rfl
  | .bool b, _ => by simp [PyData.eqv]
  | .int b, _ => by simp [PyData.eqv]
  | .str b, _ => by simp [PyData.eqv]
  | .list ds, h => by
    have h : PyData.canLayAll0 ds = true := h
    show PyData.eqvAll ds ds = true
    exact eqvAll_refl h
  | .tuple ds, h => by
    have h : PyData.canLayAll0 ds = true := h
    show PyData.eqvAll ds ds = true
    exact eqvAll_refl h
  | .dict ds, h => by cases h
theorem eqvAll_refl : ∀ {ds : List PyData}, PyData.canLayAll0 ds = true → PyData.eqvAll ds ds = true
  | [], _ => rfl
  | d :: ds, h => by
    have h : (PyData.canLay0 d && PyData.canLayAll0 ds) = true := h
    rw [Bool.and_eq_true] at h
    show (PyData.eqv d d && PyData.eqvAll ds ds) = true
    rw [eqv_refl h.1, eqvAll_refl h.2]
    rfl
end
theorem eqv_ints {a b : List Int} : PyData.eqv (.list (a.map .int)) (.list (b.map .int)) = decide (a = b) := by
  show PyData.eqvAll (a.map .int) (b.map .int) = _
  induction a generalizing b with
  | nil => cases b <;> rfl
  | cons x r ih =>
    cases b with
    | nil => rfl
    | cons y q =>
      show (PyData.eqv (.int x) (.int y) && PyData.eqvAll (r.map .int) (q.map .int)) = _
      rw [ih]
      simp [PyData.eqv]
      rw [Bool.eq_iff_iff]; simp
end Mi


/-! # Mi11: lists and tuples of ints -/
namespace Mi
open PySem (Str PyData)
/-- v is a list or a tuple of these ints -/
def Sq (h : Heap) (v : Val) (ns : List Int) : Prop := ∃ p o, v = .ref p ∧ h[p]? = some o ∧ (o = .lst (ns.map .int) ∨ o = .tup (ns.map .int))
/-- the number at i -/
def nth (ns : List Int) (i : Nat) : Int := ns.getD i 0
theorem nth_get {ns : List Int} {i : Nat} (hi : i < ns.length) : nth ns i = ns[i] := by simp [nth, List.getD, List.getElem?_eq_getElem hi]
theorem Sq.fr {h h' : Heap} {v : Val} {ns : List Int} (s : Sq h v ns) (f : Fr h h') : Sq h' v ns := by
  obtain ⟨p, o, e, g, z⟩ := s
  exact ⟨p, o, e, f.at g, z⟩
theorem Sq.fx {n : Nat} {h h' : Heap} {v : Val} {ns : List Int} (s : Sq h v ns) (f : Fx1 n h h') (hn : v ≠ .ref n) : Sq h' v ns := by
  obtain ⟨p, o, e, g, z⟩ := s
  exact ⟨p, o, e, f.at g (fun y => hn (by rw [e, y])), z⟩
theorem Sq.fo {X : List Nat} {h h' : Heap} {v : Val} {ns : List Int} (s : Sq h v ns) (f : Fo X h h') (hn : ∀ n ∈ X, v ≠ .ref n) : Sq h' v ns := by
  obtain ⟨p, o, e, g, z⟩ := s
  exact ⟨p, o, e, f.at g (fun y => hn p y e), z⟩
theorem Sq.lt {h : Heap} {v : Val} {ns : List Int} (s : Sq h v ns) {n : Nat} (hn : h.length ≤ n) : v ≠ .ref n := by
  obtain ⟨p, o, e, g, z⟩ := s
  intro y
  rw [e] at y
  cases y
  have := lt_of_get g
  omega
theorem sq_lst {h : Heap} {p : Nat} {ns : List Int} (e : h[p]? = some (.lst (ns.map .int))) : Sq h (.ref p) ns := ⟨p, _, rfl, e, .inl rfl⟩
theorem sq_tup {h : Heap} {p : Nat} {ns : List Int} (e : h[p]? = some (.tup (ns.map .int))) : Sq h (.ref p) ns := ⟨p, _, rfl, e, .inr rfl⟩
section
variable {g : G} {h : Heap} {v : Val} {ns : List Int} {Q : RQ Val} {E : RE}
theorem Sq.len (s : Sq h v ns) : Mi.pri g .len [v] h = .ok (.int ns.length) h := by
  obtain ⟨p, o, rfl, e, rfl | rfl⟩ := s
  · rw [len_lst e, List.length_map]
  · rw [len_tup e, List.length_map]
theorem Sq.sum (s : Sq h v ns) : Mi.pri g .sum [v] h = .ok (.int ns.sum) h := by
  obtain ⟨p, o, rfl, e, rfl | rfl⟩ := s <;> simp [pri, seqO, e, intsO_map]
theorem Sq.ix (s : Sq h v ns) {i : Int} (h0 : 0 ≤ i) (h1 : i < ns.length) : idxV g v (.int i) h = .ok (.int (nth ns i.toNat)) h := by
  have key : lstAt (ns.map Val.int) i h = .ok (.int (nth ns i.toNat)) h := by
    obtain ⟨x, e, _, e2⟩ := atI_of (xs := ns.map Val.int) h0 (by simpa using h1)
    unfold lstAt
    rw [e]
    rw [List.getElem?_map] at e2
    have hn : i.toNat < ns.length := by omega
    rw [List.getElem?_eq_getElem hn] at e2
    simp at e2
    simp [nth, List.getD, List.getElem?_eq_getElem hn, e2]
  obtain ⟨p, o, rfl, e, rfl | rfl⟩ := s
  · rw [ix_lst e, key]
  · rw [ix_tup e, key]
theorem Sq.src (s : Sq h v ns) : ∃ st, (∀ h', Fr h h' → srcR .val [v] h' = .ok ⟨ns.map (fun n => .v (.int n)), st⟩ h') ∧ ∀ h' its, Fr h h' → Walk.ok ⟨its, st⟩ h' = true := by
  obtain ⟨p, o, rfl, e, rfl | rfl⟩ := s
  · exact ⟨_, fun h' F => by rw [srcR_lst (F.at e), List.map_map]; rfl, fun h' its F => ok_lst _ _ rfl (F.at e)⟩
  · exact ⟨_, fun h' F => by rw [srcR_tup (F.at e), List.map_map]; rfl, fun h' its F => ok_lst _ _ rfl (F.at e)⟩
theorem last_ix {q : Nat} (e : h[q]? = some (.lst (ns.map .int))) (hn : 0 < ns.length) : idxV g (.ref q) (.int (-1)) h = .ok (.int (nth ns (ns.length - 1))) h := by
  rw [ix_lst e]
  unfold lstAt L2.atI L2.ixN
  rw [if_neg (by decide), List.length_map, if_pos (by omega)]
  have e2 : ((-1 : Int) + (ns.length : Int)).toNat = ns.length - 1 := by omega
  rw [nth_get (by omega)]
  simp only [Option.bind_some, e2, List.getElem?_map, List.getElem?_eq_getElem (show ns.length - 1 < ns.length by omega), Option.map_some]
theorem Sq.tru (s : Sq h v ns) : truB v h = .ok (!ns.isEmpty) h := by
  obtain ⟨p, o, rfl, e, rfl | rfl⟩ := s <;> simp [truB, Mi.tru, e]
/-- ns[lo:hi] -/
def cutL (ns : List Int) (lo hi : Option Int) : List Int := (ns.drop (HT.sIx ns.length 0 lo)).take (HT.sIx ns.length ns.length hi - HT.sIx ns.length 0 lo)
theorem Sq.slc (s : Sq h v ns) {lo hi : Option Int} (Z : ∀ v' h', Sq h' v' (cutL ns lo hi) → Fr h h' → Q v' h') : (slcV v lo hi h).sat Q E := by
  have em : ((ns.map Val.int).drop (HT.sIx ns.length 0 lo)).take (HT.sIx ns.length ns.length hi - HT.sIx ns.length 0 lo) = (cutL ns lo hi).map .int := by
    unfold cutL
    rw [List.map_take, List.map_drop]
  obtain ⟨p, o, rfl, e, rfl | rfl⟩ := s
  · unfold slcV
    simp only [e, List.length_map]
    rw [em]
    exact sat_new fun n h' e' _ _ F => Z _ _ (sq_lst e') F
  · unfold slcV
    simp only [e, List.length_map]
    split
    · rename_i c
      refine Z _ _ ?_ (Fr.refl _)
      have : cutL ns lo hi = ns := by
        unfold cutL
        rw [c.1, c.2]
        simp
      rw [this]
      exact sq_tup e
    · rw [em]
      exact sat_new fun n h' e' _ _ F => Z _ _ (sq_tup e') F
theorem six_nat (n d k : Nat) : HT.sIx n d (some (k : Int)) = min k n := by
  show (if (k : Int) < 0 then ((k : Int) + n).toNat else min (k : Int).toNat n) = _
  rw [if_neg (by omega)]
  simp
theorem cutL_0 (ns : List Int) (k : Nat) : cutL ns none (some (k : Int)) = ns.take k := by
  unfold cutL
  rw [six_nat]
  show List.take (min k ns.length - 0) (List.drop 0 ns) = _
  rw [List.drop_zero, List.take_eq_take_iff]
  omega
theorem cutL_b {ns : List Int} {i j : Nat} (hi : i ≤ ns.length) : cutL ns (some (i : Int)) (some (j : Int)) = (ns.drop i).take (j - i) := by
  unfold cutL
  rw [six_nat, six_nat, Nat.min_eq_left hi, List.take_eq_take_iff, List.length_drop]
  omega
theorem cutL_1 {ns : List Int} {i : Nat} (hi : i ≤ ns.length) : cutL ns (some (i : Int)) none = ns.drop i := by
  unfold cutL
  rw [six_nat, Nat.min_eq_left hi]
  show List.take (ns.length - i) _ = _
  rw [List.take_of_length_le (by rw [List.length_drop]; omega)]
theorem Sq.isseq (s : Sq h v ns) {t : Nat} (e : h[t]? = some (.tup [.ty "list", .ty "tuple"])) : Mi.pri g .isinst [v, .ref t] h = .ok (.bl true) h := by
  obtain ⟨p, o, rfl, e', rfl | rfl⟩ := s <;> simp [pri, tyO, e, e', tysO, okTy, isTy]
theorem Sq.list (s : Sq h v ns) (Z : ∀ (p : Nat) h', h'[p]? = some (.lst (ns.map .int)) → p = h.length → h'.length = h.length + 1 → Fr h h' → Q (.ref p) h') : (Mi.pri g .list [v] h).sat Q E := by
  obtain ⟨p, o, rfl, e, rfl | rfl⟩ := s <;>
  · simp only [pri, seqO, e]
    exact sat_new fun n h' e' l l' F => Z _ _ e' l l' F
theorem lst_tuple {q : Nat} {xs : List Val} (e : h[q]? = some (.lst xs)) (Z : ∀ (p : Nat) h', h'[p]? = some (.tup xs) → p = h.length → h'.length = h.length + 1 → Fr h h' → Q (.ref p) h') : (Mi.pri g .tuple [.ref q] h).sat Q E := by
  simp only [pri, e]
  exact sat_new fun n h' e' l l' F => Z _ _ e' l l' F
theorem lst_list {q : Nat} {xs : List Val} (e : h[q]? = some (.lst xs)) (Z : ∀ (p : Nat) h', h'[p]? = some (.lst xs) → p = h.length → h'.length = h.length + 1 → Fr h h' → Q (.ref p) h') : (Mi.pri g .list [.ref q] h).sat Q E := by
  simp only [pri, seqO, e]
  exact sat_new fun n h' e' l l' F => Z _ _ e' l l' F
end
/-- ints, read as data -/
theorem is_ints {X : List Nat} {h : Heap} {p : Nat} {ns : List Int} (hp : p ∉ X) (e : h[p]? = some (.lst (ns.map .int))) : Is X h (.list (ns.map .int)) (.ref p) := is_lst hp e (isall_ints.mpr rfl)
theorem okd_ints {ns : List Int} {k m : Nat} (hk : 0 < k) (h2 : k ≤ 500) (hl : ns.length ≤ m) (h : ∀ n ∈ ns, n.natAbs < 10 ^ k) : Okd (.list (ns.map .int)) 1 (m * (k + 3) + 2) := by
  have := okd_list (ds := ns.map PyData.int) (n := 0) (w := k + 1) fun d hd => by
    obtain ⟨n, hn, rfl⟩ := List.mem_map.mp hd
    exact okd_int hk (h n hn) h2
  refine this.up (by decide) ?_
  rw [List.length_map]
  have := Nat.mul_le_mul_right (k + 3) hl
  show ns.length * (k + 3) + 2 ≤ _
  omega
end Mi


/-! # Mi12: rows of rows; loops over pairs -/
namespace Mi
open PySem (Str PyData)
/-- a comprehension over items of a kind -/
theorem lcF_each {β : Type} {k : β → Val} {w : Walk} {t : Tg} {c : Sl → Heap → Res Bool} {e : Sl → Heap → Res Val} {σ : Sl} {Q : RQ (List Val)} {E : RE} (I : List β → List Val → Heap → Prop)
    (hw : ∀ r a h, I r a h → w.ok h = true) (ha : ∀ i r a h, I (i :: r) a h → a.length < SL)
    (step : ∀ x r a h, I (x :: r) a h → ∃ σ', tgV t (k x) σ h = some σ' ∧ (c σ' h).sat (fun b h1 => if b then (e σ' h1).sat (fun v h2 => I r (a ++ [v]) h2) nox else I r a h1) nox)
    (done : ∀ a h, I [] a h → Q a h) {xs : List β} {a : List Val} {h : Heap} (start : I xs a h) : (lcF w t c e σ (xs.map fun x => .v (k x)) a h).sat Q E := by
  refine lcF_inv (fun r a h => ∃ ys : List β, r = ys.map (fun x => It.v (k x)) ∧ I ys a h) (fun _ _ h z => by obtain ⟨ys, _, z⟩ := z; exact hw _ _ _ z) ?_ ?_ ?_ _ _ _ ⟨xs, rfl, start⟩
  · rintro i r a h ⟨ys, er, hi⟩
    cases ys with
    | nil => cases er
    | cons x ys => exact ha _ _ _ _ hi
  · rintro i r a h ⟨ys, er, hi⟩
    cases ys with
    | nil => cases er
    | cons x ys =>
      cases er
      obtain ⟨σ', h1, h2⟩ := step x ys a h hi
      refine ⟨σ', h1, h2.imp (fun b h' z => ?_) fun _ _ _ z => z⟩
      cases b with
      | true => exact Res.sat.imp z (fun v h2 q => ⟨ys, rfl, q⟩) fun _ _ _ z => z
      | false => exact ⟨ys, rfl, z⟩
  · rintro a h ⟨ys, er, hi⟩
    cases ys with
    | nil => exact done a h hi
    | cons x ys => cases er
/-- a comprehension over pairs -/
theorem lcF_pairs {β : Type} {k1 k2 : β → Val} {w : Walk} {i j : Nat} {c : Sl → Heap → Res Bool} {e : Sl → Heap → Res Val} {σ : Sl} {Q : RQ (List Val)} {E : RE} (I : List β → List Val → Heap → Prop)
    (hw : ∀ r a h, I r a h → w.ok h = true) (ha : ∀ i r a h, I (i :: r) a h → a.length < SL)
    (step : ∀ x r a h h0, I (x :: r) a h → Fr h h0 → h0.length = h.length + 1 → (c ((σ.set i (some (k1 x))).set j (some (k2 x))) h0).sat (fun b h1 => if b then (e ((σ.set i (some (k1 x))).set j (some (k2 x))) h1).sat (fun v h2 => I r (a ++ [v]) h2) nox else I r a h1) nox)
    (done : ∀ a h, I [] a h → Q a h) {xs : List β} {a : List Val} {h : Heap} (start : I xs a h) : (lcF w (.tp [i, j]) c e σ (xs.map fun x => .pr (k1 x) (k2 x)) a h).sat Q E := by
  refine lcF_inv (fun r a h => ∃ ys : List β, r = ys.map (fun x => It.pr (k1 x) (k2 x)) ∧ I ys a h) (fun _ _ h z => by obtain ⟨ys, _, z⟩ := z; exact hw _ _ _ z) ?_ ?_ ?_ _ _ _ ⟨xs, rfl, start⟩
  · rintro i r a h ⟨ys, er, hi⟩
    cases ys with
    | nil => cases er
    | cons x ys => exact ha _ _ _ _ hi
  · rintro it r a h ⟨ys, er, hi⟩
    cases ys with
    | nil => cases er
    | cons x ys =>
      cases er
      rw [yield_pr]
      refine ⟨_, tg_pair (x := k1 x) (y := k2 x) (by simp), (step x ys a h _ hi (Fr.push _ _) (by simp)).imp (fun b h' z => ?_) fun _ _ _ z => z⟩
      cases b with
      | true => exact Res.sat.imp z (fun v h2 q => ⟨ys, rfl, q⟩) fun _ _ _ z => z
      | false => exact ⟨ys, rfl, z⟩
  · rintro a h ⟨ys, er, hi⟩
    cases ys with
    | nil => exact done a h hi
    | cons x ys => cases er
/-- a loop over pairs -/
theorem loopF_pairs {β : Type} {k1 k2 : β → Val} {w : Walk} {i j : Nat} {b : Sl → Heap → Res Fl} {Q : RQ Fl} {E : RE} (I : List β → Sl → Heap → Prop) (hw : ∀ r σ h, I r σ h → w.ok h = true)
    (step : ∀ x r σ h h0, I (x :: r) σ h → Fr h h0 → h0.length = h.length + 1 → (b ((σ.set i (some (k1 x))).set j (some (k2 x))) h0).sat (fun f h' => (match f with | .nx σ'' => I r σ'' h' | .rt v => Q (.rt v) h' | .ex c fs σ => Q (.ex c fs σ) h')) E)
    (done : ∀ σ h, I [] σ h → Q (.nx σ) h) {xs : List β} {σ : Sl} {h : Heap} (start : I xs σ h) : (loopF w (.tp [i, j]) b (xs.map fun x => .pr (k1 x) (k2 x)) σ h).sat Q E := by
  refine loopF_inv (fun r σ h => ∃ ys : List β, r = ys.map (fun x => It.pr (k1 x) (k2 x)) ∧ I ys σ h) (fun _ _ h z => by obtain ⟨ys, _, z⟩ := z; exact hw _ _ _ z) ?_ ?_ _ _ _ ⟨xs, rfl, start⟩
  · rintro it r σ h ⟨ys, er, hi⟩
    cases ys with
    | nil => cases er
    | cons x ys =>
      cases er
      rw [yield_pr]
      refine ⟨_, tg_pair (x := k1 x) (y := k2 x) (by simp), (step x ys σ h _ hi (Fr.push _ _) (by simp)).imp (fun f h' z => ?_) fun _ _ _ z => z⟩
      cases f with
      | nx σ'' => exact ⟨ys, rfl, z⟩
      | rt v => exact z
      | ex c fs σ => exact z
  · rintro σ h ⟨ys, er, hi⟩
    cases ys with
    | nil => exact done σ h hi
    | cons x ys => cases er
theorem pairI_zip : ∀ xs ys : List Val, pairI xs ys = (xs.zip ys).map fun p => .pr p.1 p.2
  | [], ys => by cases ys <;> rfl
  | x :: xs, [] => rfl
  | x :: xs, y :: ys => by
    show It.pr x y :: pairI xs ys = _
    rw [pairI_zip xs ys]
    rfl
theorem enumI_idx : ∀ (k : Nat) (xs : List Val), enumI k xs = (xs.zipIdx k).map fun p => .pr (.int p.2) p.1
  | k, [] => rfl
  | k, x :: xs => by
    show It.pr (.int k) x :: enumI (k + 1) xs = _
    rw [enumI_idx (k + 1) xs]
    rfl
theorem zip_maps {α β γ : Type} (f : α → β) (g : α → γ) : ∀ l : List α, (l.map f).zip (l.map g) = l.map fun a => (f a, g a)
  | [] => rfl
  | a :: l => by simp [zip_maps f g l]
theorem srcR_enum {n : Nat} {xs : List Val} {h : Heap} (e : h[n]? = some (.lst xs)) : srcR .enum [.ref n] h = .ok ⟨(xs.zipIdx 0).map fun p => .pr (.int p.2) p.1, [(n, .lst xs)]⟩ h := by
  unfold srcR srcV
  simp [e, enumI_idx]
/-- a list or a tuple, with its items -/
def Sv (h : Heap) (v : Val) (xs : List Val) : Prop := ∃ p o, v = .ref p ∧ h[p]? = some o ∧ (o = .lst xs ∨ o = .tup xs)
theorem Sv.fr {h h' : Heap} {v : Val} {xs : List Val} (s : Sv h v xs) (f : Fr h h') : Sv h' v xs := by
  obtain ⟨p, o, e, e1, z⟩ := s
  exact ⟨p, o, e, f.at e1, z⟩
theorem sv_lst {h : Heap} {p : Nat} {xs : List Val} (e : h[p]? = some (.lst xs)) : Sv h (.ref p) xs := ⟨p, _, rfl, e, .inl rfl⟩
theorem sv_tup {h : Heap} {p : Nat} {xs : List Val} (e : h[p]? = some (.tup xs)) : Sv h (.ref p) xs := ⟨p, _, rfl, e, .inr rfl⟩
theorem Sv.src {h : Heap} {v : Val} {xs : List Val} (s : Sv h v xs) : ∃ st, (∀ h', Fr h h' → srcR .val [v] h' = .ok ⟨xs.map (fun x => .v x), st⟩ h') ∧ ∀ h' its, Fr h h' → Walk.ok ⟨its, st⟩ h' = true := by
  obtain ⟨p, o, rfl, e, z⟩ := s
  rcases z with rfl | rfl
  · exact ⟨_, fun h' F => srcR_lst (F.at e), fun h' its F => ok_lst _ _ rfl (F.at e)⟩
  · exact ⟨_, fun h' F => srcR_tup (F.at e), fun h' its F => ok_lst _ _ rfl (F.at e)⟩
theorem Sv.zip {h : Heap} {v v' : Val} {xs ys : List Val} (s : Sv h v xs) (s' : Sv h v' ys) : ∃ st, (∀ h', Fr h h' → srcR .zip [v, v'] h' = .ok ⟨(xs.zip ys).map (fun p => .pr p.1 p.2), st⟩ h') ∧ ∀ h' its, Fr h h' → Walk.ok ⟨its, st⟩ h' = true := by
  obtain ⟨p, o, rfl, e, z⟩ := s
  obtain ⟨p', o', rfl, e', z'⟩ := s'
  refine ⟨[(p, o), (p', o')], fun h' F => ?_, fun h' its F => ?_⟩
  · have f := F.at e
    have f' := F.at e'
    unfold srcR srcV obO
    rcases z with rfl | rfl <;> rcases z' with rfl | rfl <;> simp [f, f', pairI_zip]
  · unfold Walk.ok
    simp [F.at e, F.at e']
theorem Sv.len {g : G} {h : Heap} {v : Val} {xs : List Val} (s : Sv h v xs) : Mi.pri g .len [v] h = .ok (.int xs.length) h := by
  obtain ⟨p, o, rfl, e, z⟩ := s
  rcases z with rfl | rfl
  · exact len_lst e
  · exact len_tup e
theorem Sv.ix {g : G} {h : Heap} {v : Val} {xs : List Val} (s : Sv h v xs) (i : Int) : idxV g v (.int i) h = lstAt xs i h := by
  obtain ⟨p, o, rfl, e, z⟩ := s
  rcases z with rfl | rfl
  · exact ix_lst e g i
  · exact ix_tup e g i
theorem Sv.isseq {g : G} {h : Heap} {v : Val} {xs : List Val} (s : Sv h v xs) {t : Nat} (e : h[t]? = some (.tup [.ty "list", .ty "tuple"])) : Mi.pri g .isinst [v, .ref t] h = .ok (.bl true) h := by
  obtain ⟨p, o, rfl, e1, z⟩ := s
  rcases z with rfl | rfl <;> simp [Mi.pri, tyO, e, e1, tysO, okTy, isTy]
theorem Sq.sv {h : Heap} {v : Val} {ns : List Int} (s : Sq h v ns) : Sv h v (ns.map .int) := s
/-- a list or a tuple of rows of ints -/
def Gs (h : Heap) (v : Val) (rs : List (List Int)) : Prop := ∃ prs : List (Val × List Int), Sv h v (prs.map (·.1)) ∧ rs = prs.map (·.2) ∧ ∀ q ∈ prs, Sq h q.1 q.2
theorem Gs.fr {h h' : Heap} {v : Val} {rs : List (List Int)} (s : Gs h v rs) (f : Fr h h') : Gs h' v rs := by
  obtain ⟨prs, s1, e, q⟩ := s
  exact ⟨prs, s1.fr f, e, fun x hx => (q x hx).fr f⟩
abbrev LL (rs : List (List Int)) : PyData := .list (rs.map fun r => .list (r.map .int))
theorem isall_rows {X : List Nat} {h : Heap} : ∀ {rs : List (List Int)} {xs : List Val}, IsAll X h (rs.map fun r => PyData.list (r.map .int)) xs → ∃ prs : List (Val × List Int), xs = prs.map (·.1) ∧ rs = prs.map (·.2) ∧ ∀ q ∈ prs, Sq h q.1 q.2
  | [], xs, i => ⟨[], i.nil, rfl, fun _ hq => by cases hq⟩
  | r :: rs, xs, i => by
    obtain ⟨y, ys, rfl, i1, i2⟩ := i.cons
    obtain ⟨prs, rfl, rfl, hq⟩ := isall_rows i2
    obtain ⟨p, zs, rfl, _, e, i3⟩ := i1.lst
    rw [isall_ints] at i3
    subst i3
    refine ⟨(.ref p, r) :: prs, rfl, rfl, fun q hm => ?_⟩
    rcases List.mem_cons.mp hm with rfl | hm
    · exact sq_lst e
    · exact hq q hm
theorem Is.gs {X : List Nat} {h : Heap} {rs : List (List Int)} {v : Val} (i : Is X h (LL rs) v) : Gs h v rs := by
  obtain ⟨p, xs, rfl, _, e, i2⟩ := i.lst
  obtain ⟨prs, rfl, e2, hq⟩ := isall_rows i2
  exact ⟨prs, sv_lst e, e2, hq⟩
/-- a new list of new lists: they stand from b on, each by itself -/
structure Nst (b : Nat) (h : Heap) (p : Nat) (prs : List (Nat × List Int)) : Prop where
  at_ : h[p]? = some (.lst (prs.map fun q => .ref q.1))
  bp : b ≤ p
  own : ∀ q ∈ prs, q.1 ≠ p
  nd : (prs.map (·.1)).Nodup
  lo : ∀ q ∈ prs, b ≤ q.1
  row : ∀ q ∈ prs, h[q.1]? = some (.lst (q.2.map .int))
theorem Nst.fr {b : Nat} {h h' : Heap} {p : Nat} {prs : List (Nat × List Int)} (s : Nst b h p prs) (f : Fr h h') : Nst b h' p prs := ⟨f.at s.at_, s.bp, s.own, s.nd, s.lo, fun q hq => f.at (s.row q hq)⟩
theorem isall_nst {h : Heap} : ∀ {prs : List (Nat × List Int)}, (∀ q ∈ prs, h[q.1]? = some (.lst (q.2.map .int))) → IsAll [] h (prs.map fun q => PyData.list (q.2.map .int)) (prs.map fun q => .ref q.1)
  | [], _ => isall_nil
  | q :: prs, hr => isall_cons (is_ints (by simp) (hr q (List.mem_cons_self ..))) (isall_nst fun x hx => hr x (List.mem_cons_of_mem _ hx))
theorem Nst.is {b : Nat} {h : Heap} {p : Nat} {prs : List (Nat × List Int)} (s : Nst b h p prs) : Is [] h (LL (prs.map (·.2))) (.ref p) := by
  have := isall_nst s.row
  refine is_lst (by simp) s.at_ ?_
  rw [List.map_map]
  exact this
/-- one of the rows is written -/
theorem Nst.put {b : Nat} {h h' : Heap} {p m : Nat} {prs : List (Nat × List Int)} {r : List Int} (s : Nst b h p prs) (f : Fx1 m h h') (hm : m ≠ p) (e : h'[m]? = some (.lst (r.map .int))) :
    Nst b h' p (prs.map fun q => if q.1 = m then (q.1, r) else q) := by
  have k1 : (prs.map fun q => if q.1 = m then (q.1, r) else q).map (·.1) = prs.map (·.1) := by
    rw [List.map_map]
    refine List.map_congr_left fun q _ => ?_
    show (if q.1 = m then (q.1, r) else q).1 = q.1
    split <;> rfl
  have k2 : (prs.map fun q => if q.1 = m then (q.1, r) else q).map (fun q => Val.ref q.1) = prs.map fun q => Val.ref q.1 := by
    rw [List.map_map]
    refine List.map_congr_left fun q _ => ?_
    show Val.ref (if q.1 = m then (q.1, r) else q).1 = Val.ref q.1
    split <;> rfl
  have k3 : ∀ q ∈ prs.map (fun q => if q.1 = m then (q.1, r) else q), ∃ q0 ∈ prs, q.1 = q0.1 ∧ (if q0.1 = m then q.2 = r else q.2 = q0.2) := by
    intro q hq
    obtain ⟨q0, h0, rfl⟩ := List.mem_map.mp hq
    refine ⟨q0, h0, ?_, ?_⟩
    · split <;> rfl
    · by_cases z : q0.1 = m <;> simp [z]
  refine ⟨?_, s.bp, fun q hq => ?_, by rw [k1]; exact s.nd, fun q hq => ?_, fun q hq => ?_⟩
  · rw [k2]
    exact f.at s.at_ hm.symm
  · obtain ⟨q0, h0, e0, _⟩ := k3 q hq
    rw [e0]
    exact s.own q0 h0
  · obtain ⟨q0, h0, e0, _⟩ := k3 q hq
    rw [e0]
    exact s.lo q0 h0
  · obtain ⟨q0, h0, e0, e1⟩ := k3 q hq
    rw [e0]
    split at e1
    · rename_i z
      rw [z, e1]
      exact e
    · rename_i z
      rw [e1]
      exact f.at (s.row q0 h0) z
theorem okd_rows {rs : List (List Int)} {k m n : Nat} (hk : 0 < k) (h2 : k ≤ 500) (hl : ∀ r ∈ rs, r.length ≤ m) (hn : rs.length ≤ n) (h : ∀ r ∈ rs, ∀ x ∈ r, x.natAbs < 10 ^ k) : Okd (LL rs) 2 (n * (m * (k + 3) + 2 + 2) + 2) := by
  refine (okd_list (ds := rs.map fun r => .list (r.map .int)) (n := 1) (w := m * (k + 3) + 2) fun d hd => ?_).up (Nat.le_refl _) ?_
  · obtain ⟨r, hr, rfl⟩ := List.mem_map.mp hd
    exact okd_ints hk h2 (hl r hr) (h r hr)
  · rw [List.length_map]
    have := Nat.mul_le_mul_right (m * (k + 3) + 2 + 2) hn
    omega
end Mi


/-! # Mi13: lists of data of a kind -/
namespace Mi
open PySem (Str PyData)
/-- a list, its items data of a kind, nothing in X read -/
def Lo (X : List Nat) (h : Heap) (P : PyData → Prop) (v : Val) (xs : List Val) : Prop := ∃ p, v = .ref p ∧ p ∉ X ∧ h[p]? = some (.lst xs) ∧ ∀ x ∈ xs, ∃ d, P d ∧ Is X h d x
def Ab (X : List Nat) (h : Heap) : Prop := ∀ n ∈ X, n < h.length
section
variable {X : List Nat} {h h' : Heap} {P : PyData → Prop} {v w : Val} {xs ys : List Val} {Q : RQ Val} {E : RE}
theorem Ab.fr (a : Ab X h) (f : Fr h h') : Ab X h' := fun n hn => Nat.lt_of_lt_of_le (a n hn) f.len
theorem Ab.fo {Y : List Nat} (a : Ab X h) (f : Fo Y h h') : Ab X h' := fun n hn => Nat.lt_of_lt_of_le (a n hn) f.len
theorem Ab.no (a : Ab X h) {m : Nat} (hm : h.length ≤ m) : m ∉ X := fun z => by have := a m z; omega
theorem Lo.fo (l : Lo X h P v xs) (f : Fo X h h') : Lo X h' P v xs := by
  obtain ⟨p, e, hp, e1, hx⟩ := l
  exact ⟨p, e, hp, f.at e1 hp, fun x z => by obtain ⟨d, h1, h2⟩ := hx x z; exact ⟨d, h1, h2.fo f⟩⟩
theorem Lo.fr (l : Lo X h P v xs) (f : Fr h h') : Lo X h' P v xs := l.fo (Fo.of f)
theorem Lo.imp {P' : PyData → Prop} (l : Lo X h P v xs) (f : ∀ d, P d → P' d) : Lo X h P' v xs := by
  obtain ⟨p, e, hp, e1, hx⟩ := l
  exact ⟨p, e, hp, e1, fun x z => by obtain ⟨d, h1, h2⟩ := hx x z; exact ⟨d, f d h1, h2⟩⟩
theorem isall_some : ∀ {xs : List Val}, (∀ x ∈ xs, ∃ d, P d ∧ Is X h d x) → ∃ ds, IsAll X h ds xs ∧ ∀ d ∈ ds, P d
  | [], _ => ⟨[], isall_nil, by simp⟩
  | x :: xs, hx => by
    obtain ⟨d, h1, h2⟩ := hx x (List.mem_cons_self ..)
    obtain ⟨ds, h3, h4⟩ := isall_some (xs := xs) fun y z => hx y (List.mem_cons_of_mem _ z)
    refine ⟨d :: ds, isall_cons h2 h3, fun e he => ?_⟩
    rcases List.mem_cons.mp he with rfl | he
    · exact h1
    · exact h4 e he
theorem Lo.is (l : Lo X h P v xs) : ∃ ds, Is X h (.list ds) v ∧ ds.length = xs.length ∧ ∀ d ∈ ds, P d := by
  obtain ⟨p, rfl, hp, e1, hx⟩ := l
  obtain ⟨ds, h1, h2⟩ := isall_some hx
  exact ⟨ds, is_lst hp e1 h1, h1.length.symm, h2⟩
theorem lo_new (a : Ab X h) (hx : ∀ x ∈ xs, ∃ d, P d ∧ Is X h d x) (Z : ∀ p h', Lo X h' P (.ref p) xs → h'[p]? = some (.lst xs) → p = h.length → Fr h h' → Q (.ref p) h') : (new (.lst xs) h).sat Q E := by
  refine sat_new fun p h1 e1 el1 l1 F1 => Z p h1 ⟨p, rfl, a.no (by omega), e1, fun x z => ?_⟩ e1 el1 F1
  obtain ⟨d, h2, h3⟩ := hx x z
  exact ⟨d, h2, h3.fr F1⟩
theorem Lo.mem (l : Lo X h P v xs) {x : Val} (hx : x ∈ xs) : ∃ d, P d ∧ Is X h d x := by
  obtain ⟨p, _, _, _, h1⟩ := l
  exact h1 x hx
theorem Lo.slc (a : Ab X h) (l : Lo X h P v xs) {lo hi : Option Int} (Z : ∀ v' h', Lo X h' P v' ((xs.drop (HT.sIx xs.length 0 lo)).take (HT.sIx xs.length xs.length hi - HT.sIx xs.length 0 lo)) → Fr h h' → Q v' h') : (slcV v lo hi h).sat Q E := by
  have hm := fun x hx => l.mem (x := x) hx
  obtain ⟨p, rfl, hp, e1, hx⟩ := l
  unfold slcV
  dsimp only
  rw [e1]
  dsimp only
  exact lo_new a (fun x z => hm x (List.mem_of_mem_drop (List.mem_of_mem_take z))) fun p h' l' _ _ F => Z _ h' l' F
theorem Lo.add (a : Ab X h) (l : Lo X h P v xs) (l' : Lo X h P w ys) (hs : xs.length + ys.length ≤ 16777216) (Z : ∀ v' h', Lo X h' P v' (xs ++ ys) → Fr h h' → Q v' h') : (bop .add v w h).sat Q E := by
  have m1 := fun x hx => l.mem (x := x) hx
  have m2 := fun x hx => l'.mem (x := x) hx
  obtain ⟨p, rfl, hp, e1, hx⟩ := l
  obtain ⟨q, rfl, hq, e2, hy⟩ := l'
  rw [add_lst e1 e2, if_pos hs]
  refine lo_new a (fun x z => ?_) fun p h' l' _ _ F => Z _ h' l' F
  rcases List.mem_append.mp z with z | z
  · exact m1 x z
  · exact m2 x z
theorem Lo.len {g : G} (l : Lo X h P v xs) : Mi.pri g .len [v] h = .ok (.int xs.length) h := by
  obtain ⟨p, rfl, hp, e1, hx⟩ := l
  exact len_lst e1
theorem Lo.ix {g : G} {i : Int} (l : Lo X h P v xs) (h0 : 0 ≤ i) (h1 : i < xs.length) (Z : ∀ x d, x ∈ xs → xs[i.toNat]? = some x → P d → Is X h d x → Q x h) : (idxV g v (.int i) h).sat Q E := by
  have m1 := fun x hx => l.mem (x := x) hx
  obtain ⟨p, rfl, hp, e1, hx⟩ := l
  rw [ix_lst e1]
  refine sat_at h0 h1 fun x hx e => ?_
  obtain ⟨d, h2, h3⟩ := m1 x hx
  exact Z x d hx e h2 h3
theorem Lo.list {g : G} (a : Ab X h) (l : Lo X h P v xs) (Z : ∀ p h', Lo X h' P (.ref p) xs → h'[p]? = some (.lst xs) → p = h.length → Fr h h' → Q (.ref p) h') : (Mi.pri g .list [v] h).sat Q E := by
  have m1 := fun x hx => l.mem (x := x) hx
  obtain ⟨p, rfl, hp, e1, hx⟩ := l
  have : Mi.pri g .list [.ref p] h = new (.lst xs) h := by simp [Mi.pri, seqO, e1]
  rw [this]
  exact lo_new a m1 Z
theorem Lo.rev (a : Ab X h) (l : Lo X h P v xs) (Z : ∀ v' h', Lo X h' P v' xs.reverse → Fr h h' → Q v' h') : (revV v h).sat Q E := by
  have m1 := fun x hx => l.mem (x := x) hx
  obtain ⟨p, rfl, hp, e1, hx⟩ := l
  have : revV (.ref p) h = new (.lst xs.reverse) h := by simp [revV, lstO, e1]
  rw [this]
  exact lo_new a (fun x z => m1 x (List.mem_reverse.mp z)) fun p h' l' _ _ F => Z _ h' l' F
theorem Lo.tuple {g : G} (a : Ab X h) (l : Lo X h P v xs) (Z : ∀ v' h' ds, Is X h' (.tuple ds) v' → ds.length = xs.length → (∀ d ∈ ds, P d) → Fr h h' → Q v' h') : (Mi.pri g .tuple [v] h).sat Q E := by
  have m1 := fun x hx => l.mem (x := x) hx
  obtain ⟨p, rfl, hp, e1, hx⟩ := l
  refine lst_tuple e1 fun q h' e2 el l2 F => ?_
  obtain ⟨ds, h1, h2⟩ := isall_some m1
  exact Z _ h' ds (is_tup (a.no (by omega)) e2 (h1.fr F)) h1.length.symm h2 F
theorem eqv_nilD {ds : List PyData} : PyData.eqv (.list ds) (.list []) = ds.isEmpty := by cases ds <;> rfl
theorem Lo.isnil (l : Lo X h P v xs) {n w q : Nat} (hP : ∀ d, P d → Okd d n w) (hn : n ≤ 59) (e : h[q]? = some (.lst [])) : bop .eq v (.ref q) h = .ok (.bl xs.isEmpty) h := by
  obtain ⟨ds, i, hl, hd⟩ := l.is
  rw [bop_eq_is i (is_lst (X := []) (by simp) e isall_nil) (okd_list fun d z => hP d (hd d z)) (okd_list (ds := []) (n := 0) (w := 0) (by simp)) (by omega) (by decide), eqv_nilD]
  cases ds with
  | nil => cases xs with
    | nil => rfl
    | cons => cases hl
  | cons => cases xs with
    | nil => cases hl
    | cons => rfl
theorem Lo.nonil (l : Lo X h P v xs) {n w q : Nat} (hP : ∀ d, P d → Okd d n w) (hn : n ≤ 59) (e : h[q]? = some (.lst [])) : bop .ne v (.ref q) h = .ok (.bl (!xs.isEmpty)) h := by
  obtain ⟨ds, i, hl, hd⟩ := l.is
  rw [bop_ne_is i (is_lst (X := []) (by simp) e isall_nil) (okd_list fun d z => hP d (hd d z)) (okd_list (ds := []) (n := 0) (w := 0) (by simp)) (by omega) (by decide), eqv_nilD]
  cases ds with
  | nil => cases xs with
    | nil => rfl
    | cons => cases hl
  | cons => cases xs with
    | nil => cases hl
    | cons => rfl
theorem Nst.asLo {b p : Nat} {ps : List (Nat × List Int)} (s : Nst b h p ps) (hX : ∀ x ∈ X, x < b) (hP : ∀ q ∈ ps, P (.list (q.2.map .int))) : Lo X h P (.ref p) (ps.map fun q => .ref q.1) := by
  refine ⟨p, rfl, fun z => by have := hX p z; have := s.bp; omega, s.at_, fun x hx => ?_⟩
  obtain ⟨q, hq, rfl⟩ := List.mem_map.mp hx
  exact ⟨_, hP q hq, is_ints (fun z => by have := hX _ z; have := s.lo q hq; omega) (s.row q hq)⟩
/-- a swap of two items -/
theorem two_tup {p : Nat} {x y : Val} (e : h[p]? = some (.tup [x, y])) : twoV (.ref p) h = .ok (x, y) h := by simp [twoV, e]
end
end Mi


/-! # the defs of shelvesmoved_k09_volumes_order in Mi, printed by gen.py -/
namespace Mi
open PySem PySem.Spec PyProof.Rows L2
def z0 : Str := "0"
def z1 : Str := ""
def z2 : Str := "."
def z3 : Str := "abcdefghijklmnopqrstuvwxyz"
def z4 : Str := "abc"
def z5 : Str := "0123456789"
def z6 : Str := "a..b"
def z7 : Str := "A"
def z8 : Str := "number"
def z9 : Str := "mark"
def z10 : Str := "name"
def z11 : Str := "volume"
def z12 : Str := "told"
def z13 : Str := "other"
def top (i : Nat) : Stmt := PySem.Challenge.pw_shelvesmoved_k09_volumes_order.main.body.getD i (.Pass ⟨0, 0, 0, 0⟩)
/-- is_whole(thing, low, high); slots: thing=0 low=1 high=2 -/
abbrev s0 : Stmt := top 10
abbrev N0 : List Str := ["thing", "low", "high"]
def b0 : Sts := .cons (.ret (.and (.pri .isinst (.cons (.var 0) (.cons (.cst (.ty "int")) (.nil)))) (.and (.not (.pri .isinst (.cons (.var 0) (.cons (.cst (.ty "bool")) (.nil))))) (.chn .le .le (.var 1) (.var 0) (.var 2))))) (.nil)
def d0 : Def := ⟨3, 3, [], b0⟩
/-- is_letters(thing, most); slots: thing=0 most=1 sign=2 -/
abbrev s1 : Stmt := top 11
abbrev N1 : List Str := ["thing", "most", "sign"]
def b1 : Sts := .cons (.ite (.or (.not (.pri .isinst (.cons (.var 0) (.cons (.cst (.ty "str")) (.nil))))) (.not (.chn .le .le (.cst (.int 1)) (.pri .len (.cons (.var 0) (.nil))) (.var 1)))) (.cons (.ret (.cst (.bl false))) (.nil)) (.nil)) (.cons (.ret (.pri .all (.cons (.lc (.bin .in_ (.var 2) (.glb 0)) (.nm 2) .val (.cons (.var 0) .nil) [2] (.none)) (.nil)))) (.nil))
def d1 : Def := ⟨2, 3, [], b1⟩
/-- is_name(thing); slots: thing=0 -/
abbrev s2 : Stmt := top 12
abbrev N2 : List Str := ["thing"]
def b2 : Sts := .cons (.ret (.cal 1 (.cons (.var 0) (.cons (.glb 2) (.nil))))) (.nil)
def d2 : Def := ⟨1, 1, [], b2⟩
/-- whole_in(thing, low, high); slots: thing=0 low=1 high=2 sign=3 number=4 -/
abbrev s3 : Stmt := top 13
abbrev N3 : List Str := ["thing", "low", "high", "sign", "number"]
def b3 : Sts := .cons (.ite (.or (.not (.pri .isinst (.cons (.var 0) (.cons (.cst (.ty "str")) (.nil))))) (.or (.bin .eq (.var 0) (.cst (.str z1))) (.not (.pri .all (.cons (.lc (.bin .in_ (.var 3) (.glb 1)) (.nm 3) .val (.cons (.var 0) .nil) [3] (.none)) (.nil)))))) (.cons (.ret (.cst .non)) (.nil)) (.nil)) (.cons (.ite (.or (.and (.bin .eq (.idx (.var 0) (.cst (.int 0))) (.cst (.str z0))) (.bin .ne (.var 0) (.cst (.str z0)))) (.bin .gt (.pri .len (.cons (.var 0) (.nil))) (.pri .len (.cons (.pri .str (.cons (.var 2) (.nil))) (.nil))))) (.cons (.ret (.cst .non)) (.nil)) (.nil)) (.cons (.asg (.nm 4) (.pri .int (.cons (.var 0) (.nil)))) (.cons (.ret (.ite (.chn .le .le (.var 1) (.var 4) (.var 2)) (.var 4) (.cst .non))) (.nil))))
def d3 : Def := ⟨3, 5, [], b3⟩
/-- part_in(text); slots: text=0 number=1 -/
abbrev s4 : Stmt := top 18
abbrev N4 : List Str := ["text", "number"]
def b4 : Sts := .cons (.asg (.nm 1) (.cal 3 (.cons (.var 0) (.cons (.cst (.int 0)) (.cons (.glb 5) (.nil)))))) (.cons (.ite (.bin .isnot (.var 1) (.cst .non)) (.cons (.ret (.var 1)) (.nil)) (.nil)) (.cons (.ret (.ite (.cal 1 (.cons (.var 0) (.cons (.glb 4) (.nil)))) (.var 0) (.cst .non))) (.nil)))
def d4 : Def := ⟨1, 2, [], b4⟩
/-- parts_in(thing); slots: thing=0 found=1 text=2 -/
abbrev s5 : Stmt := top 19
abbrev N5 : List Str := ["thing", "found", "text"]
def b5 : Sts := .cons (.ite (.not (.pri .isinst (.cons (.var 0) (.cons (.cst (.ty "str")) (.nil))))) (.cons (.ret (.cst .non)) (.nil)) (.nil)) (.cons (.asg (.nm 1) (.lc (.cal 4 (.cons (.var 2) (.nil))) (.nm 2) .val (.cons (.met .split (.var 0) (.cons (.cst (.str z2)) (.nil))) .nil) [2] (.none))) (.cons (.ret (.ite (.or (.bin .in_ (.cst .non) (.var 1)) (.bin .gt (.pri .len (.cons (.var 1) (.nil))) (.glb 3))) (.cst .non) (.var 1))) (.nil)))
def d5 : Def := ⟨1, 3, [], b5⟩
/-- is_mark(thing); slots: thing=0 -/
abbrev s6 : Stmt := top 20
abbrev N6 : List Str := ["thing"]
def b6 : Sts := .cons (.ret (.bin .isnot (.cal 5 (.cons (.var 0) (.nil))) (.cst .non))) (.nil)
def d6 : Def := ⟨1, 1, [], b6⟩
/-- mark_parts(mark); slots: mark=0 found=1 -/
abbrev s7 : Stmt := top 21
abbrev N7 : List Str := ["mark", "found"]
def b7 : Sts := .cons (.asg (.nm 1) (.cal 5 (.cons (.var 0) (.nil)))) (.cons (.ite (.bin .is (.var 1) (.cst .non)) (.cons (.rse 0 ["found"] (.cons (.var 0) (.nil))) (.nil)) (.nil)) (.cons (.ret (.var 1)) (.nil)))
def d7 : Def := ⟨1, 2, [], b7⟩
/-- part_rank(part); slots: part=0 -/
abbrev s8 : Stmt := top 22
abbrev N8 : List Str := ["part"]
def b8 : Sts := .cons (.ret (.ite (.pri .isinst (.cons (.var 0) (.cons (.cst (.ty "int")) (.nil)))) (.tup (.cons (.cst (.int 0)) (.cons (.var 0) (.cons (.cst (.str z1)) (.nil))))) (.tup (.cons (.cst (.int 1)) (.cons (.cst (.int 0)) (.cons (.var 0) (.nil))))))) (.nil)
def d8 : Def := ⟨1, 1, [], b8⟩
/-- mark_rank(mark); slots: mark=0 part=1 -/
abbrev s9 : Stmt := top 23
abbrev N9 : List Str := ["mark", "part"]
def b9 : Sts := .cons (.ret (.lc (.cal 8 (.cons (.var 1) (.nil))) (.nm 1) .val (.cons (.cal 7 (.cons (.var 0) (.nil))) .nil) [1] (.none))) (.nil)
def d9 : Def := ⟨1, 2, [], b9⟩
/-- is_size(thing); slots: thing=0 -/
abbrev s10 : Stmt := top 27
abbrev N10 : List Str := ["thing"]
def b10 : Sts := .cons (.ret (.cal 0 (.cons (.var 0) (.cons (.cst (.int 1)) (.cons (.glb 6) (.nil)))))) (.nil)
def d10 : Def := ⟨1, 1, [], b10⟩
/-- is_width(thing); slots: thing=0 -/
abbrev s11 : Stmt := top 28
abbrev N11 : List Str := ["thing"]
def b11 : Sts := .cons (.ret (.cal 0 (.cons (.var 0) (.cons (.cst (.int 1)) (.cons (.glb 7) (.nil)))))) (.nil)
def d11 : Def := ⟨1, 1, [], b11⟩
/-- need_name(thing); slots: thing=0 -/
abbrev s12 : Stmt := top 29
abbrev N12 : List Str := ["thing"]
def b12 : Sts := .cons (.ite (.not (.cal 2 (.cons (.var 0) (.nil)))) (.cons (.rse 1 ["found"] (.cons (.var 0) (.nil))) (.nil)) (.nil)) (.nil)
def d12 : Def := ⟨1, 1, [], b12⟩
/-- need_mark(thing); slots: thing=0 -/
abbrev s13 : Stmt := top 30
abbrev N13 : List Str := ["thing"]
def b13 : Sts := .cons (.ite (.not (.cal 6 (.cons (.var 0) (.nil)))) (.cons (.rse 0 ["found"] (.cons (.var 0) (.nil))) (.nil)) (.nil)) (.nil)
def d13 : Def := ⟨1, 1, [], b13⟩
/-- need_size(thing); slots: thing=0 -/
abbrev s14 : Stmt := top 31
abbrev N14 : List Str := ["thing"]
def b14 : Sts := .cons (.ite (.not (.cal 10 (.cons (.var 0) (.nil)))) (.cons (.rse 2 ["found"] (.cons (.var 0) (.nil))) (.nil)) (.nil)) (.nil)
def d14 : Def := ⟨1, 1, [], b14⟩
/-- need_width(thing); slots: thing=0 -/
abbrev s15 : Stmt := top 32
abbrev N15 : List Str := ["thing"]
def b15 : Sts := .cons (.ite (.not (.cal 11 (.cons (.var 0) (.nil)))) (.cons (.rse 2 ["found"] (.cons (.var 0) (.nil))) (.nil)) (.nil)) (.nil)
def d15 : Def := ⟨1, 1, [], b15⟩
/-- need_volume(thing); slots: thing=0 name=1 mark=2 size=3 width=4 -/
abbrev s16 : Stmt := top 33
abbrev N16 : List Str := ["thing", "name", "mark", "size", "width"]
def b16 : Sts := .cons (.ite (.or (.not (.pri .isinst (.cons (.var 0) (.cons (.cst (.ty "tuple")) (.nil))))) (.bin .ne (.pri .len (.cons (.var 0) (.nil))) (.cst (.int 4)))) (.cons (.rse 3 ["found"] (.cons (.var 0) (.nil))) (.nil)) (.nil)) (.cons (.asg (.tp [1, 2, 3, 4]) (.var 0)) (.cons (.exp (.cal 12 (.cons (.var 1) (.nil)))) (.cons (.exp (.cal 13 (.cons (.var 2) (.nil)))) (.cons (.exp (.cal 14 (.cons (.var 3) (.nil)))) (.cons (.exp (.cal 15 (.cons (.var 4) (.nil)))) (.nil))))))
def d16 : Def := ⟨1, 5, [], b16⟩
/-- is_volume(thing); slots: thing=0 -/
abbrev s17 : Stmt := top 34
abbrev N17 : List Str := ["thing"]
def b17 : Sts := .cons (.ite (.or (.not (.pri .isinst (.cons (.var 0) (.cons (.cst (.ty "tuple")) (.nil))))) (.bin .ne (.pri .len (.cons (.var 0) (.nil))) (.cst (.int 4)))) (.cons (.ret (.cst (.bl false))) (.nil)) (.nil)) (.cons (.ret (.and (.cal 2 (.cons (.idx (.var 0) (.cst (.int 0))) (.nil))) (.and (.cal 6 (.cons (.idx (.var 0) (.cst (.int 1))) (.nil))) (.and (.cal 10 (.cons (.idx (.var 0) (.cst (.int 2))) (.nil))) (.cal 11 (.cons (.idx (.var 0) (.cst (.int 3))) (.nil))))))) (.nil))
def d17 : Def := ⟨1, 1, [], b17⟩
/-- volume_rank(volume); slots: volume=0 name=1 mark=2 size=3 width=4 -/
abbrev s18 : Stmt := top 35
abbrev N18 : List Str := ["volume", "name", "mark", "size", "width"]
def b18 : Sts := .cons (.asg (.tp [1, 2, 3, 4]) (.var 0)) (.cons (.ret (.tup (.cons (.var 3) (.cons (.cal 9 (.cons (.var 2) (.nil))) (.cons (.var 1) (.nil)))))) (.nil))
def d18 : Def := ⟨1, 5, [], b18⟩
/-- volume_ahead(one, other); slots: one=0 other=1 -/
abbrev s19 : Stmt := top 36
abbrev N19 : List Str := ["one", "other"]
def b19 : Sts := .cons (.exp (.cal 16 (.cons (.var 0) (.nil)))) (.cons (.exp (.cal 16 (.cons (.var 1) (.nil)))) (.cons (.ret (.bin .lt (.cal 18 (.cons (.var 0) (.nil))) (.cal 18 (.cons (.var 1) (.nil))))) (.nil)))
def d19 : Def := ⟨2, 2, [], b19⟩
/-- are_in_order(things); slots: things=0 thing=1 names=2 ranks=3 one=4 other=5 -/
abbrev s20 : Stmt := top 37
abbrev N20 : List Str := ["things", "thing", "names", "ranks", "one", "other"]
def b20 : Sts := .cons (.ite (.not (.pri .all (.cons (.lc (.cal 17 (.cons (.var 1) (.nil))) (.nm 1) .val (.cons (.var 0) .nil) [1] (.none)) (.nil)))) (.cons (.ret (.cst (.bl false))) (.nil)) (.nil)) (.cons (.asg (.nm 2) (.dnew)) (.cons (.frr (.nm 1) .val (.cons (.var 0) .nil) (.cons (.sti (.var 2) (.idx (.var 1) (.cst (.int 0))) (.cst (.bl true))) (.nil))) (.cons (.asg (.nm 3) (.lc (.cal 18 (.cons (.var 1) (.nil))) (.nm 1) .val (.cons (.var 0) .nil) [1] (.none))) (.cons (.ret (.and (.bin .eq (.pri .len (.cons (.var 2) (.nil))) (.pri .len (.cons (.var 0) (.nil)))) (.pri .all (.cons (.lc (.bin .lt (.var 4) (.var 5)) (.tp [4, 5]) .zip (.cons (.var 3) (.cons (.slc (.var 3) (.some (.cst (.int 1))) (.none)) (.nil))) [4, 5] (.none)) (.nil))))) (.nil)))))
def d20 : Def := ⟨1, 6, [], b20⟩
/-- _law_cell(script, k); slots: script=0 k=1 -/
abbrev s21 : Stmt := top 39
abbrev N21 : List Str := ["script", "k"]
def b21 : Sts := .cons (.ite (.bin .lt (.var 1) (.pri .len (.cons (.var 0) (.nil)))) (.cons (.ret (.idx (.var 0) (.var 1))) (.nil)) (.nil)) (.cons (.ret (.bin .add (.bin .mul (.cst (.int 7919)) (.var 1)) (.cst (.int 29)))) (.nil))
def d21 : Def := ⟨2, 2, [], b21⟩
/-- _law_box(cell); slots: cell=0 -/
abbrev s22 : Stmt := top 40
abbrev N22 : List Str := ["cell"]
def b22 : Sts := .cons (.ret (.lst (.cons (.pri .max (.cons (.cst (.int 0)) (.cons (.bin .sub (.var 0) (.bin .pow (.cst (.int 10)) (.cst (.int 18)))) (.nil)))) (.cons (.bin .mod (.var 0) (.cst (.int 2147483629))) (.cons (.cst (.int 0)) (.nil)))))) (.nil)
def d22 : Def := ⟨1, 1, [], b22⟩
/-- _law_take(box, many); slots: box=0 many=1 digit=2 number=3 -/
abbrev s23 : Stmt := top 41
abbrev N23 : List Str := ["box", "many", "digit", "number"]
def b23 : Sts := .cons (.ite (.bin .gt (.idx (.var 0) (.cst (.int 0))) (.cst (.int 0))) (.cons (.asg (.nm 2) (.bin .mod (.idx (.var 0) (.cst (.int 0))) (.var 1))) (.cons (.sti (.var 0) (.cst (.int 0)) (.bin .fdiv (.idx (.var 0) (.cst (.int 0))) (.var 1))) (.cons (.ret (.var 2)) (.nil)))) (.nil)) (.cons (.sti (.var 0) (.cst (.int 2)) (.bin .add (.idx (.var 0) (.cst (.int 2))) (.cst (.int 1)))) (.cons (.asg (.nm 3) (.bin .mod (.bin .pow (.bin .add (.bin .add (.idx (.var 0) (.cst (.int 1))) (.bin .mul (.cst (.int 31337)) (.idx (.var 0) (.cst (.int 2))))) (.cst (.int 7))) (.cst (.int 5))) (.cst (.int 2147483647)))) (.cons (.asg (.nm 3) (.bin .mod (.bin .pow (.bin .add (.var 3) (.bin .mul (.cst (.int 104729)) (.idx (.var 0) (.cst (.int 2))))) (.cst (.int 3))) (.cst (.int 2147483587)))) (.cons (.ret (.bin .mod (.bin .fdiv (.var 3) (.cst (.int 16))) (.var 1))) (.nil)))))
def d23 : Def := ⟨2, 4, [], b23⟩
/-- _law_letters(box, most); slots: box=0 most=1 letters=2 many=3 k=4 -/
abbrev s24 : Stmt := top 42
abbrev N24 : List Str := ["box", "most", "letters", "many", "k"]
def b24 : Sts := .cons (.asg (.nm 2) (.cst (.str z3))) (.cons (.asg (.nm 3) (.idx (.lst (.cons (.cst (.int 1)) (.cons (.var 1) (.cons (.bin .add (.cst (.int 1)) (.cal 23 (.cons (.var 0) (.cons (.var 1) (.nil))))) (.nil))))) (.cal 23 (.cons (.var 0) (.cons (.cst (.int 3)) (.nil)))))) (.cons (.ret (.met .join (.cst (.str z1)) (.cons (.lc (.idx (.var 2) (.cal 23 (.cons (.var 0) (.cons (.cst (.int 26)) (.nil))))) (.nm 4) .rng1 (.cons (.var 3) (.nil)) [4] (.none)) (.nil)))) (.nil)))
def d24 : Def := ⟨2, 5, [], b24⟩
/-- _law_part(box); slots: box=0 way=1 -/
abbrev s25 : Stmt := top 43
abbrev N25 : List Str := ["box", "way"]
def b25 : Sts := .cons (.asg (.nm 1) (.cal 23 (.cons (.var 0) (.cons (.cst (.int 6)) (.nil))))) (.cons (.ite (.bin .lt (.var 1) (.cst (.int 3))) (.cons (.ret (.idx (.lst (.cons (.cal 23 (.cons (.var 0) (.cons (.cst (.int 3)) (.nil)))) (.cons (.cal 23 (.cons (.var 0) (.cons (.bin .pow (.cst (.int 10)) (.cst (.int 6))) (.nil)))) (.cons (.idx (.lst (.cons (.cst (.int 0)) (.cons (.cst (.int 999999)) (.cons (.cst (.int 10)) (.cons (.cst (.int 9)) (.nil)))))) (.cal 23 (.cons (.var 0) (.cons (.cst (.int 4)) (.nil))))) (.nil))))) (.var 1))) (.nil)) (.nil)) (.cons (.ret (.ite (.bin .lt (.var 1) (.cst (.int 5))) (.cal 24 (.cons (.var 0) (.cons (.cst (.int 6)) (.nil)))) (.slc (.cst (.str z4)) (.none) (.some (.bin .add (.cst (.int 1)) (.cal 23 (.cons (.var 0) (.cons (.cst (.int 3)) (.nil))))))))) (.nil)))
def d25 : Def := ⟨1, 2, [], b25⟩
/-- _law_parts(box); slots: box=0 k=1 -/
abbrev s26 : Stmt := top 44
abbrev N26 : List Str := ["box", "k"]
def b26 : Sts := .cons (.ret (.lc (.cal 25 (.cons (.var 0) (.nil))) (.nm 1) .rng1 (.cons (.bin .add (.cst (.int 1)) (.cal 23 (.cons (.var 0) (.cons (.cst (.int 4)) (.nil))))) (.nil)) [1] (.none))) (.nil)
def d26 : Def := ⟨1, 2, [], b26⟩
/-- _law_near(box, parts); slots: box=0 parts=1 way=2 at=3 other=4 -/
abbrev s27 : Stmt := top 45
abbrev N27 : List Str := ["box", "parts", "way", "at", "other"]
def b27 : Sts := .cons (.asg (.nm 2) (.cal 23 (.cons (.var 0) (.cons (.cst (.int 5)) (.nil))))) (.cons (.asg (.nm 3) (.cal 23 (.cons (.var 0) (.cons (.pri .len (.cons (.var 1) (.nil))) (.nil))))) (.cons (.ite (.bin .eq (.var 2) (.cst (.int 0))) (.cons (.ret (.slc (.var 1) (.none) (.some (.pri .max (.cons (.cst (.int 1)) (.cons (.var 3) (.nil))))))) (.nil)) (.nil)) (.cons (.ite (.bin .eq (.var 2) (.cst (.int 1))) (.cons (.ret (.slc (.bin .add (.var 1) (.lst (.cons (.cal 25 (.cons (.var 0) (.nil))) (.nil)))) (.none) (.some (.cst (.int 4))))) (.nil)) (.nil)) (.cons (.ite (.bin .eq (.var 2) (.cst (.int 2))) (.cons (.ret (.pri .list (.cons (.var 1) (.nil)))) (.nil)) (.nil)) (.cons (.asg (.nm 4) (.cal 25 (.cons (.var 0) (.nil)))) (.cons (.ite (.and (.bin .eq (.var 2) (.cst (.int 3))) (.pri .isinst (.cons (.idx (.var 1) (.var 3)) (.cons (.cst (.ty "int")) (.nil))))) (.cons (.asg (.nm 4) (.pri .max (.cons (.cst (.int 0)) (.cons (.pri .min (.cons (.cst (.int 999999)) (.cons (.bin .add (.idx (.var 1) (.var 3)) (.idx (.lst (.cons (.cst (.int 1)) (.cons (.neg (.cst (.int 1))) (.cons (.cst (.int 10)) (.nil))))) (.cal 23 (.cons (.var 0) (.cons (.cst (.int 3)) (.nil)))))) (.nil)))) (.nil))))) (.nil)) (.nil)) (.cons (.ret (.bin .add (.bin .add (.slc (.var 1) (.none) (.some (.var 3))) (.lst (.cons (.var 4) (.nil)))) (.slc (.var 1) (.some (.bin .add (.var 3) (.cst (.int 1)))) (.none)))) (.nil))))))))
def d27 : Def := ⟨2, 5, [], b27⟩
/-- _law_mark(parts); slots: parts=0 part=1 -/
abbrev s28 : Stmt := top 46
abbrev N28 : List Str := ["parts", "part"]
def b28 : Sts := .cons (.ret (.met .join (.cst (.str z2)) (.cons (.lc (.pri .str (.cons (.var 1) (.nil))) (.nm 1) .val (.cons (.var 0) .nil) [1] (.none)) (.nil)))) (.nil)
def d28 : Def := ⟨1, 2, [], b28⟩
/-- _law_part_ahead(one, other); slots: one=0 other=1 -/
abbrev s29 : Stmt := top 47
abbrev N29 : List Str := ["one", "other"]
def b29 : Sts := .cons (.ite (.and (.pri .isinst (.cons (.var 0) (.cons (.cst (.ty "int")) (.nil)))) (.pri .isinst (.cons (.var 1) (.cons (.cst (.ty "int")) (.nil))))) (.cons (.ret (.bin .lt (.var 0) (.var 1))) (.nil)) (.nil)) (.cons (.ite (.or (.pri .isinst (.cons (.var 0) (.cons (.cst (.ty "int")) (.nil)))) (.pri .isinst (.cons (.var 1) (.cons (.cst (.ty "int")) (.nil))))) (.cons (.ret (.pri .isinst (.cons (.var 0) (.cons (.cst (.ty "int")) (.nil))))) (.nil)) (.nil)) (.cons (.ret (.bin .lt (.var 0) (.var 1))) (.nil)))
def d29 : Def := ⟨2, 2, [], b29⟩
/-- _law_parts_ahead(one, other); slots: one=0 other=1 mine=2 theirs=3 -/
abbrev s30 : Stmt := top 48
abbrev N30 : List Str := ["one", "other", "mine", "theirs"]
def b30 : Sts := .cons (.frr (.tp [2, 3]) .zip (.cons (.var 0) (.cons (.var 1) (.nil))) (.cons (.ite (.bin .ne (.var 2) (.var 3)) (.cons (.ret (.cal 29 (.cons (.var 2) (.cons (.var 3) (.nil))))) (.nil)) (.nil)) (.nil))) (.cons (.ret (.bin .lt (.pri .len (.cons (.var 0) (.nil))) (.pri .len (.cons (.var 1) (.nil))))) (.nil))
def d30 : Def := ⟨2, 4, [], b30⟩
/-- _law_names(box, many); slots: box=0 many=1 letters=2 way=3 first=4 step=5 at=6 stem=7 k=8 found=9 pair=10 lone=11 some=12 -/
abbrev s31 : Stmt := top 49
abbrev N31 : List Str := ["box", "many", "letters", "way", "first", "step", "at", "stem", "k", "found", "pair", "lone", "some"]
def b31 : Sts := .cons (.asg (.nm 2) (.cst (.str z3))) (.cons (.asg (.nm 3) (.cal 23 (.cons (.var 0) (.cons (.cst (.int 4)) (.nil))))) (.cons (.asg (.nm 4) (.cal 23 (.cons (.var 0) (.cons (.cst (.int 26)) (.nil))))) (.cons (.asg (.nm 5) (.idx (.lst (.cons (.cst (.int 1)) (.cons (.cst (.int 3)) (.cons (.cst (.int 5)) (.cons (.cst (.int 7)) (.cons (.cst (.int 9)) (.cons (.cst (.int 11)) (.cons (.cst (.int 15)) (.cons (.cst (.int 17)) (.cons (.cst (.int 19)) (.cons (.cst (.int 21)) (.cons (.cst (.int 23)) (.cons (.cst (.int 25)) (.nil)))))))))))))) (.cal 23 (.cons (.var 0) (.cons (.cst (.int 12)) (.nil)))))) (.cons (.asg (.nm 6) (.cal 23 (.cons (.var 0) (.cons (.cst (.int 7)) (.nil))))) (.cons (.asg (.nm 7) (.met .join (.cst (.str z1)) (.cons (.lc (.idx (.var 2) (.cal 23 (.cons (.var 0) (.cons (.cst (.int 26)) (.nil))))) (.nm 8) .rng1 (.cons (.cst (.int 7)) (.nil)) [8] (.none)) (.nil)))) (.cons (.asg (.nm 9) (.lst (.nil))) (.cons (.frr (.nm 8) .rng1 (.cons (.var 1) (.nil)) (.cons (.asg (.nm 10) (.idx (.var 2) (.bin .mod (.bin .add (.var 4) (.bin .mul (.var 5) (.var 8))) (.cst (.int 26))))) (.cons (.asg (.nm 10) (.bin .add (.var 10) (.idx (.var 2) (.bin .mod (.bin .add (.var 4) (.bin .fdiv (.var 8) (.cst (.int 26)))) (.cst (.int 26)))))) (.cons (.asg (.nm 11) (.idx (.var 2) (.bin .mod (.bin .add (.var 4) (.bin .mul (.var 5) (.bin .fdiv (.var 8) (.cst (.int 8))))) (.cst (.int 26))))) (.cons (.asg (.nm 12) (.lst (.cons (.bin .add (.bin .add (.slc (.var 7) (.none) (.some (.var 6))) (.var 10)) (.slc (.var 7) (.some (.var 6)) (.some (.cst (.int 6))))) (.cons (.bin .add (.var 10) (.slc (.var 7) (.none) (.some (.var 6)))) (.nil))))) (.cons (.exp (.met .append (.var 12) (.cons (.bin .add (.var 11) (.slc (.var 7) (.none) (.some (.bin .mod (.var 8) (.cst (.int 8)))))) (.nil)))) (.cons (.exp (.met .append (.var 12) (.cons (.bin .add (.bin .add (.slc (.var 7) (.none) (.some (.var 6))) (.var 10)) (.slc (.var 7) (.some (.var 6)) (.some (.bin .add (.var 6) (.bin .mod (.var 8) (.bin .sub (.cst (.int 7)) (.var 6))))))) (.nil)))) (.cons (.exp (.met .append (.var 9) (.cons (.idx (.var 12) (.var 3)) (.nil)))) (.nil))))))))) (.cons (.ret (.var 9)) (.nil)))))))))
def d31 : Def := ⟨2, 13, [], b31⟩
/-- _law_marks(box, many); slots: box=0 many=1 found=2 k=3 parts=4 -/
abbrev s32 : Stmt := top 50
abbrev N32 : List Str := ["box", "many", "found", "k", "parts"]
def b32 : Sts := .cons (.asg (.nm 2) (.lst (.nil))) (.cons (.frr (.nm 3) .rng1 (.cons (.var 1) (.nil)) (.cons (.ite (.or (.bin .eq (.var 2) (.lst (.nil))) (.bin .eq (.cal 23 (.cons (.var 0) (.cons (.cst (.int 5)) (.nil)))) (.cst (.int 0)))) (.cons (.exp (.met .append (.var 2) (.cons (.cal 26 (.cons (.var 0) (.nil))) (.nil)))) (.nil)) (.cons (.exp (.met .append (.var 2) (.cons (.cal 27 (.cons (.var 0) (.cons (.idx (.var 2) (.cal 23 (.cons (.var 0) (.cons (.pri .len (.cons (.var 2) (.nil))) (.nil))))) (.nil)))) (.nil)))) (.nil))) (.nil))) (.cons (.ret (.lc (.cal 28 (.cons (.var 4) (.nil))) (.nm 4) .val (.cons (.var 2) .nil) [4] (.none))) (.nil)))
def d32 : Def := ⟨2, 5, [], b32⟩
/-- _law_width(box); slots: box=0 -/
abbrev s33 : Stmt := top 51
abbrev N33 : List Str := ["box"]
def b33 : Sts := .cons (.ret (.idx (.lst (.cons (.cst (.int 1)) (.cons (.cst (.int 99)) (.cons (.bin .add (.cst (.int 1)) (.cal 23 (.cons (.var 0) (.cons (.cst (.int 99)) (.nil))))) (.cons (.bin .add (.cst (.int 1)) (.cal 23 (.cons (.var 0) (.cons (.cst (.int 9)) (.nil))))) (.cons (.bin .add (.cst (.int 1)) (.cal 23 (.cons (.var 0) (.cons (.cst (.int 9)) (.nil))))) (.nil))))))) (.cal 23 (.cons (.var 0) (.cons (.cst (.int 5)) (.nil)))))) (.nil)
def d33 : Def := ⟨1, 1, [], b33⟩
/-- _law_drawn_volumes(box, many); slots: box=0 many=1 names=2 marks=3 low=4 found=5 k=6 size=7 -/
abbrev s34 : Stmt := top 52
abbrev N34 : List Str := ["box", "many", "names", "marks", "low", "found", "k", "size"]
def b34 : Sts := .cons (.asg (.nm 2) (.cal 31 (.cons (.var 0) (.cons (.var 1) (.nil))))) (.cons (.asg (.nm 3) (.cal 32 (.cons (.var 0) (.cons (.var 1) (.nil))))) (.cons (.asg (.nm 4) (.bin .add (.cst (.int 1)) (.cal 23 (.cons (.var 0) (.cons (.cst (.int 8)) (.nil)))))) (.cons (.asg (.nm 5) (.lst (.nil))) (.cons (.frr (.nm 6) .rng1 (.cons (.var 1) (.nil)) (.cons (.asg (.nm 7) (.idx (.lst (.cons (.var 4) (.cons (.bin .add (.var 4) (.cst (.int 1))) (.cons (.var 4) (.cons (.bin .add (.cst (.int 1)) (.cal 23 (.cons (.var 0) (.cons (.cst (.int 9)) (.nil))))) (.nil)))))) (.cal 23 (.cons (.var 0) (.cons (.cst (.int 4)) (.nil)))))) (.cons (.exp (.met .append (.var 5) (.cons (.tup (.cons (.idx (.var 2) (.var 6)) (.cons (.idx (.var 3) (.var 6)) (.cons (.var 7) (.cons (.cal 33 (.cons (.var 0) (.nil))) (.nil)))))) (.nil)))) (.nil)))) (.cons (.ret (.var 5)) (.nil))))))
def d34 : Def := ⟨2, 8, [], b34⟩
/-- _law_read_parts(mark); slots: mark=0 text=1 -/
abbrev s35 : Stmt := top 53
abbrev N35 : List Str := ["mark", "text"]
def b35 : Sts := .cons (.ret (.lc (.ite (.bin .in_ (.idx (.var 1) (.cst (.int 0))) (.cst (.str z5))) (.pri .int (.cons (.var 1) (.nil))) (.var 1)) (.nm 1) .val (.cons (.met .split (.var 0) (.cons (.cst (.str z2)) (.nil))) .nil) [1] (.none))) (.nil)
def d35 : Def := ⟨1, 2, [], b35⟩
/-- _law_ahead(one, other); slots: one=0 other=1 -/
abbrev s36 : Stmt := top 54
abbrev N36 : List Str := ["one", "other"]
def b36 : Sts := .cons (.ite (.bin .ne (.idx (.var 0) (.cst (.int 2))) (.idx (.var 1) (.cst (.int 2)))) (.cons (.ret (.bin .lt (.idx (.var 0) (.cst (.int 2))) (.idx (.var 1) (.cst (.int 2))))) (.nil)) (.nil)) (.cons (.ite (.bin .ne (.idx (.var 0) (.cst (.int 1))) (.idx (.var 1) (.cst (.int 1)))) (.cons (.ret (.cal 30 (.cons (.cal 35 (.cons (.idx (.var 0) (.cst (.int 1))) (.nil))) (.cons (.cal 35 (.cons (.idx (.var 1) (.cst (.int 1))) (.nil))) (.nil))))) (.nil)) (.nil)) (.cons (.ret (.bin .lt (.idx (.var 0) (.cst (.int 0))) (.idx (.var 1) (.cst (.int 0))))) (.nil)))
def d36 : Def := ⟨2, 2, [], b36⟩
/-- _law_sorted(volumes); slots: volumes=0 found=1 volume=2 at=3 other=4 -/
abbrev s37 : Stmt := top 55
abbrev N37 : List Str := ["volumes", "found", "volume", "at", "other"]
def b37 : Sts := .cons (.asg (.nm 1) (.lst (.nil))) (.cons (.frr (.nm 2) .val (.cons (.var 0) .nil) (.cons (.asg (.nm 3) (.pri .len (.cons (.lc (.var 4) (.nm 4) .val (.cons (.var 1) .nil) [4] (.some (.cal 36 (.cons (.var 4) (.cons (.var 2) (.nil)))))) (.nil)))) (.cons (.exp (.met .insert (.var 1) (.cons (.var 3) (.cons (.var 2) (.nil))))) (.nil)))) (.cons (.ret (.var 1)) (.nil)))
def d37 : Def := ⟨1, 5, [], b37⟩
/-- _law_bad(box, volume); slots: box=0 volume=1 name=2 mark=3 size=4 width=5 some=6 -/
abbrev s38 : Stmt := top 56
abbrev N38 : List Str := ["box", "volume", "name", "mark", "size", "width", "some"]
def b38 : Sts := .cons (.asg (.tp [2, 3, 4, 5]) (.var 1)) (.cons (.asg (.nm 6) (.lst (.cons (.cst .non) (.cons (.pri .list (.cons (.var 1) (.nil))) (.cons (.slc (.var 1) (.none) (.some (.cst (.int 3)))) (.cons (.tup (.cons (.cst (.str z7)) (.cons (.var 3) (.cons (.var 4) (.cons (.var 5) (.nil)))))) (.cons (.tup (.cons (.var 2) (.cons (.cst (.str z6)) (.cons (.var 4) (.cons (.var 5) (.nil)))))) (.nil)))))))) (.cons (.asg (.nm 6) (.bin .add (.var 6) (.lst (.cons (.tup (.cons (.var 2) (.cons (.var 3) (.cons (.cst (.int 10)) (.cons (.var 5) (.nil)))))) (.cons (.tup (.cons (.var 2) (.cons (.var 3) (.cons (.var 4) (.cons (.cst (.int 0)) (.nil)))))) (.cons (.tup (.cons (.var 2) (.cons (.var 3) (.cons (.cst (.bl true)) (.cons (.var 5) (.nil)))))) (.nil))))))) (.cons (.ret (.idx (.bin .add (.var 6) (.lst (.cons (.cst (.int 7)) (.cons (.cst (.str z4)) (.cons (.dnew) (.nil)))))) (.cal 23 (.cons (.var 0) (.cons (.cst (.int 11)) (.nil)))))) (.nil))))
def d38 : Def := ⟨2, 7, [], b38⟩
/-- _law_due(thing); slots: thing=0 -/
abbrev s39 : Stmt := top 57
abbrev N39 : List Str := ["thing"]
def b39 : Sts := .cons (.ite (.or (.not (.pri .isinst (.cons (.var 0) (.cons (.cst (.ty "tuple")) (.nil))))) (.bin .ne (.pri .len (.cons (.var 0) (.nil))) (.cst (.int 4)))) (.cons (.ret (.lst (.cons (.cst (.str z11)) (.cons (.var 0) (.nil))))) (.nil)) (.nil)) (.cons (.ite (.bin .eq (.idx (.var 0) (.cst (.int 0))) (.cst (.str z7))) (.cons (.ret (.lst (.cons (.cst (.str z10)) (.cons (.cst (.str z7)) (.nil))))) (.nil)) (.nil)) (.cons (.ite (.bin .eq (.idx (.var 0) (.cst (.int 1))) (.cst (.str z6))) (.cons (.ret (.lst (.cons (.cst (.str z9)) (.cons (.cst (.str z6)) (.nil))))) (.nil)) (.nil)) (.cons (.ite (.or (.bin .is (.idx (.var 0) (.cst (.int 2))) (.cst (.bl true))) (.bin .eq (.idx (.var 0) (.cst (.int 2))) (.cst (.int 10)))) (.cons (.ret (.lst (.cons (.cst (.str z8)) (.cons (.idx (.var 0) (.cst (.int 2))) (.nil))))) (.nil)) (.nil)) (.cons (.ret (.ite (.bin .eq (.idx (.var 0) (.cst (.int 3))) (.cst (.int 0))) (.lst (.cons (.cst (.str z8)) (.cons (.cst (.int 0)) (.nil)))) (.cst .non))) (.nil)))))
def d39 : Def := ⟨1, 1, [], b39⟩
/-- _law_told(one, other); slots: one=0 other=1 found=2 e=3 -/
abbrev s40 : Stmt := top 58
abbrev N40 : List Str := ["one", "other", "found", "e"]
def b40 : Sts := .cons (.asg (.nm 2) (.cst .non)) (.cons (.tri (.cons (.asg (.nm 2) (.lst (.cons (.cst (.str z12)) (.cons (.cal 19 (.cons (.var 0) (.cons (.var 1) (.nil)))) (.nil))))) (.nil)) (.cons [3] (some 3) (.cons (.asg (.nm 2) (.lst (.cons (.cst (.str z11)) (.cons (.efl 3 "found") (.nil))))) (.nil)) (.cons [1] (some 3) (.cons (.asg (.nm 2) (.lst (.cons (.cst (.str z10)) (.cons (.efl 3 "found") (.nil))))) (.nil)) (.cons [0] (some 3) (.cons (.asg (.nm 2) (.lst (.cons (.cst (.str z9)) (.cons (.efl 3 "found") (.nil))))) (.nil)) (.cons [2] (some 3) (.cons (.asg (.nm 2) (.lst (.cons (.cst (.str z8)) (.cons (.efl 3 "found") (.nil))))) (.nil)) (.cons [0, 1, 2, 3] none (.cons (.asg (.nm 2) (.lst (.cons (.cst (.str z13)) (.nil)))) (.nil)) (.nil))))))) (.cons (.ret (.var 2)) (.nil)))
def d40 : Def := ⟨2, 4, [], b40⟩
/-- _law_pairs_right(volumes); slots: volumes=0 one=1 other=2 -/
abbrev s41 : Stmt := top 59
abbrev N41 : List Str := ["volumes", "one", "other"]
def b41 : Sts := .cons (.frr (.nm 1) .val (.cons (.var 0) .nil) (.cons (.frr (.nm 2) .val (.cons (.var 0) .nil) (.cons (.ite (.bin .ne (.pri .repr (.cons (.cal 40 (.cons (.var 1) (.cons (.var 2) (.nil)))) (.nil))) (.pri .repr (.cons (.lst (.cons (.cst (.str z12)) (.cons (.cal 36 (.cons (.var 1) (.cons (.var 2) (.nil)))) (.nil)))) (.nil)))) (.cons (.ret (.cst (.bl false))) (.nil)) (.nil)) (.nil))) (.nil))) (.cons (.ret (.cst (.bl true))) (.nil))
def d41 : Def := ⟨1, 3, [], b41⟩
/-- _law_row_due(things); slots: things=0 names=1 thing=2 k=3 -/
abbrev s42 : Stmt := top 60
abbrev N42 : List Str := ["things", "names", "thing", "k"]
def b42 : Sts := .cons (.asg (.nm 1) (.lst (.nil))) (.cons (.frr (.nm 2) .val (.cons (.var 0) .nil) (.cons (.ite (.or (.bin .isnot (.cal 39 (.cons (.var 2) (.nil))) (.cst .non)) (.bin .in_ (.idx (.var 2) (.cst (.int 0))) (.var 1))) (.cons (.ret (.cst (.bl false))) (.nil)) (.nil)) (.cons (.exp (.met .append (.var 1) (.cons (.idx (.var 2) (.cst (.int 0))) (.nil)))) (.nil)))) (.cons (.ret (.bin .eq (.lc (.var 3) (.nm 3) .rng2 (.cons (.cst (.int 1)) (.cons (.pri .len (.cons (.var 0) (.nil))) (.nil))) [3] (.some (.not (.cal 36 (.cons (.idx (.var 0) (.bin .sub (.var 3) (.cst (.int 1)))) (.cons (.idx (.var 0) (.var 3)) (.nil))))))) (.lst (.nil)))) (.nil)))
def d42 : Def := ⟨1, 4, [], b42⟩
/-- _law_row_right(box, volumes); slots: box=0 volumes=1 row=2 turn=3 way=4 at=5 kept=6 thing=7 -/
abbrev s43 : Stmt := top 61
abbrev N43 : List Str := ["box", "volumes", "row", "turn", "way", "at", "kept", "thing"]
def b43 : Sts := .cons (.asg (.nm 2) (.cal 37 (.cons (.var 1) (.nil)))) (.cons (.frr (.nm 3) .rng1 (.cons (.cal 23 (.cons (.var 0) (.cons (.cst (.int 3)) (.nil)))) (.nil)) (.cons (.asg (.nm 4) (.cal 23 (.cons (.var 0) (.cons (.cst (.int 5)) (.nil))))) (.cons (.asg (.nm 5) (.cal 23 (.cons (.var 0) (.cons (.pri .len (.cons (.var 2) (.nil))) (.nil))))) (.cons (.ite (.bin .eq (.var 4) (.cst (.int 0))) (.cons (.asg (.nm 2) (.bin .add (.bin .add (.slc (.var 2) (.none) (.some (.var 5))) (.rev (.slc (.var 2) (.some (.var 5)) (.some (.bin .add (.var 5) (.cst (.int 2))))))) (.slc (.var 2) (.some (.bin .add (.var 5) (.cst (.int 2)))) (.none)))) (.nil)) (.cons (.ite (.bin .eq (.var 4) (.cst (.int 1))) (.cons (.asg (.nm 2) (.bin .add (.slc (.var 2) (.none) (.some (.bin .add (.var 5) (.cst (.int 1))))) (.slc (.var 2) (.some (.var 5)) (.none)))) (.nil)) (.cons (.ite (.and (.bin .eq (.var 4) (.cst (.int 2))) (.and (.bin .is (.cal 39 (.cons (.idx (.var 2) (.cst (.int 0))) (.nil))) (.cst .non)) (.bin .is (.cal 39 (.cons (.idx (.var 2) (.var 5)) (.nil))) (.cst .non)))) (.cons (.sti (.var 2) (.var 5) (.bin .add (.tup (.cons (.idx (.idx (.var 2) (.cst (.int 0))) (.cst (.int 0))) (.nil))) (.slc (.idx (.var 2) (.var 5)) (.some (.cst (.int 1))) (.none)))) (.nil)) (.cons (.ite (.and (.bin .eq (.var 4) (.cst (.int 3))) (.bin .is (.cal 39 (.cons (.idx (.var 2) (.var 5)) (.nil))) (.cst .non))) (.cons (.sti (.var 2) (.var 5) (.cal 38 (.cons (.var 0) (.cons (.idx (.var 2) (.var 5)) (.nil))))) (.nil)) (.nil)) (.nil))) (.nil))) (.nil))) (.nil))))) (.cons (.asg (.nm 6) (.pri .repr (.cons (.var 2) (.nil)))) (.cons (.frr (.nm 7) .val (.cons (.lst (.cons (.var 2) (.cons (.pri .tuple (.cons (.var 2) (.nil))) (.cons (.var 2) (.nil))))) .nil) (.cons (.ite (.bin .ne (.pri .repr (.cons (.cal 20 (.cons (.var 7) (.nil))) (.nil))) (.pri .repr (.cons (.cal 42 (.cons (.var 2) (.nil))) (.nil)))) (.cons (.ret (.cst (.bl false))) (.nil)) (.nil)) (.nil))) (.cons (.ret (.bin .eq (.pri .repr (.cons (.var 2) (.nil))) (.var 6))) (.nil)))))
def d43 : Def := ⟨2, 8, [], b43⟩
/-- law(script); slots: script=0 k=1 box=2 volumes=3 row=4 at=5 bent=6 bad=7 more=8 one=9 other=10 -/
abbrev s44 : Stmt := top 62
abbrev N44 : List Str := ["script", "k", "box", "volumes", "row", "at", "bent", "bad", "more", "one", "other"]
def b44 : Sts := .cons (.frr (.nm 1) .rng1 (.cons (.pri .max (.cons (.cst (.int 2)) (.cons (.pri .min (.cons (.pri .len (.cons (.var 0) (.nil))) (.cons (.cst (.int 10)) (.nil)))) (.nil)))) (.nil)) (.cons (.asg (.nm 2) (.cal 22 (.cons (.cal 21 (.cons (.var 0) (.cons (.var 1) (.nil)))) (.nil)))) (.cons (.asg (.nm 3) (.cal 34 (.cons (.var 2) (.cons (.bin .add (.cst (.int 2)) (.cal 23 (.cons (.var 2) (.cons (.cst (.int 7)) (.nil))))) (.nil))))) (.cons (.ite (.and (.bin .eq (.cal 23 (.cons (.var 2) (.cons (.cst (.int 4)) (.nil)))) (.cst (.int 0))) (.bin .eq (.var 1) (.cst (.int 0)))) (.cons (.asg (.nm 4) (.cal 37 (.cons (.cal 34 (.cons (.var 2) (.cons (.cst (.int 100)) (.nil)))) (.nil)))) (.cons (.asg (.nm 5) (.cal 23 (.cons (.var 2) (.cons (.cst (.int 99)) (.nil))))) (.cons (.asg (.nm 6) (.bin .add (.bin .add (.slc (.var 4) (.none) (.some (.var 5))) (.rev (.slc (.var 4) (.some (.var 5)) (.some (.bin .add (.var 5) (.cst (.int 2))))))) (.slc (.var 4) (.some (.bin .add (.var 5) (.cst (.int 2)))) (.none)))) (.cons (.ite (.or (.bin .isnot (.cal 20 (.cons (.var 4) (.nil))) (.cst (.bl true))) (.bin .isnot (.cal 20 (.cons (.pri .tuple (.cons (.var 6) (.nil))) (.nil))) (.cst (.bl false)))) (.cons (.ret (.cst (.bl false))) (.nil)) (.nil)) (.nil))))) (.nil)) (.cons (.par [7, 8] (.cons (.cal 38 (.cons (.var 2) (.cons (.idx (.var 3) (.cst (.int 0))) (.nil)))) (.cons (.cal 38 (.cons (.var 2) (.cons (.idx (.var 3) (.neg (.cst (.int 1)))) (.nil)))) (.nil)))) (.cons (.ite (.or (.not (.cal 41 (.cons (.var 3) (.nil)))) (.or (.not (.cal 43 (.cons (.var 2) (.cons (.var 3) (.nil))))) (.bin .isnot (.cal 20 (.cons (.lst (.nil)) (.nil))) (.cst (.bl true))))) (.cons (.ret (.cst (.bl false))) (.nil)) (.nil)) (.cons (.frr (.tp [9, 10]) .val (.cons (.lst (.cons (.tup (.cons (.var 7) (.cons (.idx (.var 3) (.cst (.int 0))) (.nil)))) (.cons (.tup (.cons (.var 7) (.cons (.var 8) (.nil)))) (.nil)))) .nil) (.cons (.ite (.bin .ne (.pri .repr (.cons (.cal 40 (.cons (.var 9) (.cons (.var 10) (.nil)))) (.nil))) (.pri .repr (.cons (.cal 39 (.cons (.var 7) (.nil))) (.nil)))) (.cons (.ret (.cst (.bl false))) (.nil)) (.nil)) (.nil))) (.cons (.ite (.bin .ne (.pri .repr (.cons (.cal 40 (.cons (.idx (.var 3) (.cst (.int 1))) (.cons (.var 8) (.nil)))) (.nil))) (.pri .repr (.cons (.cal 39 (.cons (.var 8) (.nil))) (.nil)))) (.cons (.ret (.cst (.bl false))) (.nil)) (.nil)) (.nil))))))))) (.cons (.ret (.cst (.bl true))) (.nil))
def d44 : Def := ⟨1, 11, [], b44⟩
def clsM : Stmt → Stmt
  | .ClassDef _ _ _ body _ _ _ _ _ _ _ => body.getD 0 (.Pass ⟨0, 0, 0, 0⟩)
  | _ => .Pass ⟨0, 0, 0, 0⟩
abbrev sI_ShelvesError : Stmt := clsM (top 1)
theorem scI_ShelvesError : FnScope ["self", "text"] ["self", "text"] (defScope sI_ShelvesError) := ⟨rfl, rfl, rfl, by decide +kernel, rfl, by decide +kernel, by decide +kernel⟩
abbrev sI_NoMark : Stmt := clsM (top 3)
theorem scI_NoMark : FnScope ["self", "found"] ["self", "found"] (defScope sI_NoMark) := ⟨rfl, rfl, rfl, by decide +kernel, rfl, by decide +kernel, by decide +kernel⟩
abbrev sI_NoName : Stmt := clsM (top 2)
theorem scI_NoName : FnScope ["self", "found"] ["self", "found"] (defScope sI_NoName) := ⟨rfl, rfl, rfl, by decide +kernel, rfl, by decide +kernel, by decide +kernel⟩
abbrev sI_NoNumber : Stmt := clsM (top 4)
theorem scI_NoNumber : FnScope ["self", "found"] ["self", "found"] (defScope sI_NoNumber) := ⟨rfl, rfl, rfl, by decide +kernel, rfl, by decide +kernel, by decide +kernel⟩
abbrev sI_NoVolume : Stmt := clsM (top 5)
theorem scI_NoVolume : FnScope ["self", "found"] ["self", "found"] (defScope sI_NoVolume) := ⟨rfl, rfl, rfl, by decide +kernel, rfl, by decide +kernel, by decide +kernel⟩
def D : Nat → Option Def
  | 0 => some d0
  | 1 => some d1
  | 2 => some d2
  | 3 => some d3
  | 4 => some d4
  | 5 => some d5
  | 6 => some d6
  | 7 => some d7
  | 8 => some d8
  | 9 => some d9
  | 10 => some d10
  | 11 => some d11
  | 12 => some d12
  | 13 => some d13
  | 14 => some d14
  | 15 => some d15
  | 16 => some d16
  | 17 => some d17
  | 18 => some d18
  | 19 => some d19
  | 20 => some d20
  | 21 => some d21
  | 22 => some d22
  | 23 => some d23
  | 24 => some d24
  | 25 => some d25
  | 26 => some d26
  | 27 => some d27
  | 28 => some d28
  | 29 => some d29
  | 30 => some d30
  | 31 => some d31
  | 32 => some d32
  | 33 => some d33
  | 34 => some d34
  | 35 => some d35
  | 36 => some d36
  | 37 => some d37
  | 38 => some d38
  | 39 => some d39
  | 40 => some d40
  | 41 => some d41
  | 42 => some d42
  | 43 => some d43
  | 44 => some d44
  | _ => none
def gl : Nat → Option Val
  | 0 => some (.str z3)
  | 1 => some (.str z5)
  | 2 => some (.int 8)
  | 3 => some (.int 4)
  | 4 => some (.int 6)
  | 5 => some (.int 999999)
  | 6 => some (.int 9)
  | 7 => some (.int 99)
  | _ => none
theorem sc0 : FnScope N0 ["thing", "low", "high"] (defScope s0) := ⟨rfl, rfl, rfl, by decide +kernel, rfl, by decide +kernel, by decide +kernel⟩
theorem sc1 : FnScope N1 ["thing", "most"] (defScope s1) := ⟨rfl, rfl, rfl, by decide +kernel, rfl, by decide +kernel, by decide +kernel⟩
theorem sc2 : FnScope N2 ["thing"] (defScope s2) := ⟨rfl, rfl, rfl, by decide +kernel, rfl, by decide +kernel, by decide +kernel⟩
theorem sc3 : FnScope N3 ["thing", "low", "high"] (defScope s3) := ⟨rfl, rfl, rfl, by decide +kernel, rfl, by decide +kernel, by decide +kernel⟩
theorem sc4 : FnScope N4 ["text"] (defScope s4) := ⟨rfl, rfl, rfl, by decide +kernel, rfl, by decide +kernel, by decide +kernel⟩
theorem sc5 : FnScope N5 ["thing"] (defScope s5) := ⟨rfl, rfl, rfl, by decide +kernel, rfl, by decide +kernel, by decide +kernel⟩
theorem sc6 : FnScope N6 ["thing"] (defScope s6) := ⟨rfl, rfl, rfl, by decide +kernel, rfl, by decide +kernel, by decide +kernel⟩
theorem sc7 : FnScope N7 ["mark"] (defScope s7) := ⟨rfl, rfl, rfl, by decide +kernel, rfl, by decide +kernel, by decide +kernel⟩
theorem sc8 : FnScope N8 ["part"] (defScope s8) := ⟨rfl, rfl, rfl, by decide +kernel, rfl, by decide +kernel, by decide +kernel⟩
theorem sc9 : FnScope N9 ["mark"] (defScope s9) := ⟨rfl, rfl, rfl, by decide +kernel, rfl, by decide +kernel, by decide +kernel⟩
theorem sc10 : FnScope N10 ["thing"] (defScope s10) := ⟨rfl, rfl, rfl, by decide +kernel, rfl, by decide +kernel, by decide +kernel⟩
theorem sc11 : FnScope N11 ["thing"] (defScope s11) := ⟨rfl, rfl, rfl, by decide +kernel, rfl, by decide +kernel, by decide +kernel⟩
theorem sc12 : FnScope N12 ["thing"] (defScope s12) := ⟨rfl, rfl, rfl, by decide +kernel, rfl, by decide +kernel, by decide +kernel⟩
theorem sc13 : FnScope N13 ["thing"] (defScope s13) := ⟨rfl, rfl, rfl, by decide +kernel, rfl, by decide +kernel, by decide +kernel⟩
theorem sc14 : FnScope N14 ["thing"] (defScope s14) := ⟨rfl, rfl, rfl, by decide +kernel, rfl, by decide +kernel, by decide +kernel⟩
theorem sc15 : FnScope N15 ["thing"] (defScope s15) := ⟨rfl, rfl, rfl, by decide +kernel, rfl, by decide +kernel, by decide +kernel⟩
theorem sc16 : FnScope N16 ["thing"] (defScope s16) := ⟨rfl, rfl, rfl, by decide +kernel, rfl, by decide +kernel, by decide +kernel⟩
theorem sc17 : FnScope N17 ["thing"] (defScope s17) := ⟨rfl, rfl, rfl, by decide +kernel, rfl, by decide +kernel, by decide +kernel⟩
theorem sc18 : FnScope N18 ["volume"] (defScope s18) := ⟨rfl, rfl, rfl, by decide +kernel, rfl, by decide +kernel, by decide +kernel⟩
theorem sc19 : FnScope N19 ["one", "other"] (defScope s19) := ⟨rfl, rfl, rfl, by decide +kernel, rfl, by decide +kernel, by decide +kernel⟩
theorem sc20 : FnScope N20 ["things"] (defScope s20) := ⟨rfl, rfl, rfl, by decide +kernel, rfl, by decide +kernel, by decide +kernel⟩
theorem sc21 : FnScope N21 ["script", "k"] (defScope s21) := ⟨rfl, rfl, rfl, by decide +kernel, rfl, by decide +kernel, by decide +kernel⟩
theorem sc22 : FnScope N22 ["cell"] (defScope s22) := ⟨rfl, rfl, rfl, by decide +kernel, rfl, by decide +kernel, by decide +kernel⟩
theorem sc23 : FnScope N23 ["box", "many"] (defScope s23) := ⟨rfl, rfl, rfl, by decide +kernel, rfl, by decide +kernel, by decide +kernel⟩
theorem sc24 : FnScope N24 ["box", "most"] (defScope s24) := ⟨rfl, rfl, rfl, by decide +kernel, rfl, by decide +kernel, by decide +kernel⟩
theorem sc25 : FnScope N25 ["box"] (defScope s25) := ⟨rfl, rfl, rfl, by decide +kernel, rfl, by decide +kernel, by decide +kernel⟩
theorem sc26 : FnScope N26 ["box"] (defScope s26) := ⟨rfl, rfl, rfl, by decide +kernel, rfl, by decide +kernel, by decide +kernel⟩
theorem sc27 : FnScope N27 ["box", "parts"] (defScope s27) := ⟨rfl, rfl, rfl, by decide +kernel, rfl, by decide +kernel, by decide +kernel⟩
theorem sc28 : FnScope N28 ["parts"] (defScope s28) := ⟨rfl, rfl, rfl, by decide +kernel, rfl, by decide +kernel, by decide +kernel⟩
theorem sc29 : FnScope N29 ["one", "other"] (defScope s29) := ⟨rfl, rfl, rfl, by decide +kernel, rfl, by decide +kernel, by decide +kernel⟩
theorem sc30 : FnScope N30 ["one", "other"] (defScope s30) := ⟨rfl, rfl, rfl, by decide +kernel, rfl, by decide +kernel, by decide +kernel⟩
theorem sc31 : FnScope N31 ["box", "many"] (defScope s31) := ⟨rfl, rfl, rfl, by decide +kernel, rfl, by decide +kernel, by decide +kernel⟩
theorem sc32 : FnScope N32 ["box", "many"] (defScope s32) := ⟨rfl, rfl, rfl, by decide +kernel, rfl, by decide +kernel, by decide +kernel⟩
theorem sc33 : FnScope N33 ["box"] (defScope s33) := ⟨rfl, rfl, rfl, by decide +kernel, rfl, by decide +kernel, by decide +kernel⟩
theorem sc34 : FnScope N34 ["box", "many"] (defScope s34) := ⟨rfl, rfl, rfl, by decide +kernel, rfl, by decide +kernel, by decide +kernel⟩
theorem sc35 : FnScope N35 ["mark"] (defScope s35) := ⟨rfl, rfl, rfl, by decide +kernel, rfl, by decide +kernel, by decide +kernel⟩
theorem sc36 : FnScope N36 ["one", "other"] (defScope s36) := ⟨rfl, rfl, rfl, by decide +kernel, rfl, by decide +kernel, by decide +kernel⟩
theorem sc37 : FnScope N37 ["volumes"] (defScope s37) := ⟨rfl, rfl, rfl, by decide +kernel, rfl, by decide +kernel, by decide +kernel⟩
theorem sc38 : FnScope N38 ["box", "volume"] (defScope s38) := ⟨rfl, rfl, rfl, by decide +kernel, rfl, by decide +kernel, by decide +kernel⟩
theorem sc39 : FnScope N39 ["thing"] (defScope s39) := ⟨rfl, rfl, rfl, by decide +kernel, rfl, by decide +kernel, by decide +kernel⟩
theorem sc40 : FnScope N40 ["one", "other"] (defScope s40) := ⟨rfl, rfl, rfl, by decide +kernel, rfl, by decide +kernel, by decide +kernel⟩
theorem sc41 : FnScope N41 ["volumes"] (defScope s41) := ⟨rfl, rfl, rfl, by decide +kernel, rfl, by decide +kernel, by decide +kernel⟩
theorem sc42 : FnScope N42 ["things"] (defScope s42) := ⟨rfl, rfl, rfl, by decide +kernel, rfl, by decide +kernel, by decide +kernel⟩
theorem sc43 : FnScope N43 ["box", "volumes"] (defScope s43) := ⟨rfl, rfl, rfl, by decide +kernel, rfl, by decide +kernel, by decide +kernel⟩
theorem sc44 : FnScope N44 ["script"] (defScope s44) := ⟨rfl, rfl, rfl, by decide +kernel, rfl, by decide +kernel, by decide +kernel⟩
/-- what stands fast for every def -/
structure Tx (P : Program) (w : World) (K : PySem.W.Frag) (mg : Str → Option Value) (base : PySem.Heap) (t : Th) (k : Nat) : Prop where
  sm : ∃ mm, base.Ns sysModules mm
  px : t.ex = none
  r_NoMark : CE P w K mg base t "NoMark" 0 ["found"]
  r_NoName : CE P w K mg base t "NoName" 1 ["found"]
  r_NoNumber : CE P w K mg base t "NoNumber" 2 ["found"]
  r_NoVolume : CE P w K mg base t "NoVolume" 3 ["found"]
  h_ShelvesError : HE K mg t "ShelvesError" [0, 1, 2, 3]
  h_NoNumber : HE K mg t "NoNumber" [2]
  h_NoMark : HE K mg t "NoMark" [0]
  h_NoName : HE K mg t "NoName" [1]
  h_NoVolume : HE K mg t "NoVolume" [3]
  e_NoNumber_found : FE K t [2] "found"
  e_NoMark_found : FE K t [0] "found"
  e_NoName_found : FE K t [1] "found"
  e_NoVolume_found : FE K t [3] "found"
  n_all : mg "all" = none
  n_bool : mg "bool" = none
  n_int : mg "int" = none
  n_isinstance : mg "isinstance" = none
  n_len : mg "len" = none
  n_list : mg "list" = none
  n_max : mg "max" = none
  n_min : mg "min" = none
  n_range : mg "range" = none
  n_repr : mg "repr" = none
  n_str : mg "str" = none
  n_tuple : mg "tuple" = none
  n_zip : mg "zip" = none
  c_FIGURES : ∃ u, mg "FIGURES" = some (.str "0123456789" u)
  c_LETTERS : ∃ u, mg "LETTERS" = some (.str "abcdefghijklmnopqrstuvwxyz" u)
  c_MOST_LETTERS : ∃ u, mg "MOST_LETTERS" = some (.int 6 u)
  c_MOST_NUMBER : ∃ u, mg "MOST_NUMBER" = some (.int 999999 u)
  c_MOST_PARTS : ∃ u, mg "MOST_PARTS" = some (.int 4 u)
  c_MOST_SIGNS : ∃ u, mg "MOST_SIGNS" = some (.int 8 u)
  c_MOST_SIZE : ∃ u, mg "MOST_SIZE" = some (.int 9 u)
  c_MOST_WIDTH : ∃ u, mg "MOST_WIDTH" = some (.int 99 u)
  f_is_whole : CF P w K mg base t (k + 3) "is_whole" (mOf D gl t.S k d0)
  f_is_letters : CF P w K mg base t (k + 3) "is_letters" (mOf D gl t.S k d1)
  f_is_name : CF P w K mg base t (k + 3) "is_name" (mOf D gl t.S k d2)
  f_whole_in : CF P w K mg base t (k + 3) "whole_in" (mOf D gl t.S k d3)
  f_part_in : CF P w K mg base t (k + 3) "part_in" (mOf D gl t.S k d4)
  f_parts_in : CF P w K mg base t (k + 3) "parts_in" (mOf D gl t.S k d5)
  f_is_mark : CF P w K mg base t (k + 3) "is_mark" (mOf D gl t.S k d6)
  f_mark_parts : CF P w K mg base t (k + 3) "mark_parts" (mOf D gl t.S k d7)
  f_part_rank : CF P w K mg base t (k + 3) "part_rank" (mOf D gl t.S k d8)
  f_mark_rank : CF P w K mg base t (k + 3) "mark_rank" (mOf D gl t.S k d9)
  f_is_size : CF P w K mg base t (k + 3) "is_size" (mOf D gl t.S k d10)
  f_is_width : CF P w K mg base t (k + 3) "is_width" (mOf D gl t.S k d11)
  f_need_name : CF P w K mg base t (k + 3) "need_name" (mOf D gl t.S k d12)
  f_need_mark : CF P w K mg base t (k + 3) "need_mark" (mOf D gl t.S k d13)
  f_need_size : CF P w K mg base t (k + 3) "need_size" (mOf D gl t.S k d14)
  f_need_width : CF P w K mg base t (k + 3) "need_width" (mOf D gl t.S k d15)
  f_need_volume : CF P w K mg base t (k + 3) "need_volume" (mOf D gl t.S k d16)
  f_is_volume : CF P w K mg base t (k + 3) "is_volume" (mOf D gl t.S k d17)
  f_volume_rank : CF P w K mg base t (k + 3) "volume_rank" (mOf D gl t.S k d18)
  f_volume_ahead : CF P w K mg base t (k + 3) "volume_ahead" (mOf D gl t.S k d19)
  f_are_in_order : CF P w K mg base t (k + 3) "are_in_order" (mOf D gl t.S k d20)
  f__law_cell : CF P w K mg base t (k + 3) "_law_cell" (mOf D gl t.S k d21)
  f__law_box : CF P w K mg base t (k + 3) "_law_box" (mOf D gl t.S k d22)
  f__law_take : CF P w K mg base t (k + 3) "_law_take" (mOf D gl t.S k d23)
  f__law_letters : CF P w K mg base t (k + 3) "_law_letters" (mOf D gl t.S k d24)
  f__law_part : CF P w K mg base t (k + 3) "_law_part" (mOf D gl t.S k d25)
  f__law_parts : CF P w K mg base t (k + 3) "_law_parts" (mOf D gl t.S k d26)
  f__law_near : CF P w K mg base t (k + 3) "_law_near" (mOf D gl t.S k d27)
  f__law_mark : CF P w K mg base t (k + 3) "_law_mark" (mOf D gl t.S k d28)
  f__law_part_ahead : CF P w K mg base t (k + 3) "_law_part_ahead" (mOf D gl t.S k d29)
  f__law_parts_ahead : CF P w K mg base t (k + 3) "_law_parts_ahead" (mOf D gl t.S k d30)
  f__law_names : CF P w K mg base t (k + 3) "_law_names" (mOf D gl t.S k d31)
  f__law_marks : CF P w K mg base t (k + 3) "_law_marks" (mOf D gl t.S k d32)
  f__law_width : CF P w K mg base t (k + 3) "_law_width" (mOf D gl t.S k d33)
  f__law_drawn_volumes : CF P w K mg base t (k + 3) "_law_drawn_volumes" (mOf D gl t.S k d34)
  f__law_read_parts : CF P w K mg base t (k + 3) "_law_read_parts" (mOf D gl t.S k d35)
  f__law_ahead : CF P w K mg base t (k + 3) "_law_ahead" (mOf D gl t.S k d36)
  f__law_sorted : CF P w K mg base t (k + 3) "_law_sorted" (mOf D gl t.S k d37)
  f__law_bad : CF P w K mg base t (k + 3) "_law_bad" (mOf D gl t.S k d38)
  f__law_due : CF P w K mg base t (k + 3) "_law_due" (mOf D gl t.S k d39)
  f__law_told : CF P w K mg base t (k + 3) "_law_told" (mOf D gl t.S k d40)
  f__law_pairs_right : CF P w K mg base t (k + 3) "_law_pairs_right" (mOf D gl t.S k d41)
  f__law_row_due : CF P w K mg base t (k + 3) "_law_row_due" (mOf D gl t.S k d42)
  f__law_row_right : CF P w K mg base t (k + 3) "_law_row_right" (mOf D gl t.S k d43)
  f_law : CF P w K mg base t (k + 3) "law" (mOf D gl t.S k d44)
section
variable {P : Program} {w : World} {K : PySem.W.Frag} {mg : Str → Option Value} {base : PySem.Heap} {t : Th} {k : Nat} {f : Addr} {cdv : Value} {A : Around} {outer : List Env} {s : Shared} {H : Hp} {E : XK}
theorem w0 (T : Tx P w K mg base t k) (O : OkC (cxOf (L2.CX P w) P w K mg base N0 "is_whole" (defScope s0) f cdv A outer s H E) t (WE E)) (hr : Room (k + 3) (A.deeper (envOfC "is_whole" (defScope s0) s.heap.objs.size f cdv))) :
    PSs (cxOf (L2.CX P w) P w K mg base N0 "is_whole" (defScope s0) f cdv A outer s H E) (defBody s0) (tS t (WE E) (exes ⟨calls D gl t.S k, gl, t.S, none⟩ b0)) :=
  ss_cons (s_ret (e_and O.ok (e_pri O.ok (cl_isinst O.hK) bt_isinstance T.n_isinstance (a_cons O.ok (e_var O.ok (i := 0)) (a_cons O.ok (e_ty O.ok rfl T.n_int bt_int) (a_nil O.ok)))) (e_and O.ok (e_not O.ok (e_pri O.ok (cl_isinst O.hK) bt_isinstance T.n_isinstance (a_cons O.ok (e_var O.ok (i := 0)) (a_cons O.ok (e_ty O.ok rfl T.n_bool bt_bool) (a_nil O.ok))))) (e_one O.ok (e_chn O.ok (q_le O.ok) (q_le O.ok) (fun _ _ _ => bB rfl) (e_var O.ok (i := 1)) (e_var O.ok (i := 0)) (e_var O.ok (i := 2))))))) (ss_nil)
theorem w1 (T : Tx P w K mg base t k) (O : OkC (cxOf (L2.CX P w) P w K mg base N1 "is_letters" (defScope s1) f cdv A outer s H E) t (WE E)) (hr : Room (k + 3) (A.deeper (envOfC "is_letters" (defScope s1) s.heap.objs.size f cdv))) :
    PSs (cxOf (L2.CX P w) P w K mg base N1 "is_letters" (defScope s1) f cdv A outer s H E) (defBody s1) (tS t (WE E) (exes ⟨calls D gl t.S k, gl, t.S, none⟩ b1)) :=
  ss_cons (s_ite (PW.pt (w_or O.ok (t_not O.ok (t_plain O.ok (e_pri O.ok (cl_isinst O.hK) bt_isinstance T.n_isinstance (a_cons O.ok (e_var O.ok (i := 0)) (a_cons O.ok (e_ty O.ok rfl T.n_str bt_str) (a_nil O.ok)))))) (w_or1 O.ok (t_not O.ok (t_chn O.ok (q_le O.ok) (q_le O.ok) (fun _ _ _ => bB rfl) (fun _ _ _ => bB rfl) (e_int O.ok) (e_pri O.ok (cl_len O.hK rfl) bt_len T.n_len (a_cons O.ok (e_var O.ok (i := 0)) (a_nil O.ok))) (e_var O.ok (i := 1))))))) (ss_cons (s_ret (e_bl O.ok)) (ss_nil)) (ss_nil)) (ss_cons (s_ret (e_pri O.ok (cl_all O.hK O.calm) bt_all T.n_all (a_cons O.ok (e_lc O (own := [("sign", 2)]) (i_val O (e_var O.ok (i := 0))) (blkOk_by (by show blkC N1 (defScope s1) _ _ = true; decide +kernel)) (by decide) (fun _ _ _ _ _ O => g_nm O.ok (j := 2)) (fun _ _ _ _ _ O => c_none) (fun _ _ _ _ _ O => e_cmp O.ok (q_in_ O.ok) (e_var O.ok (i := 2)) (e_glbS O.ok rfl T.c_LETTERS rfl) (by rfl))) (a_nil O.ok)))) (ss_nil))
theorem w2 (T : Tx P w K mg base t k) (O : OkC (cxOf (L2.CX P w) P w K mg base N2 "is_name" (defScope s2) f cdv A outer s H E) t (WE E)) (hr : Room (k + 3) (A.deeper (envOfC "is_name" (defScope s2) s.heap.objs.size f cdv))) :
    PSs (cxOf (L2.CX P w) P w K mg base N2 "is_name" (defScope s2) f cdv A outer s H E) (defBody s2) (tS t (WE E) (exes ⟨calls D gl t.S k, gl, t.S, none⟩ b2)) :=
  ss_cons (s_ret (e_cal O.ok (T.f_is_letters.n) hr (a_cons O.ok (e_var O.ok (i := 0)) (a_cons O.ok (e_glbI O.ok rfl T.c_MOST_SIGNS rfl) (a_nil O.ok))) (calls_eq rfl rfl))) (ss_nil)
theorem w3 (T : Tx P w K mg base t k) (O : OkC (cxOf (L2.CX P w) P w K mg base N3 "whole_in" (defScope s3) f cdv A outer s H E) t (WE E)) (hr : Room (k + 3) (A.deeper (envOfC "whole_in" (defScope s3) s.heap.objs.size f cdv))) :
    PSs (cxOf (L2.CX P w) P w K mg base N3 "whole_in" (defScope s3) f cdv A outer s H E) (defBody s3) (tS t (WE E) (exes ⟨calls D gl t.S k, gl, t.S, none⟩ b3)) :=
  ss_cons (s_ite (PW.pt (w_or O.ok (t_not O.ok (t_plain O.ok (e_pri O.ok (cl_isinst O.hK) bt_isinstance T.n_isinstance (a_cons O.ok (e_var O.ok (i := 0)) (a_cons O.ok (e_ty O.ok rfl T.n_str bt_str) (a_nil O.ok)))))) (w_or O.ok (t_cmp O.ok (q_eq O.ok) (fun _ _ _ => bB rfl) (e_var O.ok (i := 0)) (e_str O.ok) (nomark _)) (w_or1 O.ok (t_not O.ok (t_plain O.ok (e_pri O.ok (cl_all O.hK O.calm) bt_all T.n_all (a_cons O.ok (e_lc O (own := [("sign", 3)]) (i_val O (e_var O.ok (i := 0))) (blkOk_by (by show blkC N3 (defScope s3) _ _ = true; decide +kernel)) (by decide) (fun _ _ _ _ _ O => g_nm O.ok (j := 3)) (fun _ _ _ _ _ O => c_none) (fun _ _ _ _ _ O => e_cmp O.ok (q_in_ O.ok) (e_var O.ok (i := 3)) (e_glbS O.ok rfl T.c_FIGURES rfl) (by rfl))) (a_nil O.ok))))))))) (ss_cons (s_ret (e_non O.ok)) (ss_nil)) (ss_nil)) (ss_cons (s_ite (PW.pt (w_or O.ok (PW.pt (w_and O.ok (t_cmp O.ok (q_eq O.ok) (fun _ _ _ => bB rfl) (e_idx O.ok rfl (e_var O.ok (i := 0)) (e_int O.ok)) (e_str O.ok) (nomark _)) (w_and1 O.ok (t_cmp O.ok (q_ne O.ok) (fun _ _ _ => bB rfl) (e_var O.ok (i := 0)) (e_str O.ok) (nomark _))))) (w_or1 O.ok (t_cmp O.ok (q_gt O.ok) (fun _ _ _ => bB rfl) (e_pri O.ok (cl_len O.hK rfl) bt_len T.n_len (a_cons O.ok (e_var O.ok (i := 0)) (a_nil O.ok))) (e_pri O.ok (cl_len O.hK rfl) bt_len T.n_len (a_cons O.ok (e_prt O.ok (cl_str) bt_str T.n_str (a_cons O.ok (e_var O.ok (i := 2)) (a_nil O.ok))) (a_nil O.ok))) (nomark _))))) (ss_cons (s_ret (e_non O.ok)) (ss_nil)) (ss_nil)) (ss_cons (s_asg (e_prt O.ok (cl_int) bt_int T.n_int (a_cons O.ok (e_var O.ok (i := 0)) (a_nil O.ok))) (g_nm O.ok (j := 4))) (ss_cons (s_ret (e_ite O.ok (t_chn O.ok (q_le O.ok) (q_le O.ok) (fun _ _ _ => bB rfl) (fun _ _ _ => bB rfl) (e_var O.ok (i := 1)) (e_var O.ok (i := 4)) (e_var O.ok (i := 2))) (e_var O.ok (i := 4)) (e_non O.ok))) (ss_nil))))
theorem w4 (T : Tx P w K mg base t k) (O : OkC (cxOf (L2.CX P w) P w K mg base N4 "part_in" (defScope s4) f cdv A outer s H E) t (WE E)) (hr : Room (k + 3) (A.deeper (envOfC "part_in" (defScope s4) s.heap.objs.size f cdv))) :
    PSs (cxOf (L2.CX P w) P w K mg base N4 "part_in" (defScope s4) f cdv A outer s H E) (defBody s4) (tS t (WE E) (exes ⟨calls D gl t.S k, gl, t.S, none⟩ b4)) :=
  ss_cons (s_asg (e_cal O.ok (T.f_whole_in.n) hr (a_cons O.ok (e_var O.ok (i := 0)) (a_cons O.ok (e_int O.ok) (a_cons O.ok (e_glbI O.ok rfl T.c_MOST_NUMBER rfl) (a_nil O.ok)))) (calls_eq rfl rfl)) (g_nm O.ok (j := 1))) (ss_cons (s_ite (t_cmp O.ok (q_isnot O.ok) (fun _ _ _ => bB rfl) (e_var O.ok (i := 1)) (e_non O.ok) (nomark _)) (ss_cons (s_ret (e_var O.ok (i := 1))) (ss_nil)) (ss_nil)) (ss_cons (s_ret (e_ite O.ok (t_plain O.ok (e_cal O.ok (T.f_is_letters.n) hr (a_cons O.ok (e_var O.ok (i := 0)) (a_cons O.ok (e_glbI O.ok rfl T.c_MOST_LETTERS rfl) (a_nil O.ok))) (calls_eq rfl rfl))) (e_var O.ok (i := 0)) (e_non O.ok))) (ss_nil)))
theorem w5 (T : Tx P w K mg base t k) (O : OkC (cxOf (L2.CX P w) P w K mg base N5 "parts_in" (defScope s5) f cdv A outer s H E) t (WE E)) (hr : Room (k + 3) (A.deeper (envOfC "parts_in" (defScope s5) s.heap.objs.size f cdv))) :
    PSs (cxOf (L2.CX P w) P w K mg base N5 "parts_in" (defScope s5) f cdv A outer s H E) (defBody s5) (tS t (WE E) (exes ⟨calls D gl t.S k, gl, t.S, none⟩ b5)) :=
  ss_cons (s_ite (t_not O.ok (t_plain O.ok (e_pri O.ok (cl_isinst O.hK) bt_isinstance T.n_isinstance (a_cons O.ok (e_var O.ok (i := 0)) (a_cons O.ok (e_ty O.ok rfl T.n_str bt_str) (a_nil O.ok)))))) (ss_cons (s_ret (e_non O.ok)) (ss_nil)) (ss_nil)) (ss_cons (s_asgLc (j := 1) O (own := [("text", 2)]) (i_val O (e_met O.ok PySem.F.plainAttrs_str PySem.F.slot_str_split PySem.F.type_str_split mt_split' (e_var O.ok (i := 0)) (a_cons O.ok (e_str O.ok) (a_nil O.ok)))) (blkOk_by (by show blkC N5 (defScope s5) _ _ = true; decide +kernel)) (by decide) (fun _ _ _ _ _ O => g_nm O.ok (j := 2)) (fun _ _ _ _ _ O => c_none) (fun _ _ _ _ _ O => e_cal O.ok (T.f_part_in.n) hr (a_cons O.ok (e_var O.ok (i := 2)) (a_nil O.ok)) (calls_eq rfl rfl)) (sw_true rfl rfl rfl (by decide +kernel))) (ss_cons (s_ret (e_ite O.ok (PW.pt (w_or O.ok (t_cmp O.ok (q_in_ O.ok) (fun _ _ _ => bB rfl) (e_non O.ok) (e_var O.ok (i := 1)) (by rfl)) (w_or1 O.ok (t_cmp O.ok (q_gt O.ok) (fun _ _ _ => bB rfl) (e_pri O.ok (cl_len O.hK rfl) bt_len T.n_len (a_cons O.ok (e_var O.ok (i := 1)) (a_nil O.ok))) (e_glbI O.ok rfl T.c_MOST_PARTS rfl) (nomark _))))) (e_non O.ok) (e_var O.ok (i := 1)))) (ss_nil)))
theorem w6 (T : Tx P w K mg base t k) (O : OkC (cxOf (L2.CX P w) P w K mg base N6 "is_mark" (defScope s6) f cdv A outer s H E) t (WE E)) (hr : Room (k + 3) (A.deeper (envOfC "is_mark" (defScope s6) s.heap.objs.size f cdv))) :
    PSs (cxOf (L2.CX P w) P w K mg base N6 "is_mark" (defScope s6) f cdv A outer s H E) (defBody s6) (tS t (WE E) (exes ⟨calls D gl t.S k, gl, t.S, none⟩ b6)) :=
  ss_cons (s_ret (e_cmp O.ok (q_isnot O.ok) (e_cal O.ok (T.f_parts_in.n) hr (a_cons O.ok (e_var O.ok (i := 0)) (a_nil O.ok)) (calls_eq rfl rfl)) (e_non O.ok) (nomark _))) (ss_nil)
theorem w7 (T : Tx P w K mg base t k) (O : OkC (cxOf (L2.CX P w) P w K mg base N7 "mark_parts" (defScope s7) f cdv A outer s H E) t (WE E)) (hr : Room (k + 3) (A.deeper (envOfC "mark_parts" (defScope s7) s.heap.objs.size f cdv))) :
    PSs (cxOf (L2.CX P w) P w K mg base N7 "mark_parts" (defScope s7) f cdv A outer s H E) (defBody s7) (tS t (WE E) (exes ⟨calls D gl t.S k, gl, t.S, none⟩ b7)) :=
  ss_cons (s_asg (e_cal O.ok (T.f_parts_in.n) hr (a_cons O.ok (e_var O.ok (i := 0)) (a_nil O.ok)) (calls_eq rfl rfl)) (g_nm O.ok (j := 1))) (ss_cons (s_ite (t_cmp O.ok (q_is O.ok) (fun _ _ _ => bB rfl) (e_var O.ok (i := 1)) (e_non O.ok) (nomark _)) (ss_cons (s_rse O T.r_NoMark hr (a_cons O.ok (e_var O.ok (i := 0)) (a_nil O.ok))) (ss_nil)) (ss_nil)) (ss_cons (s_ret (e_var O.ok (i := 1))) (ss_nil)))
theorem w8 (T : Tx P w K mg base t k) (O : OkC (cxOf (L2.CX P w) P w K mg base N8 "part_rank" (defScope s8) f cdv A outer s H E) t (WE E)) (hr : Room (k + 3) (A.deeper (envOfC "part_rank" (defScope s8) s.heap.objs.size f cdv))) :
    PSs (cxOf (L2.CX P w) P w K mg base N8 "part_rank" (defScope s8) f cdv A outer s H E) (defBody s8) (tS t (WE E) (exes ⟨calls D gl t.S k, gl, t.S, none⟩ b8)) :=
  ss_cons (s_ret (e_ite O.ok (t_plain O.ok (e_pri O.ok (cl_isinst O.hK) bt_isinstance T.n_isinstance (a_cons O.ok (e_var O.ok (i := 0)) (a_cons O.ok (e_ty O.ok rfl T.n_int bt_int) (a_nil O.ok))))) (e_tup O.ok (a_cons O.ok (e_int O.ok) (a_cons O.ok (e_var O.ok (i := 0)) (a_cons O.ok (e_str O.ok) (a_nil O.ok))))) (e_tup O.ok (a_cons O.ok (e_int O.ok) (a_cons O.ok (e_int O.ok) (a_cons O.ok (e_var O.ok (i := 0)) (a_nil O.ok))))))) (ss_nil)
theorem w9 (T : Tx P w K mg base t k) (O : OkC (cxOf (L2.CX P w) P w K mg base N9 "mark_rank" (defScope s9) f cdv A outer s H E) t (WE E)) (hr : Room (k + 3) (A.deeper (envOfC "mark_rank" (defScope s9) s.heap.objs.size f cdv))) :
    PSs (cxOf (L2.CX P w) P w K mg base N9 "mark_rank" (defScope s9) f cdv A outer s H E) (defBody s9) (tS t (WE E) (exes ⟨calls D gl t.S k, gl, t.S, none⟩ b9)) :=
  ss_cons (s_ret (e_lc O (own := [("part", 1)]) (i_val O (e_cal O.ok (T.f_mark_parts.n) hr (a_cons O.ok (e_var O.ok (i := 0)) (a_nil O.ok)) (calls_eq rfl rfl))) (blkOk_by (by show blkC N9 (defScope s9) _ _ = true; decide +kernel)) (by decide) (fun _ _ _ _ _ O => g_nm O.ok (j := 1)) (fun _ _ _ _ _ O => c_none) (fun _ _ _ _ _ O => e_cal O.ok (T.f_part_rank.n) hr (a_cons O.ok (e_var O.ok (i := 1)) (a_nil O.ok)) (calls_eq rfl rfl)))) (ss_nil)
theorem w10 (T : Tx P w K mg base t k) (O : OkC (cxOf (L2.CX P w) P w K mg base N10 "is_size" (defScope s10) f cdv A outer s H E) t (WE E)) (hr : Room (k + 3) (A.deeper (envOfC "is_size" (defScope s10) s.heap.objs.size f cdv))) :
    PSs (cxOf (L2.CX P w) P w K mg base N10 "is_size" (defScope s10) f cdv A outer s H E) (defBody s10) (tS t (WE E) (exes ⟨calls D gl t.S k, gl, t.S, none⟩ b10)) :=
  ss_cons (s_ret (e_cal O.ok (T.f_is_whole.n) hr (a_cons O.ok (e_var O.ok (i := 0)) (a_cons O.ok (e_int O.ok) (a_cons O.ok (e_glbI O.ok rfl T.c_MOST_SIZE rfl) (a_nil O.ok)))) (calls_eq rfl rfl))) (ss_nil)
theorem w11 (T : Tx P w K mg base t k) (O : OkC (cxOf (L2.CX P w) P w K mg base N11 "is_width" (defScope s11) f cdv A outer s H E) t (WE E)) (hr : Room (k + 3) (A.deeper (envOfC "is_width" (defScope s11) s.heap.objs.size f cdv))) :
    PSs (cxOf (L2.CX P w) P w K mg base N11 "is_width" (defScope s11) f cdv A outer s H E) (defBody s11) (tS t (WE E) (exes ⟨calls D gl t.S k, gl, t.S, none⟩ b11)) :=
  ss_cons (s_ret (e_cal O.ok (T.f_is_whole.n) hr (a_cons O.ok (e_var O.ok (i := 0)) (a_cons O.ok (e_int O.ok) (a_cons O.ok (e_glbI O.ok rfl T.c_MOST_WIDTH rfl) (a_nil O.ok)))) (calls_eq rfl rfl))) (ss_nil)
theorem w12 (T : Tx P w K mg base t k) (O : OkC (cxOf (L2.CX P w) P w K mg base N12 "need_name" (defScope s12) f cdv A outer s H E) t (WE E)) (hr : Room (k + 3) (A.deeper (envOfC "need_name" (defScope s12) s.heap.objs.size f cdv))) :
    PSs (cxOf (L2.CX P w) P w K mg base N12 "need_name" (defScope s12) f cdv A outer s H E) (defBody s12) (tS t (WE E) (exes ⟨calls D gl t.S k, gl, t.S, none⟩ b12)) :=
  ss_cons (s_ite (t_not O.ok (t_plain O.ok (e_cal O.ok (T.f_is_name.n) hr (a_cons O.ok (e_var O.ok (i := 0)) (a_nil O.ok)) (calls_eq rfl rfl)))) (ss_cons (s_rse O T.r_NoName hr (a_cons O.ok (e_var O.ok (i := 0)) (a_nil O.ok))) (ss_nil)) (ss_nil)) (ss_nil)
theorem w13 (T : Tx P w K mg base t k) (O : OkC (cxOf (L2.CX P w) P w K mg base N13 "need_mark" (defScope s13) f cdv A outer s H E) t (WE E)) (hr : Room (k + 3) (A.deeper (envOfC "need_mark" (defScope s13) s.heap.objs.size f cdv))) :
    PSs (cxOf (L2.CX P w) P w K mg base N13 "need_mark" (defScope s13) f cdv A outer s H E) (defBody s13) (tS t (WE E) (exes ⟨calls D gl t.S k, gl, t.S, none⟩ b13)) :=
  ss_cons (s_ite (t_not O.ok (t_plain O.ok (e_cal O.ok (T.f_is_mark.n) hr (a_cons O.ok (e_var O.ok (i := 0)) (a_nil O.ok)) (calls_eq rfl rfl)))) (ss_cons (s_rse O T.r_NoMark hr (a_cons O.ok (e_var O.ok (i := 0)) (a_nil O.ok))) (ss_nil)) (ss_nil)) (ss_nil)
theorem w14 (T : Tx P w K mg base t k) (O : OkC (cxOf (L2.CX P w) P w K mg base N14 "need_size" (defScope s14) f cdv A outer s H E) t (WE E)) (hr : Room (k + 3) (A.deeper (envOfC "need_size" (defScope s14) s.heap.objs.size f cdv))) :
    PSs (cxOf (L2.CX P w) P w K mg base N14 "need_size" (defScope s14) f cdv A outer s H E) (defBody s14) (tS t (WE E) (exes ⟨calls D gl t.S k, gl, t.S, none⟩ b14)) :=
  ss_cons (s_ite (t_not O.ok (t_plain O.ok (e_cal O.ok (T.f_is_size.n) hr (a_cons O.ok (e_var O.ok (i := 0)) (a_nil O.ok)) (calls_eq rfl rfl)))) (ss_cons (s_rse O T.r_NoNumber hr (a_cons O.ok (e_var O.ok (i := 0)) (a_nil O.ok))) (ss_nil)) (ss_nil)) (ss_nil)
theorem w15 (T : Tx P w K mg base t k) (O : OkC (cxOf (L2.CX P w) P w K mg base N15 "need_width" (defScope s15) f cdv A outer s H E) t (WE E)) (hr : Room (k + 3) (A.deeper (envOfC "need_width" (defScope s15) s.heap.objs.size f cdv))) :
    PSs (cxOf (L2.CX P w) P w K mg base N15 "need_width" (defScope s15) f cdv A outer s H E) (defBody s15) (tS t (WE E) (exes ⟨calls D gl t.S k, gl, t.S, none⟩ b15)) :=
  ss_cons (s_ite (t_not O.ok (t_plain O.ok (e_cal O.ok (T.f_is_width.n) hr (a_cons O.ok (e_var O.ok (i := 0)) (a_nil O.ok)) (calls_eq rfl rfl)))) (ss_cons (s_rse O T.r_NoNumber hr (a_cons O.ok (e_var O.ok (i := 0)) (a_nil O.ok))) (ss_nil)) (ss_nil)) (ss_nil)
theorem w16 (T : Tx P w K mg base t k) (O : OkC (cxOf (L2.CX P w) P w K mg base N16 "need_volume" (defScope s16) f cdv A outer s H E) t (WE E)) (hr : Room (k + 3) (A.deeper (envOfC "need_volume" (defScope s16) s.heap.objs.size f cdv))) :
    PSs (cxOf (L2.CX P w) P w K mg base N16 "need_volume" (defScope s16) f cdv A outer s H E) (defBody s16) (tS t (WE E) (exes ⟨calls D gl t.S k, gl, t.S, none⟩ b16)) :=
  ss_cons (s_ite (PW.pt (w_or O.ok (t_not O.ok (t_plain O.ok (e_pri O.ok (cl_isinst O.hK) bt_isinstance T.n_isinstance (a_cons O.ok (e_var O.ok (i := 0)) (a_cons O.ok (e_ty O.ok rfl T.n_tuple bt_tuple) (a_nil O.ok)))))) (w_or1 O.ok (t_cmp O.ok (q_ne O.ok) (fun _ _ _ => bB rfl) (e_pri O.ok (cl_len O.hK rfl) bt_len T.n_len (a_cons O.ok (e_var O.ok (i := 0)) (a_nil O.ok))) (e_int O.ok) (nomark _))))) (ss_cons (s_rse O T.r_NoVolume hr (a_cons O.ok (e_var O.ok (i := 0)) (a_nil O.ok))) (ss_nil)) (ss_nil)) (ss_cons (s_asg (e_var O.ok (i := 0)) (g_tp O (gs_cons O.ok (j := 1) (gs_cons O.ok (j := 2) (gs_cons O.ok (j := 3) (gs_cons O.ok (j := 4) (gs_nil))))))) (ss_cons (s_exp (e_cal O.ok (T.f_need_name.n) hr (a_cons O.ok (e_var O.ok (i := 1)) (a_nil O.ok)) (calls_eq rfl rfl))) (ss_cons (s_exp (e_cal O.ok (T.f_need_mark.n) hr (a_cons O.ok (e_var O.ok (i := 2)) (a_nil O.ok)) (calls_eq rfl rfl))) (ss_cons (s_exp (e_cal O.ok (T.f_need_size.n) hr (a_cons O.ok (e_var O.ok (i := 3)) (a_nil O.ok)) (calls_eq rfl rfl))) (ss_cons (s_exp (e_cal O.ok (T.f_need_width.n) hr (a_cons O.ok (e_var O.ok (i := 4)) (a_nil O.ok)) (calls_eq rfl rfl))) (ss_nil))))))
theorem w17 (T : Tx P w K mg base t k) (O : OkC (cxOf (L2.CX P w) P w K mg base N17 "is_volume" (defScope s17) f cdv A outer s H E) t (WE E)) (hr : Room (k + 3) (A.deeper (envOfC "is_volume" (defScope s17) s.heap.objs.size f cdv))) :
    PSs (cxOf (L2.CX P w) P w K mg base N17 "is_volume" (defScope s17) f cdv A outer s H E) (defBody s17) (tS t (WE E) (exes ⟨calls D gl t.S k, gl, t.S, none⟩ b17)) :=
  ss_cons (s_ite (PW.pt (w_or O.ok (t_not O.ok (t_plain O.ok (e_pri O.ok (cl_isinst O.hK) bt_isinstance T.n_isinstance (a_cons O.ok (e_var O.ok (i := 0)) (a_cons O.ok (e_ty O.ok rfl T.n_tuple bt_tuple) (a_nil O.ok)))))) (w_or1 O.ok (t_cmp O.ok (q_ne O.ok) (fun _ _ _ => bB rfl) (e_pri O.ok (cl_len O.hK rfl) bt_len T.n_len (a_cons O.ok (e_var O.ok (i := 0)) (a_nil O.ok))) (e_int O.ok) (nomark _))))) (ss_cons (s_ret (e_bl O.ok)) (ss_nil)) (ss_nil)) (ss_cons (s_ret (e_and O.ok (e_cal O.ok (T.f_is_name.n) hr (a_cons O.ok (e_idx O.ok rfl (e_var O.ok (i := 0)) (e_int O.ok)) (a_nil O.ok)) (calls_eq rfl rfl)) (e_and O.ok (e_cal O.ok (T.f_is_mark.n) hr (a_cons O.ok (e_idx O.ok rfl (e_var O.ok (i := 0)) (e_int O.ok)) (a_nil O.ok)) (calls_eq rfl rfl)) (e_and O.ok (e_cal O.ok (T.f_is_size.n) hr (a_cons O.ok (e_idx O.ok rfl (e_var O.ok (i := 0)) (e_int O.ok)) (a_nil O.ok)) (calls_eq rfl rfl)) (e_one O.ok (e_cal O.ok (T.f_is_width.n) hr (a_cons O.ok (e_idx O.ok rfl (e_var O.ok (i := 0)) (e_int O.ok)) (a_nil O.ok)) (calls_eq rfl rfl))))))) (ss_nil))
theorem w18 (T : Tx P w K mg base t k) (O : OkC (cxOf (L2.CX P w) P w K mg base N18 "volume_rank" (defScope s18) f cdv A outer s H E) t (WE E)) (hr : Room (k + 3) (A.deeper (envOfC "volume_rank" (defScope s18) s.heap.objs.size f cdv))) :
    PSs (cxOf (L2.CX P w) P w K mg base N18 "volume_rank" (defScope s18) f cdv A outer s H E) (defBody s18) (tS t (WE E) (exes ⟨calls D gl t.S k, gl, t.S, none⟩ b18)) :=
  ss_cons (s_asg (e_var O.ok (i := 0)) (g_tp O (gs_cons O.ok (j := 1) (gs_cons O.ok (j := 2) (gs_cons O.ok (j := 3) (gs_cons O.ok (j := 4) (gs_nil))))))) (ss_cons (s_ret (e_tup O.ok (a_cons O.ok (e_var O.ok (i := 3)) (a_cons O.ok (e_cal O.ok (T.f_mark_rank.n) hr (a_cons O.ok (e_var O.ok (i := 2)) (a_nil O.ok)) (calls_eq rfl rfl)) (a_cons O.ok (e_var O.ok (i := 1)) (a_nil O.ok)))))) (ss_nil))
theorem w19 (T : Tx P w K mg base t k) (O : OkC (cxOf (L2.CX P w) P w K mg base N19 "volume_ahead" (defScope s19) f cdv A outer s H E) t (WE E)) (hr : Room (k + 3) (A.deeper (envOfC "volume_ahead" (defScope s19) s.heap.objs.size f cdv))) :
    PSs (cxOf (L2.CX P w) P w K mg base N19 "volume_ahead" (defScope s19) f cdv A outer s H E) (defBody s19) (tS t (WE E) (exes ⟨calls D gl t.S k, gl, t.S, none⟩ b19)) :=
  ss_cons (s_exp (e_cal O.ok (T.f_need_volume.n) hr (a_cons O.ok (e_var O.ok (i := 0)) (a_nil O.ok)) (calls_eq rfl rfl))) (ss_cons (s_exp (e_cal O.ok (T.f_need_volume.n) hr (a_cons O.ok (e_var O.ok (i := 1)) (a_nil O.ok)) (calls_eq rfl rfl))) (ss_cons (s_ret (e_cmp O.ok (q_lt O.ok) (e_cal O.ok (T.f_volume_rank.n) hr (a_cons O.ok (e_var O.ok (i := 0)) (a_nil O.ok)) (calls_eq rfl rfl)) (e_cal O.ok (T.f_volume_rank.n) hr (a_cons O.ok (e_var O.ok (i := 1)) (a_nil O.ok)) (calls_eq rfl rfl)) (nomark _))) (ss_nil)))
theorem w20 (T : Tx P w K mg base t k) (O : OkC (cxOf (L2.CX P w) P w K mg base N20 "are_in_order" (defScope s20) f cdv A outer s H E) t (WE E)) (hr : Room (k + 3) (A.deeper (envOfC "are_in_order" (defScope s20) s.heap.objs.size f cdv))) :
    PSs (cxOf (L2.CX P w) P w K mg base N20 "are_in_order" (defScope s20) f cdv A outer s H E) (defBody s20) (tS t (WE E) (exes ⟨calls D gl t.S k, gl, t.S, none⟩ b20)) :=
  ss_cons (s_ite (t_not O.ok (t_plain O.ok (e_pri O.ok (cl_all O.hK O.calm) bt_all T.n_all (a_cons O.ok (e_lc O (own := [("thing", 1)]) (i_val O (e_var O.ok (i := 0))) (blkOk_by (by show blkC N20 (defScope s20) _ _ = true; decide +kernel)) (by decide) (fun _ _ _ _ _ O => g_nm O.ok (j := 1)) (fun _ _ _ _ _ O => c_none) (fun _ _ _ _ _ O => e_cal O.ok (T.f_is_volume.n) hr (a_cons O.ok (e_var O.ok (i := 1)) (a_nil O.ok)) (calls_eq rfl rfl))) (a_nil O.ok))))) (ss_cons (s_ret (e_bl O.ok)) (ss_nil)) (ss_nil)) (ss_cons (s_asg (e_dnew O.ok) (g_nm O.ok (j := 2))) (ss_cons (s_frr O (i_val O (e_var O.ok (i := 0))) (g_nm O.ok (j := 1)) (ss_cons (s_sti O.ok (e_var O.ok (i := 2)) (e_idx O.ok rfl (e_var O.ok (i := 1)) (e_int O.ok)) (e_bl O.ok)) (ss_nil))) (ss_cons (s_asgLc (j := 3) O (own := [("thing", 1)]) (i_val O (e_var O.ok (i := 0))) (blkOk_by (by show blkC N20 (defScope s20) _ _ = true; decide +kernel)) (by decide) (fun _ _ _ _ _ O => g_nm O.ok (j := 1)) (fun _ _ _ _ _ O => c_none) (fun _ _ _ _ _ O => e_cal O.ok (T.f_volume_rank.n) hr (a_cons O.ok (e_var O.ok (i := 1)) (a_nil O.ok)) (calls_eq rfl rfl)) (sw_true rfl rfl rfl (by decide +kernel))) (ss_cons (s_ret (e_and O.ok (e_cmp O.ok (q_eq O.ok) (e_pri O.ok (cl_len O.hK rfl) bt_len T.n_len (a_cons O.ok (e_var O.ok (i := 2)) (a_nil O.ok))) (e_pri O.ok (cl_len O.hK rfl) bt_len T.n_len (a_cons O.ok (e_var O.ok (i := 0)) (a_nil O.ok))) (nomark _)) (e_one O.ok (e_pri O.ok (cl_all O.hK O.calm) bt_all T.n_all (a_cons O.ok (e_lc O (own := [("one", 4), ("other", 5)]) (i_zip O T.n_zip (a_cons O.ok (e_var O.ok (i := 3)) (a_cons O.ok (e_slc O.ok (e_var O.ok (i := 3)) (o_some O.ok (e_int O.ok)) (o_none O.ok)) (a_nil O.ok)))) (blkOk_by (by show blkC N20 (defScope s20) _ _ = true; decide +kernel)) (by decide) (fun _ _ _ _ _ O => g_tp O (gs_cons O.ok (j := 4) (gs_cons O.ok (j := 5) (gs_nil)))) (fun _ _ _ _ _ O => c_none) (fun _ _ _ _ _ O => e_cmp O.ok (q_lt O.ok) (e_var O.ok (i := 4)) (e_var O.ok (i := 5)) (nomark _))) (a_nil O.ok)))))) (ss_nil)))))
theorem w21 (T : Tx P w K mg base t k) (O : OkC (cxOf (L2.CX P w) P w K mg base N21 "_law_cell" (defScope s21) f cdv A outer s H E) t (WE E)) (hr : Room (k + 3) (A.deeper (envOfC "_law_cell" (defScope s21) s.heap.objs.size f cdv))) :
    PSs (cxOf (L2.CX P w) P w K mg base N21 "_law_cell" (defScope s21) f cdv A outer s H E) (defBody s21) (tS t (WE E) (exes ⟨calls D gl t.S k, gl, t.S, none⟩ b21)) :=
  ss_cons (s_ite (t_cmp O.ok (q_lt O.ok) (fun _ _ _ => bB rfl) (e_var O.ok (i := 1)) (e_pri O.ok (cl_len O.hK rfl) bt_len T.n_len (a_cons O.ok (e_var O.ok (i := 0)) (a_nil O.ok))) (nomark _)) (ss_cons (s_ret (e_idx O.ok rfl (e_var O.ok (i := 0)) (e_var O.ok (i := 1)))) (ss_nil)) (ss_nil)) (ss_cons (s_ret (e_bin O.ok (q_add O.ok) (e_bin O.ok (q_mul O.ok) (e_int O.ok) (e_var O.ok (i := 1))) (e_int O.ok))) (ss_nil))
theorem w22 (T : Tx P w K mg base t k) (O : OkC (cxOf (L2.CX P w) P w K mg base N22 "_law_box" (defScope s22) f cdv A outer s H E) t (WE E)) (hr : Room (k + 3) (A.deeper (envOfC "_law_box" (defScope s22) s.heap.objs.size f cdv))) :
    PSs (cxOf (L2.CX P w) P w K mg base N22 "_law_box" (defScope s22) f cdv A outer s H E) (defBody s22) (tS t (WE E) (exes ⟨calls D gl t.S k, gl, t.S, none⟩ b22)) :=
  ss_cons (s_ret (e_lst O.ok (a_cons O.ok (e_pri O.ok (cl_max O.hK O.calm O.hu) bt_max T.n_max (a_cons O.ok (e_int O.ok) (a_cons O.ok (e_bin O.ok (q_sub O.ok) (e_var O.ok (i := 0)) (e_bin O.ok (q_pow O.ok) (e_int O.ok) (e_int O.ok))) (a_nil O.ok)))) (a_cons O.ok (e_bin O.ok (q_mod O.ok) (e_var O.ok (i := 0)) (e_int O.ok)) (a_cons O.ok (e_int O.ok) (a_nil O.ok)))))) (ss_nil)
theorem w23 (T : Tx P w K mg base t k) (O : OkC (cxOf (L2.CX P w) P w K mg base N23 "_law_take" (defScope s23) f cdv A outer s H E) t (WE E)) (hr : Room (k + 3) (A.deeper (envOfC "_law_take" (defScope s23) s.heap.objs.size f cdv))) :
    PSs (cxOf (L2.CX P w) P w K mg base N23 "_law_take" (defScope s23) f cdv A outer s H E) (defBody s23) (tS t (WE E) (exes ⟨calls D gl t.S k, gl, t.S, none⟩ b23)) :=
  ss_cons (s_ite (t_cmp O.ok (q_gt O.ok) (fun _ _ _ => bB rfl) (e_idx O.ok rfl (e_var O.ok (i := 0)) (e_int O.ok)) (e_int O.ok) (nomark _)) (ss_cons (s_asg (e_bin O.ok (q_mod O.ok) (e_idx O.ok rfl (e_var O.ok (i := 0)) (e_int O.ok)) (e_var O.ok (i := 1))) (g_nm O.ok (j := 2))) (ss_cons (s_sti O.ok (e_var O.ok (i := 0)) (e_int O.ok) (e_bin O.ok (q_fdiv O.ok) (e_idx O.ok rfl (e_var O.ok (i := 0)) (e_int O.ok)) (e_var O.ok (i := 1)))) (ss_cons (s_ret (e_var O.ok (i := 2))) (ss_nil)))) (ss_nil)) (ss_cons (s_sti O.ok (e_var O.ok (i := 0)) (e_int O.ok) (e_bin O.ok (q_add O.ok) (e_idx O.ok rfl (e_var O.ok (i := 0)) (e_int O.ok)) (e_int O.ok))) (ss_cons (s_asg (e_bin O.ok (q_mod O.ok) (e_bin O.ok (q_pow O.ok) (e_bin O.ok (q_add O.ok) (e_bin O.ok (q_add O.ok) (e_idx O.ok rfl (e_var O.ok (i := 0)) (e_int O.ok)) (e_bin O.ok (q_mul O.ok) (e_int O.ok) (e_idx O.ok rfl (e_var O.ok (i := 0)) (e_int O.ok)))) (e_int O.ok)) (e_int O.ok)) (e_int O.ok)) (g_nm O.ok (j := 3))) (ss_cons (s_asg (e_bin O.ok (q_mod O.ok) (e_bin O.ok (q_pow O.ok) (e_bin O.ok (q_add O.ok) (e_var O.ok (i := 3)) (e_bin O.ok (q_mul O.ok) (e_int O.ok) (e_idx O.ok rfl (e_var O.ok (i := 0)) (e_int O.ok)))) (e_int O.ok)) (e_int O.ok)) (g_nm O.ok (j := 3))) (ss_cons (s_ret (e_bin O.ok (q_mod O.ok) (e_bin O.ok (q_fdiv O.ok) (e_var O.ok (i := 3)) (e_int O.ok)) (e_var O.ok (i := 1)))) (ss_nil)))))
theorem w24 (T : Tx P w K mg base t k) (O : OkC (cxOf (L2.CX P w) P w K mg base N24 "_law_letters" (defScope s24) f cdv A outer s H E) t (WE E)) (hr : Room (k + 3) (A.deeper (envOfC "_law_letters" (defScope s24) s.heap.objs.size f cdv))) :
    PSs (cxOf (L2.CX P w) P w K mg base N24 "_law_letters" (defScope s24) f cdv A outer s H E) (defBody s24) (tS t (WE E) (exes ⟨calls D gl t.S k, gl, t.S, none⟩ b24)) :=
  ss_cons (s_asg (e_str O.ok) (g_nm O.ok (j := 2))) (ss_cons (s_asg (e_idx O.ok rfl (e_lst O.ok (a_cons O.ok (e_int O.ok) (a_cons O.ok (e_var O.ok (i := 1)) (a_cons O.ok (e_bin O.ok (q_add O.ok) (e_int O.ok) (e_cal O.ok (T.f__law_take.n) hr (a_cons O.ok (e_var O.ok (i := 0)) (a_cons O.ok (e_var O.ok (i := 1)) (a_nil O.ok))) (calls_eq rfl rfl))) (a_nil O.ok))))) (e_cal O.ok (T.f__law_take.n) hr (a_cons O.ok (e_var O.ok (i := 0)) (a_cons O.ok (e_int O.ok) (a_nil O.ok))) (calls_eq rfl rfl))) (g_nm O.ok (j := 3))) (ss_cons (s_ret (e_met O.ok PySem.F.plainAttrs_str PySem.F.slot_str_join PySem.F.type_str_join (mt_join' O.hK) (e_str O.ok) (a_cons O.ok (e_lc O (own := [("k", 4)]) (i_rng1 T.n_range (a_cons O.ok (e_var O.ok (i := 3)) (a_nil O.ok))) (blkOk_by (by show blkC N24 (defScope s24) _ _ = true; decide +kernel)) (by decide) (fun _ _ _ _ _ O => g_nm O.ok (j := 4)) (fun _ _ _ _ _ O => c_none) (fun _ _ _ _ _ O => e_idx O.ok rfl (e_var O.ok (i := 2)) (e_cal O.ok (T.f__law_take.n) hr (a_cons O.ok (e_var O.ok (i := 0)) (a_cons O.ok (e_int O.ok) (a_nil O.ok))) (calls_eq rfl rfl)))) (a_nil O.ok)))) (ss_nil)))
theorem w25 (T : Tx P w K mg base t k) (O : OkC (cxOf (L2.CX P w) P w K mg base N25 "_law_part" (defScope s25) f cdv A outer s H E) t (WE E)) (hr : Room (k + 3) (A.deeper (envOfC "_law_part" (defScope s25) s.heap.objs.size f cdv))) :
    PSs (cxOf (L2.CX P w) P w K mg base N25 "_law_part" (defScope s25) f cdv A outer s H E) (defBody s25) (tS t (WE E) (exes ⟨calls D gl t.S k, gl, t.S, none⟩ b25)) :=
  ss_cons (s_asg (e_cal O.ok (T.f__law_take.n) hr (a_cons O.ok (e_var O.ok (i := 0)) (a_cons O.ok (e_int O.ok) (a_nil O.ok))) (calls_eq rfl rfl)) (g_nm O.ok (j := 1))) (ss_cons (s_ite (t_cmp O.ok (q_lt O.ok) (fun _ _ _ => bB rfl) (e_var O.ok (i := 1)) (e_int O.ok) (nomark _)) (ss_cons (s_ret (e_idx O.ok rfl (e_lst O.ok (a_cons O.ok (e_cal O.ok (T.f__law_take.n) hr (a_cons O.ok (e_var O.ok (i := 0)) (a_cons O.ok (e_int O.ok) (a_nil O.ok))) (calls_eq rfl rfl)) (a_cons O.ok (e_cal O.ok (T.f__law_take.n) hr (a_cons O.ok (e_var O.ok (i := 0)) (a_cons O.ok (e_bin O.ok (q_pow O.ok) (e_int O.ok) (e_int O.ok)) (a_nil O.ok))) (calls_eq rfl rfl)) (a_cons O.ok (e_idx O.ok rfl (e_lst O.ok (a_cons O.ok (e_int O.ok) (a_cons O.ok (e_int O.ok) (a_cons O.ok (e_int O.ok) (a_cons O.ok (e_int O.ok) (a_nil O.ok)))))) (e_cal O.ok (T.f__law_take.n) hr (a_cons O.ok (e_var O.ok (i := 0)) (a_cons O.ok (e_int O.ok) (a_nil O.ok))) (calls_eq rfl rfl))) (a_nil O.ok))))) (e_var O.ok (i := 1)))) (ss_nil)) (ss_nil)) (ss_cons (s_ret (e_ite O.ok (t_cmp O.ok (q_lt O.ok) (fun _ _ _ => bB rfl) (e_var O.ok (i := 1)) (e_int O.ok) (nomark _)) (e_cal O.ok (T.f__law_letters.n) hr (a_cons O.ok (e_var O.ok (i := 0)) (a_cons O.ok (e_int O.ok) (a_nil O.ok))) (calls_eq rfl rfl)) (e_slc O.ok (e_str O.ok) (o_none O.ok) (o_some O.ok (e_bin O.ok (q_add O.ok) (e_int O.ok) (e_cal O.ok (T.f__law_take.n) hr (a_cons O.ok (e_var O.ok (i := 0)) (a_cons O.ok (e_int O.ok) (a_nil O.ok))) (calls_eq rfl rfl))))))) (ss_nil)))
theorem w26 (T : Tx P w K mg base t k) (O : OkC (cxOf (L2.CX P w) P w K mg base N26 "_law_parts" (defScope s26) f cdv A outer s H E) t (WE E)) (hr : Room (k + 3) (A.deeper (envOfC "_law_parts" (defScope s26) s.heap.objs.size f cdv))) :
    PSs (cxOf (L2.CX P w) P w K mg base N26 "_law_parts" (defScope s26) f cdv A outer s H E) (defBody s26) (tS t (WE E) (exes ⟨calls D gl t.S k, gl, t.S, none⟩ b26)) :=
  ss_cons (s_ret (e_lc O (own := [("k", 1)]) (i_rng1 T.n_range (a_cons O.ok (e_bin O.ok (q_add O.ok) (e_int O.ok) (e_cal O.ok (T.f__law_take.n) hr (a_cons O.ok (e_var O.ok (i := 0)) (a_cons O.ok (e_int O.ok) (a_nil O.ok))) (calls_eq rfl rfl))) (a_nil O.ok))) (blkOk_by (by show blkC N26 (defScope s26) _ _ = true; decide +kernel)) (by decide) (fun _ _ _ _ _ O => g_nm O.ok (j := 1)) (fun _ _ _ _ _ O => c_none) (fun _ _ _ _ _ O => e_cal O.ok (T.f__law_part.n) hr (a_cons O.ok (e_var O.ok (i := 0)) (a_nil O.ok)) (calls_eq rfl rfl)))) (ss_nil)
theorem w27 (T : Tx P w K mg base t k) (O : OkC (cxOf (L2.CX P w) P w K mg base N27 "_law_near" (defScope s27) f cdv A outer s H E) t (WE E)) (hr : Room (k + 3) (A.deeper (envOfC "_law_near" (defScope s27) s.heap.objs.size f cdv))) :
    PSs (cxOf (L2.CX P w) P w K mg base N27 "_law_near" (defScope s27) f cdv A outer s H E) (defBody s27) (tS t (WE E) (exes ⟨calls D gl t.S k, gl, t.S, none⟩ b27)) :=
  ss_cons (s_asg (e_cal O.ok (T.f__law_take.n) hr (a_cons O.ok (e_var O.ok (i := 0)) (a_cons O.ok (e_int O.ok) (a_nil O.ok))) (calls_eq rfl rfl)) (g_nm O.ok (j := 2))) (ss_cons (s_asg (e_cal O.ok (T.f__law_take.n) hr (a_cons O.ok (e_var O.ok (i := 0)) (a_cons O.ok (e_pri O.ok (cl_len O.hK rfl) bt_len T.n_len (a_cons O.ok (e_var O.ok (i := 1)) (a_nil O.ok))) (a_nil O.ok))) (calls_eq rfl rfl)) (g_nm O.ok (j := 3))) (ss_cons (s_ite (t_cmp O.ok (q_eq O.ok) (fun _ _ _ => bB rfl) (e_var O.ok (i := 2)) (e_int O.ok) (nomark _)) (ss_cons (s_ret (e_slc O.ok (e_var O.ok (i := 1)) (o_none O.ok) (o_some O.ok (e_pri O.ok (cl_max O.hK O.calm O.hu) bt_max T.n_max (a_cons O.ok (e_int O.ok) (a_cons O.ok (e_var O.ok (i := 3)) (a_nil O.ok))))))) (ss_nil)) (ss_nil)) (ss_cons (s_ite (t_cmp O.ok (q_eq O.ok) (fun _ _ _ => bB rfl) (e_var O.ok (i := 2)) (e_int O.ok) (nomark _)) (ss_cons (s_ret (e_slc O.ok (e_bin O.ok (q_add O.ok) (e_var O.ok (i := 1)) (e_lst O.ok (a_cons O.ok (e_cal O.ok (T.f__law_part.n) hr (a_cons O.ok (e_var O.ok (i := 0)) (a_nil O.ok)) (calls_eq rfl rfl)) (a_nil O.ok)))) (o_none O.ok) (o_some O.ok (e_int O.ok)))) (ss_nil)) (ss_nil)) (ss_cons (s_ite (t_cmp O.ok (q_eq O.ok) (fun _ _ _ => bB rfl) (e_var O.ok (i := 2)) (e_int O.ok) (nomark _)) (ss_cons (s_ret (e_prt O.ok (cl_list O.hK) bt_list T.n_list (a_cons O.ok (e_var O.ok (i := 1)) (a_nil O.ok)))) (ss_nil)) (ss_nil)) (ss_cons (s_asg (e_cal O.ok (T.f__law_part.n) hr (a_cons O.ok (e_var O.ok (i := 0)) (a_nil O.ok)) (calls_eq rfl rfl)) (g_nm O.ok (j := 4))) (ss_cons (s_ite (PW.pt (w_and O.ok (t_cmp O.ok (q_eq O.ok) (fun _ _ _ => bB rfl) (e_var O.ok (i := 2)) (e_int O.ok) (nomark _)) (w_and1 O.ok (t_plain O.ok (e_pri O.ok (cl_isinst O.hK) bt_isinstance T.n_isinstance (a_cons O.ok (e_idx O.ok rfl (e_var O.ok (i := 1)) (e_var O.ok (i := 3))) (a_cons O.ok (e_ty O.ok rfl T.n_int bt_int) (a_nil O.ok)))))))) (ss_cons (s_asg (e_pri O.ok (cl_max O.hK O.calm O.hu) bt_max T.n_max (a_cons O.ok (e_int O.ok) (a_cons O.ok (e_pri O.ok (cl_min O.hK O.calm O.hu) bt_min T.n_min (a_cons O.ok (e_int O.ok) (a_cons O.ok (e_bin O.ok (q_add O.ok) (e_idx O.ok rfl (e_var O.ok (i := 1)) (e_var O.ok (i := 3))) (e_idx O.ok rfl (e_lst O.ok (a_cons O.ok (e_int O.ok) (a_cons O.ok (e_neg O.ok (e_int O.ok)) (a_cons O.ok (e_int O.ok) (a_nil O.ok))))) (e_cal O.ok (T.f__law_take.n) hr (a_cons O.ok (e_var O.ok (i := 0)) (a_cons O.ok (e_int O.ok) (a_nil O.ok))) (calls_eq rfl rfl)))) (a_nil O.ok)))) (a_nil O.ok)))) (g_nm O.ok (j := 4))) (ss_nil)) (ss_nil)) (ss_cons (s_ret (e_bin O.ok (q_add O.ok) (e_bin O.ok (q_add O.ok) (e_slc O.ok (e_var O.ok (i := 1)) (o_none O.ok) (o_some O.ok (e_var O.ok (i := 3)))) (e_lst O.ok (a_cons O.ok (e_var O.ok (i := 4)) (a_nil O.ok)))) (e_slc O.ok (e_var O.ok (i := 1)) (o_some O.ok (e_bin O.ok (q_add O.ok) (e_var O.ok (i := 3)) (e_int O.ok))) (o_none O.ok)))) (ss_nil))))))))
theorem w28 (T : Tx P w K mg base t k) (O : OkC (cxOf (L2.CX P w) P w K mg base N28 "_law_mark" (defScope s28) f cdv A outer s H E) t (WE E)) (hr : Room (k + 3) (A.deeper (envOfC "_law_mark" (defScope s28) s.heap.objs.size f cdv))) :
    PSs (cxOf (L2.CX P w) P w K mg base N28 "_law_mark" (defScope s28) f cdv A outer s H E) (defBody s28) (tS t (WE E) (exes ⟨calls D gl t.S k, gl, t.S, none⟩ b28)) :=
  ss_cons (s_ret (e_met O.ok PySem.F.plainAttrs_str PySem.F.slot_str_join PySem.F.type_str_join (mt_join' O.hK) (e_str O.ok) (a_cons O.ok (e_lc O (own := [("part", 1)]) (i_val O (e_var O.ok (i := 0))) (blkOk_by (by show blkC N28 (defScope s28) _ _ = true; decide +kernel)) (by decide) (fun _ _ _ _ _ O => g_nm O.ok (j := 1)) (fun _ _ _ _ _ O => c_none) (fun _ _ _ _ _ O => e_prt O.ok (cl_str) bt_str T.n_str (a_cons O.ok (e_var O.ok (i := 1)) (a_nil O.ok)))) (a_nil O.ok)))) (ss_nil)
theorem w29 (T : Tx P w K mg base t k) (O : OkC (cxOf (L2.CX P w) P w K mg base N29 "_law_part_ahead" (defScope s29) f cdv A outer s H E) t (WE E)) (hr : Room (k + 3) (A.deeper (envOfC "_law_part_ahead" (defScope s29) s.heap.objs.size f cdv))) :
    PSs (cxOf (L2.CX P w) P w K mg base N29 "_law_part_ahead" (defScope s29) f cdv A outer s H E) (defBody s29) (tS t (WE E) (exes ⟨calls D gl t.S k, gl, t.S, none⟩ b29)) :=
  ss_cons (s_ite (PW.pt (w_and O.ok (t_plain O.ok (e_pri O.ok (cl_isinst O.hK) bt_isinstance T.n_isinstance (a_cons O.ok (e_var O.ok (i := 0)) (a_cons O.ok (e_ty O.ok rfl T.n_int bt_int) (a_nil O.ok))))) (w_and1 O.ok (t_plain O.ok (e_pri O.ok (cl_isinst O.hK) bt_isinstance T.n_isinstance (a_cons O.ok (e_var O.ok (i := 1)) (a_cons O.ok (e_ty O.ok rfl T.n_int bt_int) (a_nil O.ok)))))))) (ss_cons (s_ret (e_cmp O.ok (q_lt O.ok) (e_var O.ok (i := 0)) (e_var O.ok (i := 1)) (nomark _))) (ss_nil)) (ss_nil)) (ss_cons (s_ite (PW.pt (w_or O.ok (t_plain O.ok (e_pri O.ok (cl_isinst O.hK) bt_isinstance T.n_isinstance (a_cons O.ok (e_var O.ok (i := 0)) (a_cons O.ok (e_ty O.ok rfl T.n_int bt_int) (a_nil O.ok))))) (w_or1 O.ok (t_plain O.ok (e_pri O.ok (cl_isinst O.hK) bt_isinstance T.n_isinstance (a_cons O.ok (e_var O.ok (i := 1)) (a_cons O.ok (e_ty O.ok rfl T.n_int bt_int) (a_nil O.ok)))))))) (ss_cons (s_ret (e_pri O.ok (cl_isinst O.hK) bt_isinstance T.n_isinstance (a_cons O.ok (e_var O.ok (i := 0)) (a_cons O.ok (e_ty O.ok rfl T.n_int bt_int) (a_nil O.ok))))) (ss_nil)) (ss_nil)) (ss_cons (s_ret (e_cmp O.ok (q_lt O.ok) (e_var O.ok (i := 0)) (e_var O.ok (i := 1)) (nomark _))) (ss_nil)))
theorem w30 (T : Tx P w K mg base t k) (O : OkC (cxOf (L2.CX P w) P w K mg base N30 "_law_parts_ahead" (defScope s30) f cdv A outer s H E) t (WE E)) (hr : Room (k + 3) (A.deeper (envOfC "_law_parts_ahead" (defScope s30) s.heap.objs.size f cdv))) :
    PSs (cxOf (L2.CX P w) P w K mg base N30 "_law_parts_ahead" (defScope s30) f cdv A outer s H E) (defBody s30) (tS t (WE E) (exes ⟨calls D gl t.S k, gl, t.S, none⟩ b30)) :=
  ss_cons (s_frr O (i_zip O T.n_zip (a_cons O.ok (e_var O.ok (i := 0)) (a_cons O.ok (e_var O.ok (i := 1)) (a_nil O.ok)))) (g_tp O (gs_cons O.ok (j := 2) (gs_cons O.ok (j := 3) (gs_nil)))) (ss_cons (s_ite (t_cmp O.ok (q_ne O.ok) (fun _ _ _ => bB rfl) (e_var O.ok (i := 2)) (e_var O.ok (i := 3)) (nomark _)) (ss_cons (s_ret (e_cal O.ok (T.f__law_part_ahead.n) hr (a_cons O.ok (e_var O.ok (i := 2)) (a_cons O.ok (e_var O.ok (i := 3)) (a_nil O.ok))) (calls_eq rfl rfl))) (ss_nil)) (ss_nil)) (ss_nil))) (ss_cons (s_ret (e_cmp O.ok (q_lt O.ok) (e_pri O.ok (cl_len O.hK rfl) bt_len T.n_len (a_cons O.ok (e_var O.ok (i := 0)) (a_nil O.ok))) (e_pri O.ok (cl_len O.hK rfl) bt_len T.n_len (a_cons O.ok (e_var O.ok (i := 1)) (a_nil O.ok))) (nomark _))) (ss_nil))
theorem w31 (T : Tx P w K mg base t k) (O : OkC (cxOf (L2.CX P w) P w K mg base N31 "_law_names" (defScope s31) f cdv A outer s H E) t (WE E)) (hr : Room (k + 3) (A.deeper (envOfC "_law_names" (defScope s31) s.heap.objs.size f cdv))) :
    PSs (cxOf (L2.CX P w) P w K mg base N31 "_law_names" (defScope s31) f cdv A outer s H E) (defBody s31) (tS t (WE E) (exes ⟨calls D gl t.S k, gl, t.S, none⟩ b31)) :=
  ss_cons (s_asg (e_str O.ok) (g_nm O.ok (j := 2))) (ss_cons (s_asg (e_cal O.ok (T.f__law_take.n) hr (a_cons O.ok (e_var O.ok (i := 0)) (a_cons O.ok (e_int O.ok) (a_nil O.ok))) (calls_eq rfl rfl)) (g_nm O.ok (j := 3))) (ss_cons (s_asg (e_cal O.ok (T.f__law_take.n) hr (a_cons O.ok (e_var O.ok (i := 0)) (a_cons O.ok (e_int O.ok) (a_nil O.ok))) (calls_eq rfl rfl)) (g_nm O.ok (j := 4))) (ss_cons (s_asg (e_idx O.ok rfl (e_lst O.ok (a_cons O.ok (e_int O.ok) (a_cons O.ok (e_int O.ok) (a_cons O.ok (e_int O.ok) (a_cons O.ok (e_int O.ok) (a_cons O.ok (e_int O.ok) (a_cons O.ok (e_int O.ok) (a_cons O.ok (e_int O.ok) (a_cons O.ok (e_int O.ok) (a_cons O.ok (e_int O.ok) (a_cons O.ok (e_int O.ok) (a_cons O.ok (e_int O.ok) (a_cons O.ok (e_int O.ok) (a_nil O.ok)))))))))))))) (e_cal O.ok (T.f__law_take.n) hr (a_cons O.ok (e_var O.ok (i := 0)) (a_cons O.ok (e_int O.ok) (a_nil O.ok))) (calls_eq rfl rfl))) (g_nm O.ok (j := 5))) (ss_cons (s_asg (e_cal O.ok (T.f__law_take.n) hr (a_cons O.ok (e_var O.ok (i := 0)) (a_cons O.ok (e_int O.ok) (a_nil O.ok))) (calls_eq rfl rfl)) (g_nm O.ok (j := 6))) (ss_cons (s_asg (e_met O.ok PySem.F.plainAttrs_str PySem.F.slot_str_join PySem.F.type_str_join (mt_join' O.hK) (e_str O.ok) (a_cons O.ok (e_lc O (own := [("k", 8)]) (i_rng1 T.n_range (a_cons O.ok (e_int O.ok) (a_nil O.ok))) (blkOk_by (by show blkC N31 (defScope s31) _ _ = true; decide +kernel)) (by decide) (fun _ _ _ _ _ O => g_nm O.ok (j := 8)) (fun _ _ _ _ _ O => c_none) (fun _ _ _ _ _ O => e_idx O.ok rfl (e_var O.ok (i := 2)) (e_cal O.ok (T.f__law_take.n) hr (a_cons O.ok (e_var O.ok (i := 0)) (a_cons O.ok (e_int O.ok) (a_nil O.ok))) (calls_eq rfl rfl)))) (a_nil O.ok))) (g_nm O.ok (j := 7))) (ss_cons (s_asg (e_lst O.ok (a_nil O.ok)) (g_nm O.ok (j := 9))) (ss_cons (s_frr O (i_rng1 T.n_range (a_cons O.ok (e_var O.ok (i := 1)) (a_nil O.ok))) (g_nm O.ok (j := 8)) (ss_cons (s_asg (e_idx O.ok rfl (e_var O.ok (i := 2)) (e_bin O.ok (q_mod O.ok) (e_bin O.ok (q_add O.ok) (e_var O.ok (i := 4)) (e_bin O.ok (q_mul O.ok) (e_var O.ok (i := 5)) (e_var O.ok (i := 8)))) (e_int O.ok))) (g_nm O.ok (j := 10))) (ss_cons (s_asg (e_bin O.ok (q_add O.ok) (e_var O.ok (i := 10)) (e_idx O.ok rfl (e_var O.ok (i := 2)) (e_bin O.ok (q_mod O.ok) (e_bin O.ok (q_add O.ok) (e_var O.ok (i := 4)) (e_bin O.ok (q_fdiv O.ok) (e_var O.ok (i := 8)) (e_int O.ok))) (e_int O.ok)))) (g_nm O.ok (j := 10))) (ss_cons (s_asg (e_idx O.ok rfl (e_var O.ok (i := 2)) (e_bin O.ok (q_mod O.ok) (e_bin O.ok (q_add O.ok) (e_var O.ok (i := 4)) (e_bin O.ok (q_mul O.ok) (e_var O.ok (i := 5)) (e_bin O.ok (q_fdiv O.ok) (e_var O.ok (i := 8)) (e_int O.ok)))) (e_int O.ok))) (g_nm O.ok (j := 11))) (ss_cons (s_asg (e_lst O.ok (a_cons O.ok (e_bin O.ok (q_add O.ok) (e_bin O.ok (q_add O.ok) (e_slc O.ok (e_var O.ok (i := 7)) (o_none O.ok) (o_some O.ok (e_var O.ok (i := 6)))) (e_var O.ok (i := 10))) (e_slc O.ok (e_var O.ok (i := 7)) (o_some O.ok (e_var O.ok (i := 6))) (o_some O.ok (e_int O.ok)))) (a_cons O.ok (e_bin O.ok (q_add O.ok) (e_var O.ok (i := 10)) (e_slc O.ok (e_var O.ok (i := 7)) (o_none O.ok) (o_some O.ok (e_var O.ok (i := 6))))) (a_nil O.ok)))) (g_nm O.ok (j := 12))) (ss_cons (s_exp (e_met O.ok PySem.F.plainAttrs_list PySem.F.slot_list_append PySem.F.type_list_append mt_append' (e_var O.ok (i := 12)) (a_cons O.ok (e_bin O.ok (q_add O.ok) (e_var O.ok (i := 11)) (e_slc O.ok (e_var O.ok (i := 7)) (o_none O.ok) (o_some O.ok (e_bin O.ok (q_mod O.ok) (e_var O.ok (i := 8)) (e_int O.ok))))) (a_nil O.ok)))) (ss_cons (s_exp (e_met O.ok PySem.F.plainAttrs_list PySem.F.slot_list_append PySem.F.type_list_append mt_append' (e_var O.ok (i := 12)) (a_cons O.ok (e_bin O.ok (q_add O.ok) (e_bin O.ok (q_add O.ok) (e_slc O.ok (e_var O.ok (i := 7)) (o_none O.ok) (o_some O.ok (e_var O.ok (i := 6)))) (e_var O.ok (i := 10))) (e_slc O.ok (e_var O.ok (i := 7)) (o_some O.ok (e_var O.ok (i := 6))) (o_some O.ok (e_bin O.ok (q_add O.ok) (e_var O.ok (i := 6)) (e_bin O.ok (q_mod O.ok) (e_var O.ok (i := 8)) (e_bin O.ok (q_sub O.ok) (e_int O.ok) (e_var O.ok (i := 6)))))))) (a_nil O.ok)))) (ss_cons (s_exp (e_met O.ok PySem.F.plainAttrs_list PySem.F.slot_list_append PySem.F.type_list_append mt_append' (e_var O.ok (i := 9)) (a_cons O.ok (e_idx O.ok rfl (e_var O.ok (i := 12)) (e_var O.ok (i := 3))) (a_nil O.ok)))) (ss_nil))))))))) (ss_cons (s_ret (e_var O.ok (i := 9))) (ss_nil)))))))))
theorem w32 (T : Tx P w K mg base t k) (O : OkC (cxOf (L2.CX P w) P w K mg base N32 "_law_marks" (defScope s32) f cdv A outer s H E) t (WE E)) (hr : Room (k + 3) (A.deeper (envOfC "_law_marks" (defScope s32) s.heap.objs.size f cdv))) :
    PSs (cxOf (L2.CX P w) P w K mg base N32 "_law_marks" (defScope s32) f cdv A outer s H E) (defBody s32) (tS t (WE E) (exes ⟨calls D gl t.S k, gl, t.S, none⟩ b32)) :=
  ss_cons (s_asg (e_lst O.ok (a_nil O.ok)) (g_nm O.ok (j := 2))) (ss_cons (s_frr O (i_rng1 T.n_range (a_cons O.ok (e_var O.ok (i := 1)) (a_nil O.ok))) (g_nm O.ok (j := 3)) (ss_cons (s_ite (PW.pt (w_or O.ok (t_cmp O.ok (q_eq O.ok) (fun _ _ _ => bB rfl) (e_var O.ok (i := 2)) (e_lst O.ok (a_nil O.ok)) (nomark _)) (w_or1 O.ok (t_cmp O.ok (q_eq O.ok) (fun _ _ _ => bB rfl) (e_cal O.ok (T.f__law_take.n) hr (a_cons O.ok (e_var O.ok (i := 0)) (a_cons O.ok (e_int O.ok) (a_nil O.ok))) (calls_eq rfl rfl)) (e_int O.ok) (nomark _))))) (ss_cons (s_exp (e_met O.ok PySem.F.plainAttrs_list PySem.F.slot_list_append PySem.F.type_list_append mt_append' (e_var O.ok (i := 2)) (a_cons O.ok (e_cal O.ok (T.f__law_parts.n) hr (a_cons O.ok (e_var O.ok (i := 0)) (a_nil O.ok)) (calls_eq rfl rfl)) (a_nil O.ok)))) (ss_nil)) (ss_cons (s_exp (e_met O.ok PySem.F.plainAttrs_list PySem.F.slot_list_append PySem.F.type_list_append mt_append' (e_var O.ok (i := 2)) (a_cons O.ok (e_cal O.ok (T.f__law_near.n) hr (a_cons O.ok (e_var O.ok (i := 0)) (a_cons O.ok (e_idx O.ok rfl (e_var O.ok (i := 2)) (e_cal O.ok (T.f__law_take.n) hr (a_cons O.ok (e_var O.ok (i := 0)) (a_cons O.ok (e_pri O.ok (cl_len O.hK rfl) bt_len T.n_len (a_cons O.ok (e_var O.ok (i := 2)) (a_nil O.ok))) (a_nil O.ok))) (calls_eq rfl rfl))) (a_nil O.ok))) (calls_eq rfl rfl)) (a_nil O.ok)))) (ss_nil))) (ss_nil))) (ss_cons (s_ret (e_lc O (own := [("parts", 4)]) (i_val O (e_var O.ok (i := 2))) (blkOk_by (by show blkC N32 (defScope s32) _ _ = true; decide +kernel)) (by decide) (fun _ _ _ _ _ O => g_nm O.ok (j := 4)) (fun _ _ _ _ _ O => c_none) (fun _ _ _ _ _ O => e_cal O.ok (T.f__law_mark.n) hr (a_cons O.ok (e_var O.ok (i := 4)) (a_nil O.ok)) (calls_eq rfl rfl)))) (ss_nil)))
theorem w33 (T : Tx P w K mg base t k) (O : OkC (cxOf (L2.CX P w) P w K mg base N33 "_law_width" (defScope s33) f cdv A outer s H E) t (WE E)) (hr : Room (k + 3) (A.deeper (envOfC "_law_width" (defScope s33) s.heap.objs.size f cdv))) :
    PSs (cxOf (L2.CX P w) P w K mg base N33 "_law_width" (defScope s33) f cdv A outer s H E) (defBody s33) (tS t (WE E) (exes ⟨calls D gl t.S k, gl, t.S, none⟩ b33)) :=
  ss_cons (s_ret (e_idx O.ok rfl (e_lst O.ok (a_cons O.ok (e_int O.ok) (a_cons O.ok (e_int O.ok) (a_cons O.ok (e_bin O.ok (q_add O.ok) (e_int O.ok) (e_cal O.ok (T.f__law_take.n) hr (a_cons O.ok (e_var O.ok (i := 0)) (a_cons O.ok (e_int O.ok) (a_nil O.ok))) (calls_eq rfl rfl))) (a_cons O.ok (e_bin O.ok (q_add O.ok) (e_int O.ok) (e_cal O.ok (T.f__law_take.n) hr (a_cons O.ok (e_var O.ok (i := 0)) (a_cons O.ok (e_int O.ok) (a_nil O.ok))) (calls_eq rfl rfl))) (a_cons O.ok (e_bin O.ok (q_add O.ok) (e_int O.ok) (e_cal O.ok (T.f__law_take.n) hr (a_cons O.ok (e_var O.ok (i := 0)) (a_cons O.ok (e_int O.ok) (a_nil O.ok))) (calls_eq rfl rfl))) (a_nil O.ok))))))) (e_cal O.ok (T.f__law_take.n) hr (a_cons O.ok (e_var O.ok (i := 0)) (a_cons O.ok (e_int O.ok) (a_nil O.ok))) (calls_eq rfl rfl)))) (ss_nil)
theorem w34 (T : Tx P w K mg base t k) (O : OkC (cxOf (L2.CX P w) P w K mg base N34 "_law_drawn_volumes" (defScope s34) f cdv A outer s H E) t (WE E)) (hr : Room (k + 3) (A.deeper (envOfC "_law_drawn_volumes" (defScope s34) s.heap.objs.size f cdv))) :
    PSs (cxOf (L2.CX P w) P w K mg base N34 "_law_drawn_volumes" (defScope s34) f cdv A outer s H E) (defBody s34) (tS t (WE E) (exes ⟨calls D gl t.S k, gl, t.S, none⟩ b34)) :=
  ss_cons (s_asg (e_cal O.ok (T.f__law_names.n) hr (a_cons O.ok (e_var O.ok (i := 0)) (a_cons O.ok (e_var O.ok (i := 1)) (a_nil O.ok))) (calls_eq rfl rfl)) (g_nm O.ok (j := 2))) (ss_cons (s_asg (e_cal O.ok (T.f__law_marks.n) hr (a_cons O.ok (e_var O.ok (i := 0)) (a_cons O.ok (e_var O.ok (i := 1)) (a_nil O.ok))) (calls_eq rfl rfl)) (g_nm O.ok (j := 3))) (ss_cons (s_asg (e_bin O.ok (q_add O.ok) (e_int O.ok) (e_cal O.ok (T.f__law_take.n) hr (a_cons O.ok (e_var O.ok (i := 0)) (a_cons O.ok (e_int O.ok) (a_nil O.ok))) (calls_eq rfl rfl))) (g_nm O.ok (j := 4))) (ss_cons (s_asg (e_lst O.ok (a_nil O.ok)) (g_nm O.ok (j := 5))) (ss_cons (s_frr O (i_rng1 T.n_range (a_cons O.ok (e_var O.ok (i := 1)) (a_nil O.ok))) (g_nm O.ok (j := 6)) (ss_cons (s_asg (e_idx O.ok rfl (e_lst O.ok (a_cons O.ok (e_var O.ok (i := 4)) (a_cons O.ok (e_bin O.ok (q_add O.ok) (e_var O.ok (i := 4)) (e_int O.ok)) (a_cons O.ok (e_var O.ok (i := 4)) (a_cons O.ok (e_bin O.ok (q_add O.ok) (e_int O.ok) (e_cal O.ok (T.f__law_take.n) hr (a_cons O.ok (e_var O.ok (i := 0)) (a_cons O.ok (e_int O.ok) (a_nil O.ok))) (calls_eq rfl rfl))) (a_nil O.ok)))))) (e_cal O.ok (T.f__law_take.n) hr (a_cons O.ok (e_var O.ok (i := 0)) (a_cons O.ok (e_int O.ok) (a_nil O.ok))) (calls_eq rfl rfl))) (g_nm O.ok (j := 7))) (ss_cons (s_exp (e_met O.ok PySem.F.plainAttrs_list PySem.F.slot_list_append PySem.F.type_list_append mt_append' (e_var O.ok (i := 5)) (a_cons O.ok (e_tup O.ok (a_cons O.ok (e_idx O.ok rfl (e_var O.ok (i := 2)) (e_var O.ok (i := 6))) (a_cons O.ok (e_idx O.ok rfl (e_var O.ok (i := 3)) (e_var O.ok (i := 6))) (a_cons O.ok (e_var O.ok (i := 7)) (a_cons O.ok (e_cal O.ok (T.f__law_width.n) hr (a_cons O.ok (e_var O.ok (i := 0)) (a_nil O.ok)) (calls_eq rfl rfl)) (a_nil O.ok)))))) (a_nil O.ok)))) (ss_nil)))) (ss_cons (s_ret (e_var O.ok (i := 5))) (ss_nil))))))
theorem w35 (T : Tx P w K mg base t k) (O : OkC (cxOf (L2.CX P w) P w K mg base N35 "_law_read_parts" (defScope s35) f cdv A outer s H E) t (WE E)) (hr : Room (k + 3) (A.deeper (envOfC "_law_read_parts" (defScope s35) s.heap.objs.size f cdv))) :
    PSs (cxOf (L2.CX P w) P w K mg base N35 "_law_read_parts" (defScope s35) f cdv A outer s H E) (defBody s35) (tS t (WE E) (exes ⟨calls D gl t.S k, gl, t.S, none⟩ b35)) :=
  ss_cons (s_ret (e_lc O (own := [("text", 1)]) (i_val O (e_met O.ok PySem.F.plainAttrs_str PySem.F.slot_str_split PySem.F.type_str_split mt_split' (e_var O.ok (i := 0)) (a_cons O.ok (e_str O.ok) (a_nil O.ok)))) (blkOk_by (by show blkC N35 (defScope s35) _ _ = true; decide +kernel)) (by decide) (fun _ _ _ _ _ O => g_nm O.ok (j := 1)) (fun _ _ _ _ _ O => c_none) (fun _ _ _ _ _ O => e_ite O.ok (t_cmp O.ok (q_in_ O.ok) (fun _ _ _ => bB rfl) (e_idx O.ok rfl (e_var O.ok (i := 1)) (e_int O.ok)) (e_str O.ok) (by rfl)) (e_prt O.ok (cl_int) bt_int T.n_int (a_cons O.ok (e_var O.ok (i := 1)) (a_nil O.ok))) (e_var O.ok (i := 1))))) (ss_nil)
theorem w36 (T : Tx P w K mg base t k) (O : OkC (cxOf (L2.CX P w) P w K mg base N36 "_law_ahead" (defScope s36) f cdv A outer s H E) t (WE E)) (hr : Room (k + 3) (A.deeper (envOfC "_law_ahead" (defScope s36) s.heap.objs.size f cdv))) :
    PSs (cxOf (L2.CX P w) P w K mg base N36 "_law_ahead" (defScope s36) f cdv A outer s H E) (defBody s36) (tS t (WE E) (exes ⟨calls D gl t.S k, gl, t.S, none⟩ b36)) :=
  ss_cons (s_ite (t_cmp O.ok (q_ne O.ok) (fun _ _ _ => bB rfl) (e_idx O.ok rfl (e_var O.ok (i := 0)) (e_int O.ok)) (e_idx O.ok rfl (e_var O.ok (i := 1)) (e_int O.ok)) (nomark _)) (ss_cons (s_ret (e_cmp O.ok (q_lt O.ok) (e_idx O.ok rfl (e_var O.ok (i := 0)) (e_int O.ok)) (e_idx O.ok rfl (e_var O.ok (i := 1)) (e_int O.ok)) (nomark _))) (ss_nil)) (ss_nil)) (ss_cons (s_ite (t_cmp O.ok (q_ne O.ok) (fun _ _ _ => bB rfl) (e_idx O.ok rfl (e_var O.ok (i := 0)) (e_int O.ok)) (e_idx O.ok rfl (e_var O.ok (i := 1)) (e_int O.ok)) (nomark _)) (ss_cons (s_ret (e_cal O.ok (T.f__law_parts_ahead.n) hr (a_cons O.ok (e_cal O.ok (T.f__law_read_parts.n) hr (a_cons O.ok (e_idx O.ok rfl (e_var O.ok (i := 0)) (e_int O.ok)) (a_nil O.ok)) (calls_eq rfl rfl)) (a_cons O.ok (e_cal O.ok (T.f__law_read_parts.n) hr (a_cons O.ok (e_idx O.ok rfl (e_var O.ok (i := 1)) (e_int O.ok)) (a_nil O.ok)) (calls_eq rfl rfl)) (a_nil O.ok))) (calls_eq rfl rfl))) (ss_nil)) (ss_nil)) (ss_cons (s_ret (e_cmp O.ok (q_lt O.ok) (e_idx O.ok rfl (e_var O.ok (i := 0)) (e_int O.ok)) (e_idx O.ok rfl (e_var O.ok (i := 1)) (e_int O.ok)) (nomark _))) (ss_nil)))
theorem w37 (T : Tx P w K mg base t k) (O : OkC (cxOf (L2.CX P w) P w K mg base N37 "_law_sorted" (defScope s37) f cdv A outer s H E) t (WE E)) (hr : Room (k + 3) (A.deeper (envOfC "_law_sorted" (defScope s37) s.heap.objs.size f cdv))) :
    PSs (cxOf (L2.CX P w) P w K mg base N37 "_law_sorted" (defScope s37) f cdv A outer s H E) (defBody s37) (tS t (WE E) (exes ⟨calls D gl t.S k, gl, t.S, none⟩ b37)) :=
  ss_cons (s_asg (e_lst O.ok (a_nil O.ok)) (g_nm O.ok (j := 1))) (ss_cons (s_frr O (i_val O (e_var O.ok (i := 0))) (g_nm O.ok (j := 2)) (ss_cons (s_asg (e_pri O.ok (cl_len O.hK rfl) bt_len T.n_len (a_cons O.ok (e_lc O (own := [("other", 4)]) (i_val O (e_var O.ok (i := 1))) (blkOk_by (by show blkC N37 (defScope s37) _ _ = true; decide +kernel)) (by decide) (fun _ _ _ _ _ O => g_nm O.ok (j := 4)) (fun _ _ _ _ _ O => c_some (t_plain O.ok (e_cal O.ok (T.f__law_ahead.n) hr (a_cons O.ok (e_var O.ok (i := 4)) (a_cons O.ok (e_var O.ok (i := 2)) (a_nil O.ok))) (calls_eq rfl rfl)))) (fun _ _ _ _ _ O => e_var O.ok (i := 4))) (a_nil O.ok))) (g_nm O.ok (j := 3))) (ss_cons (s_exp (e_met O.ok PySem.F.plainAttrs_list PySem.F.slot_list_insert PySem.F.type_list_insert mt_insert' (e_var O.ok (i := 1)) (a_cons O.ok (e_var O.ok (i := 3)) (a_cons O.ok (e_var O.ok (i := 2)) (a_nil O.ok))))) (ss_nil)))) (ss_cons (s_ret (e_var O.ok (i := 1))) (ss_nil)))
theorem w38 (T : Tx P w K mg base t k) (O : OkC (cxOf (L2.CX P w) P w K mg base N38 "_law_bad" (defScope s38) f cdv A outer s H E) t (WE E)) (hr : Room (k + 3) (A.deeper (envOfC "_law_bad" (defScope s38) s.heap.objs.size f cdv))) :
    PSs (cxOf (L2.CX P w) P w K mg base N38 "_law_bad" (defScope s38) f cdv A outer s H E) (defBody s38) (tS t (WE E) (exes ⟨calls D gl t.S k, gl, t.S, none⟩ b38)) :=
  ss_cons (s_asg (e_var O.ok (i := 1)) (g_tp O (gs_cons O.ok (j := 2) (gs_cons O.ok (j := 3) (gs_cons O.ok (j := 4) (gs_cons O.ok (j := 5) (gs_nil))))))) (ss_cons (s_asg (e_lst O.ok (a_cons O.ok (e_non O.ok) (a_cons O.ok (e_prt O.ok (cl_list O.hK) bt_list T.n_list (a_cons O.ok (e_var O.ok (i := 1)) (a_nil O.ok))) (a_cons O.ok (e_slc O.ok (e_var O.ok (i := 1)) (o_none O.ok) (o_some O.ok (e_int O.ok))) (a_cons O.ok (e_tup O.ok (a_cons O.ok (e_str O.ok) (a_cons O.ok (e_var O.ok (i := 3)) (a_cons O.ok (e_var O.ok (i := 4)) (a_cons O.ok (e_var O.ok (i := 5)) (a_nil O.ok)))))) (a_cons O.ok (e_tup O.ok (a_cons O.ok (e_var O.ok (i := 2)) (a_cons O.ok (e_str O.ok) (a_cons O.ok (e_var O.ok (i := 4)) (a_cons O.ok (e_var O.ok (i := 5)) (a_nil O.ok)))))) (a_nil O.ok))))))) (g_nm O.ok (j := 6))) (ss_cons (s_asg (e_bin O.ok (q_add O.ok) (e_var O.ok (i := 6)) (e_lst O.ok (a_cons O.ok (e_tup O.ok (a_cons O.ok (e_var O.ok (i := 2)) (a_cons O.ok (e_var O.ok (i := 3)) (a_cons O.ok (e_int O.ok) (a_cons O.ok (e_var O.ok (i := 5)) (a_nil O.ok)))))) (a_cons O.ok (e_tup O.ok (a_cons O.ok (e_var O.ok (i := 2)) (a_cons O.ok (e_var O.ok (i := 3)) (a_cons O.ok (e_var O.ok (i := 4)) (a_cons O.ok (e_int O.ok) (a_nil O.ok)))))) (a_cons O.ok (e_tup O.ok (a_cons O.ok (e_var O.ok (i := 2)) (a_cons O.ok (e_var O.ok (i := 3)) (a_cons O.ok (e_bl O.ok) (a_cons O.ok (e_var O.ok (i := 5)) (a_nil O.ok)))))) (a_nil O.ok)))))) (g_nm O.ok (j := 6))) (ss_cons (s_ret (e_idx O.ok rfl (e_bin O.ok (q_add O.ok) (e_var O.ok (i := 6)) (e_lst O.ok (a_cons O.ok (e_int O.ok) (a_cons O.ok (e_str O.ok) (a_cons O.ok (e_dnew O.ok) (a_nil O.ok)))))) (e_cal O.ok (T.f__law_take.n) hr (a_cons O.ok (e_var O.ok (i := 0)) (a_cons O.ok (e_int O.ok) (a_nil O.ok))) (calls_eq rfl rfl)))) (ss_nil))))
theorem w39 (T : Tx P w K mg base t k) (O : OkC (cxOf (L2.CX P w) P w K mg base N39 "_law_due" (defScope s39) f cdv A outer s H E) t (WE E)) (hr : Room (k + 3) (A.deeper (envOfC "_law_due" (defScope s39) s.heap.objs.size f cdv))) :
    PSs (cxOf (L2.CX P w) P w K mg base N39 "_law_due" (defScope s39) f cdv A outer s H E) (defBody s39) (tS t (WE E) (exes ⟨calls D gl t.S k, gl, t.S, none⟩ b39)) :=
  ss_cons (s_ite (PW.pt (w_or O.ok (t_not O.ok (t_plain O.ok (e_pri O.ok (cl_isinst O.hK) bt_isinstance T.n_isinstance (a_cons O.ok (e_var O.ok (i := 0)) (a_cons O.ok (e_ty O.ok rfl T.n_tuple bt_tuple) (a_nil O.ok)))))) (w_or1 O.ok (t_cmp O.ok (q_ne O.ok) (fun _ _ _ => bB rfl) (e_pri O.ok (cl_len O.hK rfl) bt_len T.n_len (a_cons O.ok (e_var O.ok (i := 0)) (a_nil O.ok))) (e_int O.ok) (nomark _))))) (ss_cons (s_ret (e_lst O.ok (a_cons O.ok (e_str O.ok) (a_cons O.ok (e_var O.ok (i := 0)) (a_nil O.ok))))) (ss_nil)) (ss_nil)) (ss_cons (s_ite (t_cmp O.ok (q_eq O.ok) (fun _ _ _ => bB rfl) (e_idx O.ok rfl (e_var O.ok (i := 0)) (e_int O.ok)) (e_str O.ok) (nomark _)) (ss_cons (s_ret (e_lst O.ok (a_cons O.ok (e_str O.ok) (a_cons O.ok (e_str O.ok) (a_nil O.ok))))) (ss_nil)) (ss_nil)) (ss_cons (s_ite (t_cmp O.ok (q_eq O.ok) (fun _ _ _ => bB rfl) (e_idx O.ok rfl (e_var O.ok (i := 0)) (e_int O.ok)) (e_str O.ok) (nomark _)) (ss_cons (s_ret (e_lst O.ok (a_cons O.ok (e_str O.ok) (a_cons O.ok (e_str O.ok) (a_nil O.ok))))) (ss_nil)) (ss_nil)) (ss_cons (s_ite (PW.pt (w_or O.ok (t_cmp O.ok (q_is O.ok) (fun _ _ _ => bB rfl) (e_idx O.ok rfl (e_var O.ok (i := 0)) (e_int O.ok)) (e_bl O.ok) (nomark _)) (w_or1 O.ok (t_cmp O.ok (q_eq O.ok) (fun _ _ _ => bB rfl) (e_idx O.ok rfl (e_var O.ok (i := 0)) (e_int O.ok)) (e_int O.ok) (nomark _))))) (ss_cons (s_ret (e_lst O.ok (a_cons O.ok (e_str O.ok) (a_cons O.ok (e_idx O.ok rfl (e_var O.ok (i := 0)) (e_int O.ok)) (a_nil O.ok))))) (ss_nil)) (ss_nil)) (ss_cons (s_ret (e_ite O.ok (t_cmp O.ok (q_eq O.ok) (fun _ _ _ => bB rfl) (e_idx O.ok rfl (e_var O.ok (i := 0)) (e_int O.ok)) (e_int O.ok) (nomark _)) (e_lst O.ok (a_cons O.ok (e_str O.ok) (a_cons O.ok (e_int O.ok) (a_nil O.ok)))) (e_non O.ok))) (ss_nil)))))
theorem w40 (T : Tx P w K mg base t k) (O : OkC (cxOf (L2.CX P w) P w K mg base N40 "_law_told" (defScope s40) f cdv A outer s H E) t (WE E)) (hr : Room (k + 3) (A.deeper (envOfC "_law_told" (defScope s40) s.heap.objs.size f cdv))) :
    PSs (cxOf (L2.CX P w) P w K mg base N40 "_law_told" (defScope s40) f cdv A outer s H E) (defBody s40) (tS t (WE E) (exes ⟨calls D gl t.S k, gl, t.S, none⟩ b40)) :=
  ss_cons (s_asg (e_non O.ok) (g_nm O.ok (j := 2))) (ss_cons (s_tri O (fun W' pn xe O => ss_cons (s_asg (e_lst O.ok (a_cons O.ok (e_str O.ok) (a_cons O.ok (e_cal O.ok (T.f_volume_ahead.n) hr (a_cons O.ok (e_var O.ok (i := 0)) (a_cons O.ok (e_var O.ok (i := 1)) (a_nil O.ok))) (calls_eq rfl rfl)) (a_nil O.ok)))) (g_nm O.ok (j := 2))) (ss_nil)) (.named (i := 3) T.h_NoVolume rfl (by decide) rfl rfl (fun a oe pn fs C d k hk hga z1 z2 O => ss_cons (s_asg (e_lst O.ok (a_cons O.ok (e_str O.ok) (a_cons O.ok (e_efl hk hga (FE.hot T.e_NoVolume_found) z1 z2 rfl rfl) (a_nil O.ok)))) (g_nm O.ok (j := 2))) (ss_nil)) (.named (i := 3) T.h_NoName rfl (by decide) rfl rfl (fun a oe pn fs C d k hk hga z1 z2 O => ss_cons (s_asg (e_lst O.ok (a_cons O.ok (e_str O.ok) (a_cons O.ok (e_efl hk hga (FE.hot T.e_NoName_found) z1 z2 rfl rfl) (a_nil O.ok)))) (g_nm O.ok (j := 2))) (ss_nil)) (.named (i := 3) T.h_NoMark rfl (by decide) rfl rfl (fun a oe pn fs C d k hk hga z1 z2 O => ss_cons (s_asg (e_lst O.ok (a_cons O.ok (e_str O.ok) (a_cons O.ok (e_efl hk hga (FE.hot T.e_NoMark_found) z1 z2 rfl rfl) (a_nil O.ok)))) (g_nm O.ok (j := 2))) (ss_nil)) (.named (i := 3) T.h_NoNumber rfl (by decide) rfl rfl (fun a oe pn fs C d k hk hga z1 z2 O => ss_cons (s_asg (e_lst O.ok (a_cons O.ok (e_str O.ok) (a_cons O.ok (e_efl hk hga (FE.hot T.e_NoNumber_found) z1 z2 rfl rfl) (a_nil O.ok)))) (g_nm O.ok (j := 2))) (ss_nil)) (.plain T.h_ShelvesError rfl (by decide) (fun a pn fs O => ss_cons (s_asg (e_lst O.ok (a_cons O.ok (e_str O.ok) (a_nil O.ok))) (g_nm O.ok (j := 2))) (ss_nil)) (.nil))))))) (ss_cons (s_ret (e_var O.ok (i := 2))) (ss_nil)))
theorem w41 (T : Tx P w K mg base t k) (O : OkC (cxOf (L2.CX P w) P w K mg base N41 "_law_pairs_right" (defScope s41) f cdv A outer s H E) t (WE E)) (hr : Room (k + 3) (A.deeper (envOfC "_law_pairs_right" (defScope s41) s.heap.objs.size f cdv))) :
    PSs (cxOf (L2.CX P w) P w K mg base N41 "_law_pairs_right" (defScope s41) f cdv A outer s H E) (defBody s41) (tS t (WE E) (exes ⟨calls D gl t.S k, gl, t.S, none⟩ b41)) :=
  ss_cons (s_frr O (i_val O (e_var O.ok (i := 0))) (g_nm O.ok (j := 1)) (ss_cons (s_frr O (i_val O (e_var O.ok (i := 0))) (g_nm O.ok (j := 2)) (ss_cons (s_ite (t_cmp O.ok (q_ne O.ok) (fun _ _ _ => bB rfl) (e_pri O.ok (cl_repr O.hK O.hu O.hg O.sm) bt_repr T.n_repr (a_cons O.ok (e_cal O.ok (T.f__law_told.n) hr (a_cons O.ok (e_var O.ok (i := 1)) (a_cons O.ok (e_var O.ok (i := 2)) (a_nil O.ok))) (calls_eq rfl rfl)) (a_nil O.ok))) (e_pri O.ok (cl_repr O.hK O.hu O.hg O.sm) bt_repr T.n_repr (a_cons O.ok (e_lst O.ok (a_cons O.ok (e_str O.ok) (a_cons O.ok (e_cal O.ok (T.f__law_ahead.n) hr (a_cons O.ok (e_var O.ok (i := 1)) (a_cons O.ok (e_var O.ok (i := 2)) (a_nil O.ok))) (calls_eq rfl rfl)) (a_nil O.ok)))) (a_nil O.ok))) (nomark _)) (ss_cons (s_ret (e_bl O.ok)) (ss_nil)) (ss_nil)) (ss_nil))) (ss_nil))) (ss_cons (s_ret (e_bl O.ok)) (ss_nil))
theorem w42 (T : Tx P w K mg base t k) (O : OkC (cxOf (L2.CX P w) P w K mg base N42 "_law_row_due" (defScope s42) f cdv A outer s H E) t (WE E)) (hr : Room (k + 3) (A.deeper (envOfC "_law_row_due" (defScope s42) s.heap.objs.size f cdv))) :
    PSs (cxOf (L2.CX P w) P w K mg base N42 "_law_row_due" (defScope s42) f cdv A outer s H E) (defBody s42) (tS t (WE E) (exes ⟨calls D gl t.S k, gl, t.S, none⟩ b42)) :=
  ss_cons (s_asg (e_lst O.ok (a_nil O.ok)) (g_nm O.ok (j := 1))) (ss_cons (s_frr O (i_val O (e_var O.ok (i := 0))) (g_nm O.ok (j := 2)) (ss_cons (s_ite (PW.pt (w_or O.ok (t_cmp O.ok (q_isnot O.ok) (fun _ _ _ => bB rfl) (e_cal O.ok (T.f__law_due.n) hr (a_cons O.ok (e_var O.ok (i := 2)) (a_nil O.ok)) (calls_eq rfl rfl)) (e_non O.ok) (nomark _)) (w_or1 O.ok (t_cmp O.ok (q_in_ O.ok) (fun _ _ _ => bB rfl) (e_idx O.ok rfl (e_var O.ok (i := 2)) (e_int O.ok)) (e_var O.ok (i := 1)) (by rfl))))) (ss_cons (s_ret (e_bl O.ok)) (ss_nil)) (ss_nil)) (ss_cons (s_exp (e_met O.ok PySem.F.plainAttrs_list PySem.F.slot_list_append PySem.F.type_list_append mt_append' (e_var O.ok (i := 1)) (a_cons O.ok (e_idx O.ok rfl (e_var O.ok (i := 2)) (e_int O.ok)) (a_nil O.ok)))) (ss_nil)))) (ss_cons (s_ret (e_cmp O.ok (q_eq O.ok) (e_lc O (own := [("k", 3)]) (i_rng2 T.n_range (a_cons O.ok (e_int O.ok) (a_cons O.ok (e_pri O.ok (cl_len O.hK rfl) bt_len T.n_len (a_cons O.ok (e_var O.ok (i := 0)) (a_nil O.ok))) (a_nil O.ok)))) (blkOk_by (by show blkC N42 (defScope s42) _ _ = true; decide +kernel)) (by decide) (fun _ _ _ _ _ O => g_nm O.ok (j := 3)) (fun _ _ _ _ _ O => c_some (t_not O.ok (t_plain O.ok (e_cal O.ok (T.f__law_ahead.n) hr (a_cons O.ok (e_idx O.ok rfl (e_var O.ok (i := 0)) (e_bin O.ok (q_sub O.ok) (e_var O.ok (i := 3)) (e_int O.ok))) (a_cons O.ok (e_idx O.ok rfl (e_var O.ok (i := 0)) (e_var O.ok (i := 3))) (a_nil O.ok))) (calls_eq rfl rfl))))) (fun _ _ _ _ _ O => e_var O.ok (i := 3))) (e_lst O.ok (a_nil O.ok)) (nomark _))) (ss_nil)))
theorem w43 (T : Tx P w K mg base t k) (O : OkC (cxOf (L2.CX P w) P w K mg base N43 "_law_row_right" (defScope s43) f cdv A outer s H E) t (WE E)) (hr : Room (k + 3) (A.deeper (envOfC "_law_row_right" (defScope s43) s.heap.objs.size f cdv))) :
    PSs (cxOf (L2.CX P w) P w K mg base N43 "_law_row_right" (defScope s43) f cdv A outer s H E) (defBody s43) (tS t (WE E) (exes ⟨calls D gl t.S k, gl, t.S, none⟩ b43)) :=
  ss_cons (s_asg (e_cal O.ok (T.f__law_sorted.n) hr (a_cons O.ok (e_var O.ok (i := 1)) (a_nil O.ok)) (calls_eq rfl rfl)) (g_nm O.ok (j := 2))) (ss_cons (s_frr O (i_rng1 T.n_range (a_cons O.ok (e_cal O.ok (T.f__law_take.n) hr (a_cons O.ok (e_var O.ok (i := 0)) (a_cons O.ok (e_int O.ok) (a_nil O.ok))) (calls_eq rfl rfl)) (a_nil O.ok))) (g_nm O.ok (j := 3)) (ss_cons (s_asg (e_cal O.ok (T.f__law_take.n) hr (a_cons O.ok (e_var O.ok (i := 0)) (a_cons O.ok (e_int O.ok) (a_nil O.ok))) (calls_eq rfl rfl)) (g_nm O.ok (j := 4))) (ss_cons (s_asg (e_cal O.ok (T.f__law_take.n) hr (a_cons O.ok (e_var O.ok (i := 0)) (a_cons O.ok (e_pri O.ok (cl_len O.hK rfl) bt_len T.n_len (a_cons O.ok (e_var O.ok (i := 2)) (a_nil O.ok))) (a_nil O.ok))) (calls_eq rfl rfl)) (g_nm O.ok (j := 5))) (ss_cons (s_ite (t_cmp O.ok (q_eq O.ok) (fun _ _ _ => bB rfl) (e_var O.ok (i := 4)) (e_int O.ok) (nomark _)) (ss_cons (s_asg (e_bin O.ok (q_add O.ok) (e_bin O.ok (q_add O.ok) (e_slc O.ok (e_var O.ok (i := 2)) (o_none O.ok) (o_some O.ok (e_var O.ok (i := 5)))) (e_rev O.ok (e_slc O.ok (e_var O.ok (i := 2)) (o_some O.ok (e_var O.ok (i := 5))) (o_some O.ok (e_bin O.ok (q_add O.ok) (e_var O.ok (i := 5)) (e_int O.ok)))))) (e_slc O.ok (e_var O.ok (i := 2)) (o_some O.ok (e_bin O.ok (q_add O.ok) (e_var O.ok (i := 5)) (e_int O.ok))) (o_none O.ok))) (g_nm O.ok (j := 2))) (ss_nil)) (ss_cons (s_ite (t_cmp O.ok (q_eq O.ok) (fun _ _ _ => bB rfl) (e_var O.ok (i := 4)) (e_int O.ok) (nomark _)) (ss_cons (s_asg (e_bin O.ok (q_add O.ok) (e_slc O.ok (e_var O.ok (i := 2)) (o_none O.ok) (o_some O.ok (e_bin O.ok (q_add O.ok) (e_var O.ok (i := 5)) (e_int O.ok)))) (e_slc O.ok (e_var O.ok (i := 2)) (o_some O.ok (e_var O.ok (i := 5))) (o_none O.ok))) (g_nm O.ok (j := 2))) (ss_nil)) (ss_cons (s_ite (PW.pt (w_and O.ok (t_cmp O.ok (q_eq O.ok) (fun _ _ _ => bB rfl) (e_var O.ok (i := 4)) (e_int O.ok) (nomark _)) (w_and O.ok (t_cmp O.ok (q_is O.ok) (fun _ _ _ => bB rfl) (e_cal O.ok (T.f__law_due.n) hr (a_cons O.ok (e_idx O.ok rfl (e_var O.ok (i := 2)) (e_int O.ok)) (a_nil O.ok)) (calls_eq rfl rfl)) (e_non O.ok) (nomark _)) (w_and1 O.ok (t_cmp O.ok (q_is O.ok) (fun _ _ _ => bB rfl) (e_cal O.ok (T.f__law_due.n) hr (a_cons O.ok (e_idx O.ok rfl (e_var O.ok (i := 2)) (e_var O.ok (i := 5))) (a_nil O.ok)) (calls_eq rfl rfl)) (e_non O.ok) (nomark _)))))) (ss_cons (s_sti O.ok (e_var O.ok (i := 2)) (e_var O.ok (i := 5)) (e_bin O.ok (q_add O.ok) (e_tup O.ok (a_cons O.ok (e_idx O.ok rfl (e_idx O.ok rfl (e_var O.ok (i := 2)) (e_int O.ok)) (e_int O.ok)) (a_nil O.ok))) (e_slc O.ok (e_idx O.ok rfl (e_var O.ok (i := 2)) (e_var O.ok (i := 5))) (o_some O.ok (e_int O.ok)) (o_none O.ok)))) (ss_nil)) (ss_cons (s_ite (PW.pt (w_and O.ok (t_cmp O.ok (q_eq O.ok) (fun _ _ _ => bB rfl) (e_var O.ok (i := 4)) (e_int O.ok) (nomark _)) (w_and1 O.ok (t_cmp O.ok (q_is O.ok) (fun _ _ _ => bB rfl) (e_cal O.ok (T.f__law_due.n) hr (a_cons O.ok (e_idx O.ok rfl (e_var O.ok (i := 2)) (e_var O.ok (i := 5))) (a_nil O.ok)) (calls_eq rfl rfl)) (e_non O.ok) (nomark _))))) (ss_cons (s_sti O.ok (e_var O.ok (i := 2)) (e_var O.ok (i := 5)) (e_cal O.ok (T.f__law_bad.n) hr (a_cons O.ok (e_var O.ok (i := 0)) (a_cons O.ok (e_idx O.ok rfl (e_var O.ok (i := 2)) (e_var O.ok (i := 5))) (a_nil O.ok))) (calls_eq rfl rfl))) (ss_nil)) (ss_nil)) (ss_nil))) (ss_nil))) (ss_nil))) (ss_nil))))) (ss_cons (s_asg (e_pri O.ok (cl_repr O.hK O.hu O.hg O.sm) bt_repr T.n_repr (a_cons O.ok (e_var O.ok (i := 2)) (a_nil O.ok))) (g_nm O.ok (j := 6))) (ss_cons (s_frr O (i_val O (e_lst O.ok (a_cons O.ok (e_var O.ok (i := 2)) (a_cons O.ok (e_prt O.ok (cl_tuple O.hK) bt_tuple T.n_tuple (a_cons O.ok (e_var O.ok (i := 2)) (a_nil O.ok))) (a_cons O.ok (e_var O.ok (i := 2)) (a_nil O.ok)))))) (g_nm O.ok (j := 7)) (ss_cons (s_ite (t_cmp O.ok (q_ne O.ok) (fun _ _ _ => bB rfl) (e_pri O.ok (cl_repr O.hK O.hu O.hg O.sm) bt_repr T.n_repr (a_cons O.ok (e_cal O.ok (T.f_are_in_order.n) hr (a_cons O.ok (e_var O.ok (i := 7)) (a_nil O.ok)) (calls_eq rfl rfl)) (a_nil O.ok))) (e_pri O.ok (cl_repr O.hK O.hu O.hg O.sm) bt_repr T.n_repr (a_cons O.ok (e_cal O.ok (T.f__law_row_due.n) hr (a_cons O.ok (e_var O.ok (i := 2)) (a_nil O.ok)) (calls_eq rfl rfl)) (a_nil O.ok))) (nomark _)) (ss_cons (s_ret (e_bl O.ok)) (ss_nil)) (ss_nil)) (ss_nil))) (ss_cons (s_ret (e_cmp O.ok (q_eq O.ok) (e_pri O.ok (cl_repr O.hK O.hu O.hg O.sm) bt_repr T.n_repr (a_cons O.ok (e_var O.ok (i := 2)) (a_nil O.ok))) (e_var O.ok (i := 6)) (nomark _))) (ss_nil)))))
theorem w44 (T : Tx P w K mg base t k) (O : OkC (cxOf (L2.CX P w) P w K mg base N44 "law" (defScope s44) f cdv A outer s H E) t (WE E)) (hr : Room (k + 3) (A.deeper (envOfC "law" (defScope s44) s.heap.objs.size f cdv))) :
    PSs (cxOf (L2.CX P w) P w K mg base N44 "law" (defScope s44) f cdv A outer s H E) (defBody s44) (tS t (WE E) (exes ⟨calls D gl t.S k, gl, t.S, none⟩ b44)) :=
  ss_cons (s_frr O (i_rng1 T.n_range (a_cons O.ok (e_pri O.ok (cl_max O.hK O.calm O.hu) bt_max T.n_max (a_cons O.ok (e_int O.ok) (a_cons O.ok (e_pri O.ok (cl_min O.hK O.calm O.hu) bt_min T.n_min (a_cons O.ok (e_pri O.ok (cl_len O.hK rfl) bt_len T.n_len (a_cons O.ok (e_var O.ok (i := 0)) (a_nil O.ok))) (a_cons O.ok (e_int O.ok) (a_nil O.ok)))) (a_nil O.ok)))) (a_nil O.ok))) (g_nm O.ok (j := 1)) (ss_cons (s_asg (e_cal O.ok (T.f__law_box.n) hr (a_cons O.ok (e_cal O.ok (T.f__law_cell.n) hr (a_cons O.ok (e_var O.ok (i := 0)) (a_cons O.ok (e_var O.ok (i := 1)) (a_nil O.ok))) (calls_eq rfl rfl)) (a_nil O.ok)) (calls_eq rfl rfl)) (g_nm O.ok (j := 2))) (ss_cons (s_asg (e_cal O.ok (T.f__law_drawn_volumes.n) hr (a_cons O.ok (e_var O.ok (i := 2)) (a_cons O.ok (e_bin O.ok (q_add O.ok) (e_int O.ok) (e_cal O.ok (T.f__law_take.n) hr (a_cons O.ok (e_var O.ok (i := 2)) (a_cons O.ok (e_int O.ok) (a_nil O.ok))) (calls_eq rfl rfl))) (a_nil O.ok))) (calls_eq rfl rfl)) (g_nm O.ok (j := 3))) (ss_cons (s_ite (PW.pt (w_and O.ok (t_cmp O.ok (q_eq O.ok) (fun _ _ _ => bB rfl) (e_cal O.ok (T.f__law_take.n) hr (a_cons O.ok (e_var O.ok (i := 2)) (a_cons O.ok (e_int O.ok) (a_nil O.ok))) (calls_eq rfl rfl)) (e_int O.ok) (nomark _)) (w_and1 O.ok (t_cmp O.ok (q_eq O.ok) (fun _ _ _ => bB rfl) (e_var O.ok (i := 1)) (e_int O.ok) (nomark _))))) (ss_cons (s_asg (e_cal O.ok (T.f__law_sorted.n) hr (a_cons O.ok (e_cal O.ok (T.f__law_drawn_volumes.n) hr (a_cons O.ok (e_var O.ok (i := 2)) (a_cons O.ok (e_int O.ok) (a_nil O.ok))) (calls_eq rfl rfl)) (a_nil O.ok)) (calls_eq rfl rfl)) (g_nm O.ok (j := 4))) (ss_cons (s_asg (e_cal O.ok (T.f__law_take.n) hr (a_cons O.ok (e_var O.ok (i := 2)) (a_cons O.ok (e_int O.ok) (a_nil O.ok))) (calls_eq rfl rfl)) (g_nm O.ok (j := 5))) (ss_cons (s_asg (e_bin O.ok (q_add O.ok) (e_bin O.ok (q_add O.ok) (e_slc O.ok (e_var O.ok (i := 4)) (o_none O.ok) (o_some O.ok (e_var O.ok (i := 5)))) (e_rev O.ok (e_slc O.ok (e_var O.ok (i := 4)) (o_some O.ok (e_var O.ok (i := 5))) (o_some O.ok (e_bin O.ok (q_add O.ok) (e_var O.ok (i := 5)) (e_int O.ok)))))) (e_slc O.ok (e_var O.ok (i := 4)) (o_some O.ok (e_bin O.ok (q_add O.ok) (e_var O.ok (i := 5)) (e_int O.ok))) (o_none O.ok))) (g_nm O.ok (j := 6))) (ss_cons (s_ite (PW.pt (w_or O.ok (t_cmp O.ok (q_isnot O.ok) (fun _ _ _ => bB rfl) (e_cal O.ok (T.f_are_in_order.n) hr (a_cons O.ok (e_var O.ok (i := 4)) (a_nil O.ok)) (calls_eq rfl rfl)) (e_bl O.ok) (nomark _)) (w_or1 O.ok (t_cmp O.ok (q_isnot O.ok) (fun _ _ _ => bB rfl) (e_cal O.ok (T.f_are_in_order.n) hr (a_cons O.ok (e_prt O.ok (cl_tuple O.hK) bt_tuple T.n_tuple (a_cons O.ok (e_var O.ok (i := 6)) (a_nil O.ok))) (a_nil O.ok)) (calls_eq rfl rfl)) (e_bl O.ok) (nomark _))))) (ss_cons (s_ret (e_bl O.ok)) (ss_nil)) (ss_nil)) (ss_nil))))) (ss_nil)) (ss_cons (s_par2 (j := 7) (k := 8) O (a_cons O.ok (e_cal O.ok (T.f__law_bad.n) hr (a_cons O.ok (e_var O.ok (i := 2)) (a_cons O.ok (e_idx O.ok rfl (e_var O.ok (i := 3)) (e_int O.ok)) (a_nil O.ok))) (calls_eq rfl rfl)) (a_cons O.ok (e_cal O.ok (T.f__law_bad.n) hr (a_cons O.ok (e_var O.ok (i := 2)) (a_cons O.ok (e_idx O.ok rfl (e_var O.ok (i := 3)) (e_neg O.ok (e_int O.ok))) (a_nil O.ok))) (calls_eq rfl rfl)) (a_nil O.ok))) (by rfl)) (ss_cons (s_ite (PW.pt (w_or O.ok (t_not O.ok (t_plain O.ok (e_cal O.ok (T.f__law_pairs_right.n) hr (a_cons O.ok (e_var O.ok (i := 3)) (a_nil O.ok)) (calls_eq rfl rfl)))) (w_or O.ok (t_not O.ok (t_plain O.ok (e_cal O.ok (T.f__law_row_right.n) hr (a_cons O.ok (e_var O.ok (i := 2)) (a_cons O.ok (e_var O.ok (i := 3)) (a_nil O.ok))) (calls_eq rfl rfl)))) (w_or1 O.ok (t_cmp O.ok (q_isnot O.ok) (fun _ _ _ => bB rfl) (e_cal O.ok (T.f_are_in_order.n) hr (a_cons O.ok (e_lst O.ok (a_nil O.ok)) (a_nil O.ok)) (calls_eq rfl rfl)) (e_bl O.ok) (nomark _)))))) (ss_cons (s_ret (e_bl O.ok)) (ss_nil)) (ss_nil)) (ss_cons (s_frr O (i_val O (e_lst O.ok (a_cons O.ok (e_tup O.ok (a_cons O.ok (e_var O.ok (i := 7)) (a_cons O.ok (e_idx O.ok rfl (e_var O.ok (i := 3)) (e_int O.ok)) (a_nil O.ok)))) (a_cons O.ok (e_tup O.ok (a_cons O.ok (e_var O.ok (i := 7)) (a_cons O.ok (e_var O.ok (i := 8)) (a_nil O.ok)))) (a_nil O.ok))))) (g_tp O (gs_cons O.ok (j := 9) (gs_cons O.ok (j := 10) (gs_nil)))) (ss_cons (s_ite (t_cmp O.ok (q_ne O.ok) (fun _ _ _ => bB rfl) (e_pri O.ok (cl_repr O.hK O.hu O.hg O.sm) bt_repr T.n_repr (a_cons O.ok (e_cal O.ok (T.f__law_told.n) hr (a_cons O.ok (e_var O.ok (i := 9)) (a_cons O.ok (e_var O.ok (i := 10)) (a_nil O.ok))) (calls_eq rfl rfl)) (a_nil O.ok))) (e_pri O.ok (cl_repr O.hK O.hu O.hg O.sm) bt_repr T.n_repr (a_cons O.ok (e_cal O.ok (T.f__law_due.n) hr (a_cons O.ok (e_var O.ok (i := 7)) (a_nil O.ok)) (calls_eq rfl rfl)) (a_nil O.ok))) (nomark _)) (ss_cons (s_ret (e_bl O.ok)) (ss_nil)) (ss_nil)) (ss_nil))) (ss_cons (s_ite (t_cmp O.ok (q_ne O.ok) (fun _ _ _ => bB rfl) (e_pri O.ok (cl_repr O.hK O.hu O.hg O.sm) bt_repr T.n_repr (a_cons O.ok (e_cal O.ok (T.f__law_told.n) hr (a_cons O.ok (e_idx O.ok rfl (e_var O.ok (i := 3)) (e_int O.ok)) (a_cons O.ok (e_var O.ok (i := 8)) (a_nil O.ok))) (calls_eq rfl rfl)) (a_nil O.ok))) (e_pri O.ok (cl_repr O.hK O.hu O.hg O.sm) bt_repr T.n_repr (a_cons O.ok (e_cal O.ok (T.f__law_due.n) hr (a_cons O.ok (e_var O.ok (i := 8)) (a_nil O.ok)) (calls_eq rfl rfl)) (a_nil O.ok))) (nomark _)) (ss_cons (s_ret (e_bl O.ok)) (ss_nil)) (ss_nil)) (ss_nil))))))))) (ss_cons (s_ret (e_bl O.ok)) (ss_nil))
end
/-- what the top has left of a def -/
structure DF (K : PySem.W.Frag) (mg : Str → Option Value) (x : Str) (st : Stmt) (ps : List Str) : Prop where
  ex : ∃ (fa : Addr) (oc : Value) (od : Option Addr) (kV doc pm : Value) (an : Option Addr) (cdv ct : Value) (osl : Array (Option Value)), mg x = some (.ref fa) ∧ K.lookup fa = some ⟨oc, od, .func (PySem.W.fnOf x x (defArgs st) (defBody st) (defScope st) .none kV doc pm an cdv ct), osl⟩ ∧
    PySem.W.codeIn K cdv x = true ∧ PySem.W.keepIn K (.ref fa) = true ∧ Binds K (PySem.W.fnOf x x (defArgs st) (defBody st) (defScope st) .none kV doc pm an cdv ct) ps []
structure DFD (K : PySem.W.Frag) (mg : Str → Option Value) (x : Str) (st : Stmt) (ps : List Str) (dl : List Val) : Prop where
  ex : ∃ (fa : Addr) (oc : Value) (od : Option Addr) (dV kV doc pm : Value) (an : Option Addr) (cdv ct : Value) (osl : Array (Option Value)) (dvs : List V), mg x = some (.ref fa) ∧ K.lookup fa = some ⟨oc, od, .func (PySem.W.fnOf x x (defArgs st) (defBody st) (defScope st) dV kV doc pm an cdv ct), osl⟩ ∧
    PySem.W.codeIn K cdv x = true ∧ PySem.W.keepIn K (.ref fa) = true ∧ (∀ (t : Th) ρ, VRs t ρ dl dvs) ∧ (∀ j, j ≤ dvs.length → ∃ us, Vals (dvs.drop j) us ∧ Binds K (PySem.W.fnOf x x (defArgs st) (defBody st) (defScope st) dV kV doc pm an cdv ct) ps us)
/-- the root of the refusals -/
structure RT (K : PySem.W.Frag) (mg : Str → Option Value) : Prop where
  ex : ∃ (C fB : Addr) (fd : FuncData), ExB K mg "ShelvesError" C fB ∧ Fun K "__init__" "ShelvesError.__init__" sI_ShelvesError fB fd ∧ Binds K fd ["self", "text"] []
  vn : mg "ValueError" = none
  vv : PySem.W.findCls K (.type "ValueError") (.type "type") "__init__" = some (.val (.builtin "ValueError.__init__"))
/-- a refusal -/
structure RX (K : PySem.W.Frag) (mg : Str → Option Value) (ga : Nat → Option Addr) (x : Str) (i : Nat) (fs : List Str) (st : Stmt) (q : Str) : Prop where
  ex : ∃ (C fI : Addr) (fd : FuncData), ga i = some C ∧ ExC K mg x C fI fs ∧ Fun K "__init__" q st fI fd ∧ Binds K fd ("self" :: fs) []
structure Fx (K : PySem.W.Frag) (mg : Str → Option Value) (ga : Nat → Option Addr) : Prop where
  rt : RT K mg
  r_NoMark : RX K mg ga "NoMark" 0 ["found"] sI_NoMark "NoMark.__init__"
  r_NoName : RX K mg ga "NoName" 1 ["found"] sI_NoName "NoName.__init__"
  r_NoNumber : RX K mg ga "NoNumber" 2 ["found"] sI_NoNumber "NoNumber.__init__"
  r_NoVolume : RX K mg ga "NoVolume" 3 ["found"] sI_NoVolume "NoVolume.__init__"
  h_ShelvesError : ∃ T : Addr, mg "ShelvesError" = some (.ref T) ∧ ∀ k C, ga k = some C → PySem.W.exmOne K (.ref C) (.ref T) = some (decide (k ∈ ([0, 1, 2, 3] : List Nat)))
  h_NoNumber : ∃ T : Addr, mg "NoNumber" = some (.ref T) ∧ ∀ k C, ga k = some C → PySem.W.exmOne K (.ref C) (.ref T) = some (decide (k ∈ ([2] : List Nat)))
  h_NoMark : ∃ T : Addr, mg "NoMark" = some (.ref T) ∧ ∀ k C, ga k = some C → PySem.W.exmOne K (.ref C) (.ref T) = some (decide (k ∈ ([0] : List Nat)))
  h_NoName : ∃ T : Addr, mg "NoName" = some (.ref T) ∧ ∀ k C, ga k = some C → PySem.W.exmOne K (.ref C) (.ref T) = some (decide (k ∈ ([1] : List Nat)))
  h_NoVolume : ∃ T : Addr, mg "NoVolume" = some (.ref T) ∧ ∀ k C, ga k = some C → PySem.W.exmOne K (.ref C) (.ref T) = some (decide (k ∈ ([3] : List Nat)))
  e_NoNumber_found : ∀ k C, k ∈ ([2] : List Nat) → ga k = some C → XfC K C ∧ PySem.W.findIn K (.ref C) "found" = some none
  e_NoMark_found : ∀ k C, k ∈ ([0] : List Nat) → ga k = some C → XfC K C ∧ PySem.W.findIn K (.ref C) "found" = some none
  e_NoName_found : ∀ k C, k ∈ ([1] : List Nat) → ga k = some C → XfC K C ∧ PySem.W.findIn K (.ref C) "found" = some none
  e_NoVolume_found : ∀ k C, k ∈ ([3] : List Nat) → ga k = some C → XfC K C ∧ PySem.W.findIn K (.ref C) "found" = some none
  n_all : mg "all" = none
  n_bool : mg "bool" = none
  n_int : mg "int" = none
  n_isinstance : mg "isinstance" = none
  n_len : mg "len" = none
  n_list : mg "list" = none
  n_max : mg "max" = none
  n_min : mg "min" = none
  n_range : mg "range" = none
  n_repr : mg "repr" = none
  n_str : mg "str" = none
  n_tuple : mg "tuple" = none
  n_zip : mg "zip" = none
  c_FIGURES : ∃ u, mg "FIGURES" = some (.str "0123456789" u)
  c_LETTERS : ∃ u, mg "LETTERS" = some (.str "abcdefghijklmnopqrstuvwxyz" u)
  c_MOST_LETTERS : ∃ u, mg "MOST_LETTERS" = some (.int 6 u)
  c_MOST_NUMBER : ∃ u, mg "MOST_NUMBER" = some (.int 999999 u)
  c_MOST_PARTS : ∃ u, mg "MOST_PARTS" = some (.int 4 u)
  c_MOST_SIGNS : ∃ u, mg "MOST_SIGNS" = some (.int 8 u)
  c_MOST_SIZE : ∃ u, mg "MOST_SIZE" = some (.int 9 u)
  c_MOST_WIDTH : ∃ u, mg "MOST_WIDTH" = some (.int 99 u)
  g_is_whole : DF K mg "is_whole" s0 ["thing", "low", "high"]
  g_is_letters : DF K mg "is_letters" s1 ["thing", "most"]
  g_is_name : DF K mg "is_name" s2 ["thing"]
  g_whole_in : DF K mg "whole_in" s3 ["thing", "low", "high"]
  g_part_in : DF K mg "part_in" s4 ["text"]
  g_parts_in : DF K mg "parts_in" s5 ["thing"]
  g_is_mark : DF K mg "is_mark" s6 ["thing"]
  g_mark_parts : DF K mg "mark_parts" s7 ["mark"]
  g_part_rank : DF K mg "part_rank" s8 ["part"]
  g_mark_rank : DF K mg "mark_rank" s9 ["mark"]
  g_is_size : DF K mg "is_size" s10 ["thing"]
  g_is_width : DF K mg "is_width" s11 ["thing"]
  g_need_name : DF K mg "need_name" s12 ["thing"]
  g_need_mark : DF K mg "need_mark" s13 ["thing"]
  g_need_size : DF K mg "need_size" s14 ["thing"]
  g_need_width : DF K mg "need_width" s15 ["thing"]
  g_need_volume : DF K mg "need_volume" s16 ["thing"]
  g_is_volume : DF K mg "is_volume" s17 ["thing"]
  g_volume_rank : DF K mg "volume_rank" s18 ["volume"]
  g_volume_ahead : DF K mg "volume_ahead" s19 ["one", "other"]
  g_are_in_order : DF K mg "are_in_order" s20 ["things"]
  g__law_cell : DF K mg "_law_cell" s21 ["script", "k"]
  g__law_box : DF K mg "_law_box" s22 ["cell"]
  g__law_take : DF K mg "_law_take" s23 ["box", "many"]
  g__law_letters : DF K mg "_law_letters" s24 ["box", "most"]
  g__law_part : DF K mg "_law_part" s25 ["box"]
  g__law_parts : DF K mg "_law_parts" s26 ["box"]
  g__law_near : DF K mg "_law_near" s27 ["box", "parts"]
  g__law_mark : DF K mg "_law_mark" s28 ["parts"]
  g__law_part_ahead : DF K mg "_law_part_ahead" s29 ["one", "other"]
  g__law_parts_ahead : DF K mg "_law_parts_ahead" s30 ["one", "other"]
  g__law_names : DF K mg "_law_names" s31 ["box", "many"]
  g__law_marks : DF K mg "_law_marks" s32 ["box", "many"]
  g__law_width : DF K mg "_law_width" s33 ["box"]
  g__law_drawn_volumes : DF K mg "_law_drawn_volumes" s34 ["box", "many"]
  g__law_read_parts : DF K mg "_law_read_parts" s35 ["mark"]
  g__law_ahead : DF K mg "_law_ahead" s36 ["one", "other"]
  g__law_sorted : DF K mg "_law_sorted" s37 ["volumes"]
  g__law_bad : DF K mg "_law_bad" s38 ["box", "volume"]
  g__law_due : DF K mg "_law_due" s39 ["thing"]
  g__law_told : DF K mg "_law_told" s40 ["one", "other"]
  g__law_pairs_right : DF K mg "_law_pairs_right" s41 ["volumes"]
  g__law_row_due : DF K mg "_law_row_due" s42 ["things"]
  g__law_row_right : DF K mg "_law_row_right" s43 ["box", "volumes"]
  g_law : DF K mg "law" s44 ["script"]
section
variable {P : Program} {w : World} {K : PySem.W.Frag} {mg : Str → Option Value} {base : PySem.Heap} {t : Th}
theorem rt_ok (R : RT K mg) : ∃ (C fB : Addr) (fd : FuncData), ExB K mg "ShelvesError" C fB ∧ Binds K fd ["self", "text"] [] ∧ FnOk P w K mg base (L2.CX P w) 1 fB fd ["self", "text"] (spBI K) := by
  obtain ⟨C, fB, fd, B, F, hb⟩ := R.ex
  exact ⟨C, fB, fd, B, hb, F.okX scI_ShelvesError (fun vs H Q E h => spBI_len h) fun cdv A outer s H vs Q E hr h => ⟨_, pss_one (ps_expr (by exact (pe_veinit rfl R.vn R.vv (pa_cons (pv 0) (pa_cons (pv 1) pa_nil))))), base_ok h⟩⟩
theorem re_NoMark (R : RT K mg) (X : RX K mg t.ga "NoMark" 0 ["found"] sI_NoMark "NoMark.__init__") : CE P w K mg base t "NoMark" 0 ["found"] := by
  obtain ⟨CB, fB, fdB, B, hbB, FB⟩ := rt_ok (P := P) (w := w) (base := base) R
  obtain ⟨C, fI, fd, hga, T, F, hb⟩ := X.ex
  refine ⟨C, fI, fd, _, hga, T, hb, F.okX scI_NoMark (fun vs H Q E h => spI_len h) fun cdv A outer s H vs Q E hr h => ⟨_, pss_cons (ps_expr (by exact (pe_clsinit B FB hr hbB rfl (pa_cons (pv 0) (pa_cons pe_str pa_nil))))) (pss_one (ps_ost (pv 0) (pv 1))), init1_ok T.ox (T.no _ List.mem_cons_self) h⟩⟩
theorem re_NoName (R : RT K mg) (X : RX K mg t.ga "NoName" 1 ["found"] sI_NoName "NoName.__init__") : CE P w K mg base t "NoName" 1 ["found"] := by
  obtain ⟨CB, fB, fdB, B, hbB, FB⟩ := rt_ok (P := P) (w := w) (base := base) R
  obtain ⟨C, fI, fd, hga, T, F, hb⟩ := X.ex
  refine ⟨C, fI, fd, _, hga, T, hb, F.okX scI_NoName (fun vs H Q E h => spI_len h) fun cdv A outer s H vs Q E hr h => ⟨_, pss_cons (ps_expr (by exact (pe_clsinit B FB hr hbB rfl (pa_cons (pv 0) (pa_cons pe_str pa_nil))))) (pss_one (ps_ost (pv 0) (pv 1))), init1_ok T.ox (T.no _ List.mem_cons_self) h⟩⟩
theorem re_NoNumber (R : RT K mg) (X : RX K mg t.ga "NoNumber" 2 ["found"] sI_NoNumber "NoNumber.__init__") : CE P w K mg base t "NoNumber" 2 ["found"] := by
  obtain ⟨CB, fB, fdB, B, hbB, FB⟩ := rt_ok (P := P) (w := w) (base := base) R
  obtain ⟨C, fI, fd, hga, T, F, hb⟩ := X.ex
  refine ⟨C, fI, fd, _, hga, T, hb, F.okX scI_NoNumber (fun vs H Q E h => spI_len h) fun cdv A outer s H vs Q E hr h => ⟨_, pss_cons (ps_expr (by exact (pe_clsinit B FB hr hbB rfl (pa_cons (pv 0) (pa_cons pe_str pa_nil))))) (pss_one (ps_ost (pv 0) (pv 1))), init1_ok T.ox (T.no _ List.mem_cons_self) h⟩⟩
theorem re_NoVolume (R : RT K mg) (X : RX K mg t.ga "NoVolume" 3 ["found"] sI_NoVolume "NoVolume.__init__") : CE P w K mg base t "NoVolume" 3 ["found"] := by
  obtain ⟨CB, fB, fdB, B, hbB, FB⟩ := rt_ok (P := P) (w := w) (base := base) R
  obtain ⟨C, fI, fd, hga, T, F, hb⟩ := X.ex
  refine ⟨C, fI, fd, _, hga, T, hb, F.okX scI_NoVolume (fun vs H Q E h => spI_len h) fun cdv A outer s H vs Q E hr h => ⟨_, pss_cons (ps_expr (by exact (pe_clsinit B FB hr hbB rfl (pa_cons (pv 0) (pa_cons pe_str pa_nil))))) (pss_one (ps_ost (pv 0) (pv 1))), init1_ok T.ox (T.no _ List.mem_cons_self) h⟩⟩
theorem cf0 {x : Str} {st : Stmt} {ps : List Str} (F : DF K mg x st ps) {d : Def} : CF P w K mg base t (0 + 3) x (mOf D gl t.S 0 d) := by
  obtain ⟨fa, oc, od, kV, doc, pm, an, cdv, ct, osl, h1, h2, h3, h4, h5⟩ := F.ex
  exact ⟨fa, _, ps, h1, h4, h5, fn_bad⟩
theorem cf0d {x : Str} {st : Stmt} {ps : List Str} {dl : List Val} (F : DFD K mg x st ps dl) {d : Def} : CFD P w K mg base t (0 + 3) x dl (mOf D gl t.S 0 d) := by
  obtain ⟨fa, oc, od, dV, kV, doc, pm, an, cdv, ct, osl, dvs, h1, h2, h3, h4, h5, h6⟩ := F.ex
  exact ⟨fa, _, ps, dvs, h1, h4, h5 t, h6, fn_bad⟩
theorem cf1 {k : Nat} (hK : t.K = K) (F : DF K mg "is_whole" s0 ["thing", "low", "high"]) (T : Tx P w K mg base t k) : CF P w K mg base t (k + 1 + 3) "is_whole" (mOf D gl t.S (k + 1) d0) := by
  obtain ⟨fa, oc, od, kV, doc, pm, an, cdv, ct, osl, h1, h2, h3, h4, h5⟩ := F.ex
  exact ⟨fa, _, _, h1, h4, h5, fn_law hK T.px T.sm h2 h3 sc0 rfl rfl fun A outer s H E O hr => w0 T O hr⟩
theorem cf2 {k : Nat} (hK : t.K = K) (F : DF K mg "is_letters" s1 ["thing", "most"]) (T : Tx P w K mg base t k) : CF P w K mg base t (k + 1 + 3) "is_letters" (mOf D gl t.S (k + 1) d1) := by
  obtain ⟨fa, oc, od, kV, doc, pm, an, cdv, ct, osl, h1, h2, h3, h4, h5⟩ := F.ex
  exact ⟨fa, _, _, h1, h4, h5, fn_law hK T.px T.sm h2 h3 sc1 rfl rfl fun A outer s H E O hr => w1 T O hr⟩
theorem cf3 {k : Nat} (hK : t.K = K) (F : DF K mg "is_name" s2 ["thing"]) (T : Tx P w K mg base t k) : CF P w K mg base t (k + 1 + 3) "is_name" (mOf D gl t.S (k + 1) d2) := by
  obtain ⟨fa, oc, od, kV, doc, pm, an, cdv, ct, osl, h1, h2, h3, h4, h5⟩ := F.ex
  exact ⟨fa, _, _, h1, h4, h5, fn_law hK T.px T.sm h2 h3 sc2 rfl rfl fun A outer s H E O hr => w2 T O hr⟩
theorem cf4 {k : Nat} (hK : t.K = K) (F : DF K mg "whole_in" s3 ["thing", "low", "high"]) (T : Tx P w K mg base t k) : CF P w K mg base t (k + 1 + 3) "whole_in" (mOf D gl t.S (k + 1) d3) := by
  obtain ⟨fa, oc, od, kV, doc, pm, an, cdv, ct, osl, h1, h2, h3, h4, h5⟩ := F.ex
  exact ⟨fa, _, _, h1, h4, h5, fn_law hK T.px T.sm h2 h3 sc3 rfl rfl fun A outer s H E O hr => w3 T O hr⟩
theorem cf5 {k : Nat} (hK : t.K = K) (F : DF K mg "part_in" s4 ["text"]) (T : Tx P w K mg base t k) : CF P w K mg base t (k + 1 + 3) "part_in" (mOf D gl t.S (k + 1) d4) := by
  obtain ⟨fa, oc, od, kV, doc, pm, an, cdv, ct, osl, h1, h2, h3, h4, h5⟩ := F.ex
  exact ⟨fa, _, _, h1, h4, h5, fn_law hK T.px T.sm h2 h3 sc4 rfl rfl fun A outer s H E O hr => w4 T O hr⟩
theorem cf6 {k : Nat} (hK : t.K = K) (F : DF K mg "parts_in" s5 ["thing"]) (T : Tx P w K mg base t k) : CF P w K mg base t (k + 1 + 3) "parts_in" (mOf D gl t.S (k + 1) d5) := by
  obtain ⟨fa, oc, od, kV, doc, pm, an, cdv, ct, osl, h1, h2, h3, h4, h5⟩ := F.ex
  exact ⟨fa, _, _, h1, h4, h5, fn_law hK T.px T.sm h2 h3 sc5 rfl rfl fun A outer s H E O hr => w5 T O hr⟩
theorem cf7 {k : Nat} (hK : t.K = K) (F : DF K mg "is_mark" s6 ["thing"]) (T : Tx P w K mg base t k) : CF P w K mg base t (k + 1 + 3) "is_mark" (mOf D gl t.S (k + 1) d6) := by
  obtain ⟨fa, oc, od, kV, doc, pm, an, cdv, ct, osl, h1, h2, h3, h4, h5⟩ := F.ex
  exact ⟨fa, _, _, h1, h4, h5, fn_law hK T.px T.sm h2 h3 sc6 rfl rfl fun A outer s H E O hr => w6 T O hr⟩
theorem cf8 {k : Nat} (hK : t.K = K) (F : DF K mg "mark_parts" s7 ["mark"]) (T : Tx P w K mg base t k) : CF P w K mg base t (k + 1 + 3) "mark_parts" (mOf D gl t.S (k + 1) d7) := by
  obtain ⟨fa, oc, od, kV, doc, pm, an, cdv, ct, osl, h1, h2, h3, h4, h5⟩ := F.ex
  exact ⟨fa, _, _, h1, h4, h5, fn_law hK T.px T.sm h2 h3 sc7 rfl rfl fun A outer s H E O hr => w7 T O hr⟩
theorem cf9 {k : Nat} (hK : t.K = K) (F : DF K mg "part_rank" s8 ["part"]) (T : Tx P w K mg base t k) : CF P w K mg base t (k + 1 + 3) "part_rank" (mOf D gl t.S (k + 1) d8) := by
  obtain ⟨fa, oc, od, kV, doc, pm, an, cdv, ct, osl, h1, h2, h3, h4, h5⟩ := F.ex
  exact ⟨fa, _, _, h1, h4, h5, fn_law hK T.px T.sm h2 h3 sc8 rfl rfl fun A outer s H E O hr => w8 T O hr⟩
theorem cf10 {k : Nat} (hK : t.K = K) (F : DF K mg "mark_rank" s9 ["mark"]) (T : Tx P w K mg base t k) : CF P w K mg base t (k + 1 + 3) "mark_rank" (mOf D gl t.S (k + 1) d9) := by
  obtain ⟨fa, oc, od, kV, doc, pm, an, cdv, ct, osl, h1, h2, h3, h4, h5⟩ := F.ex
  exact ⟨fa, _, _, h1, h4, h5, fn_law hK T.px T.sm h2 h3 sc9 rfl rfl fun A outer s H E O hr => w9 T O hr⟩
theorem cf11 {k : Nat} (hK : t.K = K) (F : DF K mg "is_size" s10 ["thing"]) (T : Tx P w K mg base t k) : CF P w K mg base t (k + 1 + 3) "is_size" (mOf D gl t.S (k + 1) d10) := by
  obtain ⟨fa, oc, od, kV, doc, pm, an, cdv, ct, osl, h1, h2, h3, h4, h5⟩ := F.ex
  exact ⟨fa, _, _, h1, h4, h5, fn_law hK T.px T.sm h2 h3 sc10 rfl rfl fun A outer s H E O hr => w10 T O hr⟩
theorem cf12 {k : Nat} (hK : t.K = K) (F : DF K mg "is_width" s11 ["thing"]) (T : Tx P w K mg base t k) : CF P w K mg base t (k + 1 + 3) "is_width" (mOf D gl t.S (k + 1) d11) := by
  obtain ⟨fa, oc, od, kV, doc, pm, an, cdv, ct, osl, h1, h2, h3, h4, h5⟩ := F.ex
  exact ⟨fa, _, _, h1, h4, h5, fn_law hK T.px T.sm h2 h3 sc11 rfl rfl fun A outer s H E O hr => w11 T O hr⟩
theorem cf13 {k : Nat} (hK : t.K = K) (F : DF K mg "need_name" s12 ["thing"]) (T : Tx P w K mg base t k) : CF P w K mg base t (k + 1 + 3) "need_name" (mOf D gl t.S (k + 1) d12) := by
  obtain ⟨fa, oc, od, kV, doc, pm, an, cdv, ct, osl, h1, h2, h3, h4, h5⟩ := F.ex
  exact ⟨fa, _, _, h1, h4, h5, fn_law hK T.px T.sm h2 h3 sc12 rfl rfl fun A outer s H E O hr => w12 T O hr⟩
theorem cf14 {k : Nat} (hK : t.K = K) (F : DF K mg "need_mark" s13 ["thing"]) (T : Tx P w K mg base t k) : CF P w K mg base t (k + 1 + 3) "need_mark" (mOf D gl t.S (k + 1) d13) := by
  obtain ⟨fa, oc, od, kV, doc, pm, an, cdv, ct, osl, h1, h2, h3, h4, h5⟩ := F.ex
  exact ⟨fa, _, _, h1, h4, h5, fn_law hK T.px T.sm h2 h3 sc13 rfl rfl fun A outer s H E O hr => w13 T O hr⟩
theorem cf15 {k : Nat} (hK : t.K = K) (F : DF K mg "need_size" s14 ["thing"]) (T : Tx P w K mg base t k) : CF P w K mg base t (k + 1 + 3) "need_size" (mOf D gl t.S (k + 1) d14) := by
  obtain ⟨fa, oc, od, kV, doc, pm, an, cdv, ct, osl, h1, h2, h3, h4, h5⟩ := F.ex
  exact ⟨fa, _, _, h1, h4, h5, fn_law hK T.px T.sm h2 h3 sc14 rfl rfl fun A outer s H E O hr => w14 T O hr⟩
theorem cf16 {k : Nat} (hK : t.K = K) (F : DF K mg "need_width" s15 ["thing"]) (T : Tx P w K mg base t k) : CF P w K mg base t (k + 1 + 3) "need_width" (mOf D gl t.S (k + 1) d15) := by
  obtain ⟨fa, oc, od, kV, doc, pm, an, cdv, ct, osl, h1, h2, h3, h4, h5⟩ := F.ex
  exact ⟨fa, _, _, h1, h4, h5, fn_law hK T.px T.sm h2 h3 sc15 rfl rfl fun A outer s H E O hr => w15 T O hr⟩
theorem cf17 {k : Nat} (hK : t.K = K) (F : DF K mg "need_volume" s16 ["thing"]) (T : Tx P w K mg base t k) : CF P w K mg base t (k + 1 + 3) "need_volume" (mOf D gl t.S (k + 1) d16) := by
  obtain ⟨fa, oc, od, kV, doc, pm, an, cdv, ct, osl, h1, h2, h3, h4, h5⟩ := F.ex
  exact ⟨fa, _, _, h1, h4, h5, fn_law hK T.px T.sm h2 h3 sc16 rfl rfl fun A outer s H E O hr => w16 T O hr⟩
theorem cf18 {k : Nat} (hK : t.K = K) (F : DF K mg "is_volume" s17 ["thing"]) (T : Tx P w K mg base t k) : CF P w K mg base t (k + 1 + 3) "is_volume" (mOf D gl t.S (k + 1) d17) := by
  obtain ⟨fa, oc, od, kV, doc, pm, an, cdv, ct, osl, h1, h2, h3, h4, h5⟩ := F.ex
  exact ⟨fa, _, _, h1, h4, h5, fn_law hK T.px T.sm h2 h3 sc17 rfl rfl fun A outer s H E O hr => w17 T O hr⟩
theorem cf19 {k : Nat} (hK : t.K = K) (F : DF K mg "volume_rank" s18 ["volume"]) (T : Tx P w K mg base t k) : CF P w K mg base t (k + 1 + 3) "volume_rank" (mOf D gl t.S (k + 1) d18) := by
  obtain ⟨fa, oc, od, kV, doc, pm, an, cdv, ct, osl, h1, h2, h3, h4, h5⟩ := F.ex
  exact ⟨fa, _, _, h1, h4, h5, fn_law hK T.px T.sm h2 h3 sc18 rfl rfl fun A outer s H E O hr => w18 T O hr⟩
theorem cf20 {k : Nat} (hK : t.K = K) (F : DF K mg "volume_ahead" s19 ["one", "other"]) (T : Tx P w K mg base t k) : CF P w K mg base t (k + 1 + 3) "volume_ahead" (mOf D gl t.S (k + 1) d19) := by
  obtain ⟨fa, oc, od, kV, doc, pm, an, cdv, ct, osl, h1, h2, h3, h4, h5⟩ := F.ex
  exact ⟨fa, _, _, h1, h4, h5, fn_law hK T.px T.sm h2 h3 sc19 rfl rfl fun A outer s H E O hr => w19 T O hr⟩
theorem cf21 {k : Nat} (hK : t.K = K) (F : DF K mg "are_in_order" s20 ["things"]) (T : Tx P w K mg base t k) : CF P w K mg base t (k + 1 + 3) "are_in_order" (mOf D gl t.S (k + 1) d20) := by
  obtain ⟨fa, oc, od, kV, doc, pm, an, cdv, ct, osl, h1, h2, h3, h4, h5⟩ := F.ex
  exact ⟨fa, _, _, h1, h4, h5, fn_law hK T.px T.sm h2 h3 sc20 rfl rfl fun A outer s H E O hr => w20 T O hr⟩
theorem cf22 {k : Nat} (hK : t.K = K) (F : DF K mg "_law_cell" s21 ["script", "k"]) (T : Tx P w K mg base t k) : CF P w K mg base t (k + 1 + 3) "_law_cell" (mOf D gl t.S (k + 1) d21) := by
  obtain ⟨fa, oc, od, kV, doc, pm, an, cdv, ct, osl, h1, h2, h3, h4, h5⟩ := F.ex
  exact ⟨fa, _, _, h1, h4, h5, fn_law hK T.px T.sm h2 h3 sc21 rfl rfl fun A outer s H E O hr => w21 T O hr⟩
theorem cf23 {k : Nat} (hK : t.K = K) (F : DF K mg "_law_box" s22 ["cell"]) (T : Tx P w K mg base t k) : CF P w K mg base t (k + 1 + 3) "_law_box" (mOf D gl t.S (k + 1) d22) := by
  obtain ⟨fa, oc, od, kV, doc, pm, an, cdv, ct, osl, h1, h2, h3, h4, h5⟩ := F.ex
  exact ⟨fa, _, _, h1, h4, h5, fn_law hK T.px T.sm h2 h3 sc22 rfl rfl fun A outer s H E O hr => w22 T O hr⟩
theorem cf24 {k : Nat} (hK : t.K = K) (F : DF K mg "_law_take" s23 ["box", "many"]) (T : Tx P w K mg base t k) : CF P w K mg base t (k + 1 + 3) "_law_take" (mOf D gl t.S (k + 1) d23) := by
  obtain ⟨fa, oc, od, kV, doc, pm, an, cdv, ct, osl, h1, h2, h3, h4, h5⟩ := F.ex
  exact ⟨fa, _, _, h1, h4, h5, fn_law hK T.px T.sm h2 h3 sc23 rfl rfl fun A outer s H E O hr => w23 T O hr⟩
theorem cf25 {k : Nat} (hK : t.K = K) (F : DF K mg "_law_letters" s24 ["box", "most"]) (T : Tx P w K mg base t k) : CF P w K mg base t (k + 1 + 3) "_law_letters" (mOf D gl t.S (k + 1) d24) := by
  obtain ⟨fa, oc, od, kV, doc, pm, an, cdv, ct, osl, h1, h2, h3, h4, h5⟩ := F.ex
  exact ⟨fa, _, _, h1, h4, h5, fn_law hK T.px T.sm h2 h3 sc24 rfl rfl fun A outer s H E O hr => w24 T O hr⟩
theorem cf26 {k : Nat} (hK : t.K = K) (F : DF K mg "_law_part" s25 ["box"]) (T : Tx P w K mg base t k) : CF P w K mg base t (k + 1 + 3) "_law_part" (mOf D gl t.S (k + 1) d25) := by
  obtain ⟨fa, oc, od, kV, doc, pm, an, cdv, ct, osl, h1, h2, h3, h4, h5⟩ := F.ex
  exact ⟨fa, _, _, h1, h4, h5, fn_law hK T.px T.sm h2 h3 sc25 rfl rfl fun A outer s H E O hr => w25 T O hr⟩
theorem cf27 {k : Nat} (hK : t.K = K) (F : DF K mg "_law_parts" s26 ["box"]) (T : Tx P w K mg base t k) : CF P w K mg base t (k + 1 + 3) "_law_parts" (mOf D gl t.S (k + 1) d26) := by
  obtain ⟨fa, oc, od, kV, doc, pm, an, cdv, ct, osl, h1, h2, h3, h4, h5⟩ := F.ex
  exact ⟨fa, _, _, h1, h4, h5, fn_law hK T.px T.sm h2 h3 sc26 rfl rfl fun A outer s H E O hr => w26 T O hr⟩
theorem cf28 {k : Nat} (hK : t.K = K) (F : DF K mg "_law_near" s27 ["box", "parts"]) (T : Tx P w K mg base t k) : CF P w K mg base t (k + 1 + 3) "_law_near" (mOf D gl t.S (k + 1) d27) := by
  obtain ⟨fa, oc, od, kV, doc, pm, an, cdv, ct, osl, h1, h2, h3, h4, h5⟩ := F.ex
  exact ⟨fa, _, _, h1, h4, h5, fn_law hK T.px T.sm h2 h3 sc27 rfl rfl fun A outer s H E O hr => w27 T O hr⟩
theorem cf29 {k : Nat} (hK : t.K = K) (F : DF K mg "_law_mark" s28 ["parts"]) (T : Tx P w K mg base t k) : CF P w K mg base t (k + 1 + 3) "_law_mark" (mOf D gl t.S (k + 1) d28) := by
  obtain ⟨fa, oc, od, kV, doc, pm, an, cdv, ct, osl, h1, h2, h3, h4, h5⟩ := F.ex
  exact ⟨fa, _, _, h1, h4, h5, fn_law hK T.px T.sm h2 h3 sc28 rfl rfl fun A outer s H E O hr => w28 T O hr⟩
theorem cf30 {k : Nat} (hK : t.K = K) (F : DF K mg "_law_part_ahead" s29 ["one", "other"]) (T : Tx P w K mg base t k) : CF P w K mg base t (k + 1 + 3) "_law_part_ahead" (mOf D gl t.S (k + 1) d29) := by
  obtain ⟨fa, oc, od, kV, doc, pm, an, cdv, ct, osl, h1, h2, h3, h4, h5⟩ := F.ex
  exact ⟨fa, _, _, h1, h4, h5, fn_law hK T.px T.sm h2 h3 sc29 rfl rfl fun A outer s H E O hr => w29 T O hr⟩
theorem cf31 {k : Nat} (hK : t.K = K) (F : DF K mg "_law_parts_ahead" s30 ["one", "other"]) (T : Tx P w K mg base t k) : CF P w K mg base t (k + 1 + 3) "_law_parts_ahead" (mOf D gl t.S (k + 1) d30) := by
  obtain ⟨fa, oc, od, kV, doc, pm, an, cdv, ct, osl, h1, h2, h3, h4, h5⟩ := F.ex
  exact ⟨fa, _, _, h1, h4, h5, fn_law hK T.px T.sm h2 h3 sc30 rfl rfl fun A outer s H E O hr => w30 T O hr⟩
theorem cf32 {k : Nat} (hK : t.K = K) (F : DF K mg "_law_names" s31 ["box", "many"]) (T : Tx P w K mg base t k) : CF P w K mg base t (k + 1 + 3) "_law_names" (mOf D gl t.S (k + 1) d31) := by
  obtain ⟨fa, oc, od, kV, doc, pm, an, cdv, ct, osl, h1, h2, h3, h4, h5⟩ := F.ex
  exact ⟨fa, _, _, h1, h4, h5, fn_law hK T.px T.sm h2 h3 sc31 rfl rfl fun A outer s H E O hr => w31 T O hr⟩
theorem cf33 {k : Nat} (hK : t.K = K) (F : DF K mg "_law_marks" s32 ["box", "many"]) (T : Tx P w K mg base t k) : CF P w K mg base t (k + 1 + 3) "_law_marks" (mOf D gl t.S (k + 1) d32) := by
  obtain ⟨fa, oc, od, kV, doc, pm, an, cdv, ct, osl, h1, h2, h3, h4, h5⟩ := F.ex
  exact ⟨fa, _, _, h1, h4, h5, fn_law hK T.px T.sm h2 h3 sc32 rfl rfl fun A outer s H E O hr => w32 T O hr⟩
theorem cf34 {k : Nat} (hK : t.K = K) (F : DF K mg "_law_width" s33 ["box"]) (T : Tx P w K mg base t k) : CF P w K mg base t (k + 1 + 3) "_law_width" (mOf D gl t.S (k + 1) d33) := by
  obtain ⟨fa, oc, od, kV, doc, pm, an, cdv, ct, osl, h1, h2, h3, h4, h5⟩ := F.ex
  exact ⟨fa, _, _, h1, h4, h5, fn_law hK T.px T.sm h2 h3 sc33 rfl rfl fun A outer s H E O hr => w33 T O hr⟩
theorem cf35 {k : Nat} (hK : t.K = K) (F : DF K mg "_law_drawn_volumes" s34 ["box", "many"]) (T : Tx P w K mg base t k) : CF P w K mg base t (k + 1 + 3) "_law_drawn_volumes" (mOf D gl t.S (k + 1) d34) := by
  obtain ⟨fa, oc, od, kV, doc, pm, an, cdv, ct, osl, h1, h2, h3, h4, h5⟩ := F.ex
  exact ⟨fa, _, _, h1, h4, h5, fn_law hK T.px T.sm h2 h3 sc34 rfl rfl fun A outer s H E O hr => w34 T O hr⟩
theorem cf36 {k : Nat} (hK : t.K = K) (F : DF K mg "_law_read_parts" s35 ["mark"]) (T : Tx P w K mg base t k) : CF P w K mg base t (k + 1 + 3) "_law_read_parts" (mOf D gl t.S (k + 1) d35) := by
  obtain ⟨fa, oc, od, kV, doc, pm, an, cdv, ct, osl, h1, h2, h3, h4, h5⟩ := F.ex
  exact ⟨fa, _, _, h1, h4, h5, fn_law hK T.px T.sm h2 h3 sc35 rfl rfl fun A outer s H E O hr => w35 T O hr⟩
theorem cf37 {k : Nat} (hK : t.K = K) (F : DF K mg "_law_ahead" s36 ["one", "other"]) (T : Tx P w K mg base t k) : CF P w K mg base t (k + 1 + 3) "_law_ahead" (mOf D gl t.S (k + 1) d36) := by
  obtain ⟨fa, oc, od, kV, doc, pm, an, cdv, ct, osl, h1, h2, h3, h4, h5⟩ := F.ex
  exact ⟨fa, _, _, h1, h4, h5, fn_law hK T.px T.sm h2 h3 sc36 rfl rfl fun A outer s H E O hr => w36 T O hr⟩
theorem cf38 {k : Nat} (hK : t.K = K) (F : DF K mg "_law_sorted" s37 ["volumes"]) (T : Tx P w K mg base t k) : CF P w K mg base t (k + 1 + 3) "_law_sorted" (mOf D gl t.S (k + 1) d37) := by
  obtain ⟨fa, oc, od, kV, doc, pm, an, cdv, ct, osl, h1, h2, h3, h4, h5⟩ := F.ex
  exact ⟨fa, _, _, h1, h4, h5, fn_law hK T.px T.sm h2 h3 sc37 rfl rfl fun A outer s H E O hr => w37 T O hr⟩
theorem cf39 {k : Nat} (hK : t.K = K) (F : DF K mg "_law_bad" s38 ["box", "volume"]) (T : Tx P w K mg base t k) : CF P w K mg base t (k + 1 + 3) "_law_bad" (mOf D gl t.S (k + 1) d38) := by
  obtain ⟨fa, oc, od, kV, doc, pm, an, cdv, ct, osl, h1, h2, h3, h4, h5⟩ := F.ex
  exact ⟨fa, _, _, h1, h4, h5, fn_law hK T.px T.sm h2 h3 sc38 rfl rfl fun A outer s H E O hr => w38 T O hr⟩
theorem cf40 {k : Nat} (hK : t.K = K) (F : DF K mg "_law_due" s39 ["thing"]) (T : Tx P w K mg base t k) : CF P w K mg base t (k + 1 + 3) "_law_due" (mOf D gl t.S (k + 1) d39) := by
  obtain ⟨fa, oc, od, kV, doc, pm, an, cdv, ct, osl, h1, h2, h3, h4, h5⟩ := F.ex
  exact ⟨fa, _, _, h1, h4, h5, fn_law hK T.px T.sm h2 h3 sc39 rfl rfl fun A outer s H E O hr => w39 T O hr⟩
theorem cf41 {k : Nat} (hK : t.K = K) (F : DF K mg "_law_told" s40 ["one", "other"]) (T : Tx P w K mg base t k) : CF P w K mg base t (k + 1 + 3) "_law_told" (mOf D gl t.S (k + 1) d40) := by
  obtain ⟨fa, oc, od, kV, doc, pm, an, cdv, ct, osl, h1, h2, h3, h4, h5⟩ := F.ex
  exact ⟨fa, _, _, h1, h4, h5, fn_law hK T.px T.sm h2 h3 sc40 rfl rfl fun A outer s H E O hr => w40 T O hr⟩
theorem cf42 {k : Nat} (hK : t.K = K) (F : DF K mg "_law_pairs_right" s41 ["volumes"]) (T : Tx P w K mg base t k) : CF P w K mg base t (k + 1 + 3) "_law_pairs_right" (mOf D gl t.S (k + 1) d41) := by
  obtain ⟨fa, oc, od, kV, doc, pm, an, cdv, ct, osl, h1, h2, h3, h4, h5⟩ := F.ex
  exact ⟨fa, _, _, h1, h4, h5, fn_law hK T.px T.sm h2 h3 sc41 rfl rfl fun A outer s H E O hr => w41 T O hr⟩
theorem cf43 {k : Nat} (hK : t.K = K) (F : DF K mg "_law_row_due" s42 ["things"]) (T : Tx P w K mg base t k) : CF P w K mg base t (k + 1 + 3) "_law_row_due" (mOf D gl t.S (k + 1) d42) := by
  obtain ⟨fa, oc, od, kV, doc, pm, an, cdv, ct, osl, h1, h2, h3, h4, h5⟩ := F.ex
  exact ⟨fa, _, _, h1, h4, h5, fn_law hK T.px T.sm h2 h3 sc42 rfl rfl fun A outer s H E O hr => w42 T O hr⟩
theorem cf44 {k : Nat} (hK : t.K = K) (F : DF K mg "_law_row_right" s43 ["box", "volumes"]) (T : Tx P w K mg base t k) : CF P w K mg base t (k + 1 + 3) "_law_row_right" (mOf D gl t.S (k + 1) d43) := by
  obtain ⟨fa, oc, od, kV, doc, pm, an, cdv, ct, osl, h1, h2, h3, h4, h5⟩ := F.ex
  exact ⟨fa, _, _, h1, h4, h5, fn_law hK T.px T.sm h2 h3 sc43 rfl rfl fun A outer s H E O hr => w43 T O hr⟩
theorem cf45 {k : Nat} (hK : t.K = K) (F : DF K mg "law" s44 ["script"]) (T : Tx P w K mg base t k) : CF P w K mg base t (k + 1 + 3) "law" (mOf D gl t.S (k + 1) d44) := by
  obtain ⟨fa, oc, od, kV, doc, pm, an, cdv, ct, osl, h1, h2, h3, h4, h5⟩ := F.ex
  exact ⟨fa, _, _, h1, h4, h5, fn_law hK T.px T.sm h2 h3 sc44 rfl rfl fun A outer s H E O hr => w44 T O hr⟩
theorem tx_all (hK : t.K = K) (px : t.ex = none) (sm : ∃ mm, base.Ns sysModules mm) (F : Fx K mg t.ga) : ∀ k, Tx P w K mg base t k
  | 0 => ⟨sm, px, re_NoMark F.rt F.r_NoMark, re_NoName F.rt F.r_NoName, re_NoNumber F.rt F.r_NoNumber, re_NoVolume F.rt F.r_NoVolume, ⟨F.h_ShelvesError⟩, ⟨F.h_NoNumber⟩, ⟨F.h_NoMark⟩, ⟨F.h_NoName⟩, ⟨F.h_NoVolume⟩, F.e_NoNumber_found, F.e_NoMark_found, F.e_NoName_found, F.e_NoVolume_found, F.n_all, F.n_bool, F.n_int, F.n_isinstance, F.n_len, F.n_list, F.n_max, F.n_min, F.n_range, F.n_repr, F.n_str, F.n_tuple, F.n_zip, F.c_FIGURES, F.c_LETTERS, F.c_MOST_LETTERS, F.c_MOST_NUMBER, F.c_MOST_PARTS, F.c_MOST_SIGNS, F.c_MOST_SIZE, F.c_MOST_WIDTH, cf0 F.g_is_whole, cf0 F.g_is_letters, cf0 F.g_is_name, cf0 F.g_whole_in, cf0 F.g_part_in, cf0 F.g_parts_in, cf0 F.g_is_mark, cf0 F.g_mark_parts, cf0 F.g_part_rank, cf0 F.g_mark_rank, cf0 F.g_is_size, cf0 F.g_is_width, cf0 F.g_need_name, cf0 F.g_need_mark, cf0 F.g_need_size, cf0 F.g_need_width, cf0 F.g_need_volume, cf0 F.g_is_volume, cf0 F.g_volume_rank, cf0 F.g_volume_ahead, cf0 F.g_are_in_order, cf0 F.g__law_cell, cf0 F.g__law_box, cf0 F.g__law_take, cf0 F.g__law_letters, cf0 F.g__law_part, cf0 F.g__law_parts, cf0 F.g__law_near, cf0 F.g__law_mark, cf0 F.g__law_part_ahead, cf0 F.g__law_parts_ahead, cf0 F.g__law_names, cf0 F.g__law_marks, cf0 F.g__law_width, cf0 F.g__law_drawn_volumes, cf0 F.g__law_read_parts, cf0 F.g__law_ahead, cf0 F.g__law_sorted, cf0 F.g__law_bad, cf0 F.g__law_due, cf0 F.g__law_told, cf0 F.g__law_pairs_right, cf0 F.g__law_row_due, cf0 F.g__law_row_right, cf0 F.g_law⟩
  | k + 1 => ⟨sm, px, re_NoMark F.rt F.r_NoMark, re_NoName F.rt F.r_NoName, re_NoNumber F.rt F.r_NoNumber, re_NoVolume F.rt F.r_NoVolume, ⟨F.h_ShelvesError⟩, ⟨F.h_NoNumber⟩, ⟨F.h_NoMark⟩, ⟨F.h_NoName⟩, ⟨F.h_NoVolume⟩, F.e_NoNumber_found, F.e_NoMark_found, F.e_NoName_found, F.e_NoVolume_found, F.n_all, F.n_bool, F.n_int, F.n_isinstance, F.n_len, F.n_list, F.n_max, F.n_min, F.n_range, F.n_repr, F.n_str, F.n_tuple, F.n_zip, F.c_FIGURES, F.c_LETTERS, F.c_MOST_LETTERS, F.c_MOST_NUMBER, F.c_MOST_PARTS, F.c_MOST_SIGNS, F.c_MOST_SIZE, F.c_MOST_WIDTH, cf1 hK F.g_is_whole (tx_all hK px sm F k), cf2 hK F.g_is_letters (tx_all hK px sm F k), cf3 hK F.g_is_name (tx_all hK px sm F k), cf4 hK F.g_whole_in (tx_all hK px sm F k), cf5 hK F.g_part_in (tx_all hK px sm F k), cf6 hK F.g_parts_in (tx_all hK px sm F k), cf7 hK F.g_is_mark (tx_all hK px sm F k), cf8 hK F.g_mark_parts (tx_all hK px sm F k), cf9 hK F.g_part_rank (tx_all hK px sm F k), cf10 hK F.g_mark_rank (tx_all hK px sm F k), cf11 hK F.g_is_size (tx_all hK px sm F k), cf12 hK F.g_is_width (tx_all hK px sm F k), cf13 hK F.g_need_name (tx_all hK px sm F k), cf14 hK F.g_need_mark (tx_all hK px sm F k), cf15 hK F.g_need_size (tx_all hK px sm F k), cf16 hK F.g_need_width (tx_all hK px sm F k), cf17 hK F.g_need_volume (tx_all hK px sm F k), cf18 hK F.g_is_volume (tx_all hK px sm F k), cf19 hK F.g_volume_rank (tx_all hK px sm F k), cf20 hK F.g_volume_ahead (tx_all hK px sm F k), cf21 hK F.g_are_in_order (tx_all hK px sm F k), cf22 hK F.g__law_cell (tx_all hK px sm F k), cf23 hK F.g__law_box (tx_all hK px sm F k), cf24 hK F.g__law_take (tx_all hK px sm F k), cf25 hK F.g__law_letters (tx_all hK px sm F k), cf26 hK F.g__law_part (tx_all hK px sm F k), cf27 hK F.g__law_parts (tx_all hK px sm F k), cf28 hK F.g__law_near (tx_all hK px sm F k), cf29 hK F.g__law_mark (tx_all hK px sm F k), cf30 hK F.g__law_part_ahead (tx_all hK px sm F k), cf31 hK F.g__law_parts_ahead (tx_all hK px sm F k), cf32 hK F.g__law_names (tx_all hK px sm F k), cf33 hK F.g__law_marks (tx_all hK px sm F k), cf34 hK F.g__law_width (tx_all hK px sm F k), cf35 hK F.g__law_drawn_volumes (tx_all hK px sm F k), cf36 hK F.g__law_read_parts (tx_all hK px sm F k), cf37 hK F.g__law_ahead (tx_all hK px sm F k), cf38 hK F.g__law_sorted (tx_all hK px sm F k), cf39 hK F.g__law_bad (tx_all hK px sm F k), cf40 hK F.g__law_due (tx_all hK px sm F k), cf41 hK F.g__law_told (tx_all hK px sm F k), cf42 hK F.g__law_pairs_right (tx_all hK px sm F k), cf43 hK F.g__law_row_due (tx_all hK px sm F k), cf44 hK F.g__law_row_right (tx_all hK px sm F k), cf45 hK F.g_law (tx_all hK px sm F k)⟩
end
end Mi


namespace Mi
open PySem (Str PyData)
open PySem.NumText (AllDigits digitsVal)
theorem fig_is : z5.cps.toList = [48,49,50,51,52,53,54,55,56,57] := by decide +kernel
theorem fig_mem (c : Nat) : c ∈ z5.cps.toList ↔ 48 ≤ c ∧ c ≤ 57 := by
  rw [fig_is]
  simp
  omega
theorem zr_is : z0 = ⟨#[48]⟩ := by decide +kernel
theorem ze_is : z1 = ⟨#[]⟩ := by decide +kernel
def dg (c : Nat) : Bool := decide (c ∈ z5.cps.toList)
theorem dg_iff {c : Nat} : dg c = true ↔ 48 ≤ c ∧ c ≤ 57 := by
  unfold dg
  rw [decide_eq_true_iff, fig_mem]
theorem all_dg {l : List Nat} : l.all dg = true ↔ AllDigits l := by
  rw [List.all_eq_true]
  exact ⟨fun h c hc => dg_iff.mp (h c hc), fun h c hc => dg_iff.mpr (h c hc)⟩
/-- the number that the signs are, if they are a number's and it lies there -/
def rdS (l : List Nat) (lo hi : Int) : Val :=
  if l = [] ∨ l.all dg = false ∨ (l.head? = some 48 ∧ 1 < l.length) then .non
  else if lo ≤ (digitsVal l : Int) ∧ (digitsVal l : Int) ≤ hi then .int (digitsVal l) else .non
def rdV (v : Val) (lo hi : Int) : Val := match v with | .str x => rdS (TL.tl x) lo hi | _ => .non
theorem fold_ge : ∀ (l : List Nat) (a : Nat), a * 10 ^ l.length ≤ l.foldl (fun acc c => acc * 10 + (c - 48)) a
  | [], a => by simp
  | c :: r, a => by
    have := fold_ge r (a * 10 + (c - 48))
    rw [List.foldl_cons, List.length_cons, Nat.pow_succ]
    refine Nat.le_trans ?_ this
    have : a * (10 ^ r.length * 10) = (a * 10) * 10 ^ r.length := by rw [Nat.mul_comm (10 ^ r.length) 10, ← Nat.mul_assoc]
    rw [this]
    exact Nat.mul_le_mul_right _ (Nat.le_add_right _ _)
theorem fold_lt : ∀ (l : List Nat) (a : Nat), AllDigits l → l.foldl (fun acc c => acc * 10 + (c - 48)) a < (a + 1) * 10 ^ l.length
  | [], a, _ => by simp
  | c :: r, a, h => by
    have hc := h.head
    have := fold_lt r (a * 10 + (c - 48)) h.tail
    rw [List.foldl_cons, List.length_cons, Nat.pow_succ]
    refine Nat.lt_of_lt_of_le this ?_
    have e : (a + 1) * (10 ^ r.length * 10) = ((a + 1) * 10) * 10 ^ r.length := by rw [Nat.mul_comm (10 ^ r.length) 10, ← Nat.mul_assoc]
    rw [e]
    exact Nat.mul_le_mul_right _ (by omega)
theorem val_snoc (l : List Nat) (c : Nat) : digitsVal (l ++ [c]) = digitsVal l * 10 + (c - 48) := by
  unfold digitsVal
  rw [List.foldl_append]
  rfl
theorem istr_pos {hi : Int} (h0 : 0 ≤ hi) : 1 ≤ (istr hi).length := by
  obtain ⟨n, rfl⟩ := Int.eq_ofNat_of_zero_le h0
  unfold istr
  rw [len_tl, TL.tl_num]
  have := TL.numL_ne n
  cases e : TL.numL n with
  | nil => exact absurd e this
  | cons a b => simp
theorem istr_le {hi : Int} {k : Nat} (h0 : 0 ≤ hi) (hk : 0 < k) (h1 : hi < 10 ^ k) : (istr hi).length ≤ k := by
  unfold istr
  exact PyProof.Rows.toString_length_le h0 hk h1
/-- more signs than the highest: it is higher -/
theorem too_long {c : Nat} {r : List Nat} {hi : Int} (h0 : 0 ≤ hi) (hd : AllDigits (c :: r)) (hc : c ≠ 48) (hl : (istr hi).length < r.length + 1) : hi < (digitsVal (c :: r) : Int) := by
  obtain ⟨n, rfl⟩ := Int.eq_ofNat_of_zero_le h0
  unfold istr at hl
  rw [len_tl, TL.tl_num] at hl
  have h1 : n < 10 ^ (TL.numL n).length := by
    have := fold_lt (TL.numL n) 0 (TL.numL_digits n)
    have e := TL.numL_val n
    unfold digitsVal at e
    rw [e] at this
    simpa using this
  have h2 := fold_ge r (0 * 10 + (c - 48))
  have hc2 := hd.head
  have h3 : 10 ^ r.length ≤ digitsVal (c :: r) := by
    refine Nat.le_trans ?_ h2
    have : 1 ≤ 0 * 10 + (c - 48) := by omega
    simpa using Nat.mul_le_mul_right (10 ^ r.length) this
  have h4 : 10 ^ (TL.numL n).length ≤ 10 ^ r.length := Nat.pow_le_pow_right (by decide) (by omega)
  omega
abbrev lets : Str := z3
def lettS (x : Str) (most : Int) : Bool := decide (1 ≤ (x.length : Int)) && decide ((x.length : Int) ≤ most) && (TL.tl x).all fun c => decide (c ∈ lets.cps.toList)
theorem rdS_cases (l : List Nat) (lo hi : Int) : rdS l lo hi = .non ∨ ∃ i, rdS l lo hi = .int i := by
  unfold rdS
  split
  · exact .inl rfl
  · split
    · exact .inr ⟨_, rfl⟩
    · exact .inl rfl
/-- the part that a text writes -/
def prtV (x : Str) : Val := match rdS (TL.tl x) 0 999999 with
  | .int i => .int i
  | _ => if lettS x 6 then .str x else .non
section
variable {S : List Int} {L : Nat} {n c : Nat} {h : Heap} {Q : RQ Val} {E : RE}
theorem c_take {m : Int} (B : Bx n c h) (hc : c < 100000000) (hm : 0 < m ∧ m < 1073741824) (Z : ∀ (x : Int) (h' : Heap), 0 ≤ x → x < m → Bx n (c + 1) h' → Fx1 n h h' → h'.length = h.length → Q (.int x) h') :
    (calls D gl S (L + 1) 23 [.ref n, .int m] h).sat Q E :=
  ok_take (d := d23) rfl rfl rfl (by decide) B hc hm Z
theorem c_cell {k : Int} (h0 : 0 ≤ k) (h1 : k < 1000) (Z : ∀ c : Int, Q (.int c) h) : (calls D gl S (L + 1) 21 [.scr, .int k] h).sat Q E := ok_cell (d := d21) rfl rfl rfl (by decide) h0 h1 Z
theorem c_box {c : Int} (Z : ∀ (n : Nat) (h' : Heap), n = h.length → Bx n 0 h' → Fr h h' → h'.length = h.length + 1 → Q (.ref n) h') : (calls D gl S (L + 1) 22 [.int c] h).sat Q E := ok_box (d := d22) rfl rfl rfl Z
theorem c_wholein {x : Str} {lo hi : Int} (hx : x.length ≤ 500) (h0 : 0 ≤ hi) (hb : hi < 10 ^ 31) (Z : ∀ (h' : Heap), Fr h h' → Q (rdS (TL.tl x) lo hi) h') : (calls D gl S (L + 1) 3 [.str x, .int lo, .int hi] h).sat Q E := by
  show (runDef ⟨calls D gl S L, gl, S, none⟩ d3 [.str x, .int lo, .int hi] h).sat _ _
  unfold runDef startV d3 b3
  replace Z : ∀ h', Fr h h' → Q (rdS x.cps.toList lo hi) h' := Z
  have hl : x.cps.toList.length ≤ 500 := by simpa [Str.length] using hx
  have hxl : x.length = x.cps.toList.length := by simp [Str.length]
  by_cases hz : x = z1
  · have e : x.cps.toList = [] := by rw [hz, ze_is]
    rw [e] at Z
    simp [okTy, isTy, hz]
    exact Z _ (Fr.refl _)
  · have hne : x.cps.toList ≠ [] := fun e => hz (TL.ext_tl (by rw [ze_is]; exact e))
    simp [okTy, isTy, hz]
    rw [lcF_map (k := fun c => Val.str ⟨#[c]⟩) (f := fun c => .bl (dg c)) rfl (fun c hc => ⟨_, rfl, by simp, by simp [gl, dg]⟩) (by simp; simpa using Nat.le_trans hl (by decide : 500 ≤ 16777216))]
    simp only [sat_ok, List.nil_append]
    generalize hX : x.cps.toList = l at *
    refine sat_new fun p h1 e1 el1 l1 F1 => ?_
    rw [pri_all (bs := l.map dg) (by rw [e1]; simp)]
    simp only [sat_ok, truB_bl, List.all_map, Function.id_comp]
    cases hall : l.all dg with
    | false =>
      have e : rdS l lo hi = .non := by simp [rdS, hall]
      rw [e] at Z
      have : (l.all (id ∘ dg)) = false := hall
      simp [this]
      exact Z _ F1
    | true =>
      have : (l.all (id ∘ dg)) = true := hall
      have hd := all_dg.mp hall
      simp [this]
      obtain ⟨c, r, rfl⟩ := List.exists_cons_of_ne_nil hne
      have hi2 : hi.natAbs.log2 < 1920 := log2_small (Nat.lt_of_lt_of_le (show hi.natAbs < 10 ^ 31 by omega) (Nat.pow_le_pow_right (by decide) (by decide)))
      have ix : idxV ⟨calls D gl S L, gl, S, none⟩ (.str x) (.int 0) h1 = .ok (.str ⟨#[c]⟩) h1 := by
        unfold idxV
        simp [hX, L2.atI, L2.ixN, show x.length ≤ 16777216 by omega]
      have hpos := istr_pos h0
      have hle := istr_le h0 (by decide : 0 < 31) (by simpa using hb)
      have hint := PySem.intText_digits (x := x) (by rw [hX]; exact hd) (by rw [hX]; simp) (by omega)
      rw [hX] at hint
      simp [ix, zr_is]
      by_cases c48 : c = 48
      · subst c48
        cases r with
        | nil =>
          have hx0 : x = ⟨#[48]⟩ := TL.ext_tl hX
          subst hx0
          have e : rdS [48] lo hi = if lo ≤ 0 ∧ 0 ≤ hi then .int 0 else .non := by simp [rdS, hall, digitsVal]
          rw [e] at Z
          simp [hi2, show (istr hi).length ≤ 16777216 by omega]
          rw [if_neg (by omega)]
          simp
          rw [pri_int_str hint (by simp)]
          simp [digitsVal]
          by_cases c1 : lo ≤ 0
          · simp [c1, h0] at Z ⊢
            exact Z _ F1
          · simp [c1] at Z ⊢
            exact Z _ F1
        | cons d r =>
          have hx0 : x ≠ ⟨#[48]⟩ := fun e => by rw [e] at hX; simp at hX
          have e : rdS (48 :: d :: r) lo hi = .non := by simp [rdS]
          rw [e] at Z
          simp [hx0]
          exact Z _ F1
      · have hc1 : (⟨#[c]⟩ : Str) ≠ ⟨#[48]⟩ := by simp [c48]
        simp [c48, hi2, show (istr hi).length ≤ 16777216 by omega, show x.length ≤ 16777216 by omega]
        by_cases hlong : (istr hi).length < x.length
        · simp [hlong]
          have hv := too_long h0 hd c48 (by rw [hxl] at hlong; simpa using hlong)
          have e : rdS (c :: r) lo hi = .non := by
            unfold rdS
            split
            · rfl
            · rw [if_neg (by omega)]
          rw [e] at Z
          exact Z _ F1
        · simp [hlong]
          have e : rdS (c :: r) lo hi = if lo ≤ (digitsVal (c :: r) : Int) ∧ (digitsVal (c :: r) : Int) ≤ hi then .int (digitsVal (c :: r)) else .non := by
            unfold rdS
            rw [if_neg]
            simp [hall, c48]
          rw [e] at Z
          rw [pri_int_str hint (by omega)]
          simp
          generalize (digitsVal (c :: r) : Int) = v at *
          by_cases c1 : lo ≤ v
          · by_cases c2 : v ≤ hi
            · simp [c1, c2] at Z ⊢
              exact Z _ F1
            · simp [c1, c2] at Z ⊢
              exact Z _ F1
          · simp [c1] at Z ⊢
            exact Z _ F1
theorem c_letters {x : Str} {most : Int} (hx : x.length ≤ 500) (Z : ∀ (h' : Heap), Fr h h' → Q (.bl (lettS x most)) h') : (calls D gl S (L + 1) 1 [.str x, .int most] h).sat Q E := by
  show (runDef ⟨calls D gl S L, gl, S, none⟩ d1 [.str x, .int most] h).sat _ _
  unfold runDef startV d1 b1
  have hS : x.length ≤ SL := by simp; omega
  simp [pri, tyO, okTy, isTy, lenV, show x.length ≤ 16777216 by omega]
  by_cases c1 : 1 ≤ (x.length : Int)
  · by_cases c2 : (x.length : Int) ≤ most
    · simp [c1, c2, srcR, srcV, walkV]
      rw [lcF_map (k := fun c => Val.str ⟨#[c]⟩) (f := fun c => .bl (decide (c ∈ lets.cps.toList))) rfl (fun c hc => ⟨_, rfl, by simp, by simp [gl, lets]⟩) (by simp [Str.length] at *; omega)]
      try simp
      refine sat_new fun p h1 e1 el1 l1 F1 => ?_
      rw [pri_all (bs := (TL.tl x).map fun c => decide (c ∈ lets.cps.toList)) (by rw [e1]; simp [TL.tl])]
      try simp
      have hn : lettS x most = (TL.tl x).all fun c => decide (c ∈ lets.cps.toList) := by simp [lettS, c1, c2]
      rw [hn] at Z
      have := Z _ F1
      simpa using this
    · have hn : lettS x most = false := by simp [lettS, c2]
      rw [hn] at Z
      simp [c1, c2]
      exact Z _ (Fr.refl _)
  · have hn : lettS x most = false := by simp [lettS, c1]
    rw [hn] at Z
    simp [c1]
    exact Z _ (Fr.refl _)
theorem c_partin {x : Str} (hx : x.length ≤ 500) (Z : ∀ (h' : Heap), Fr h h' → Q (prtV x) h') : (calls D gl S (L + 2) 4 [.str x] h).sat Q E := by
  show (runDef ⟨calls D gl S (L + 1), gl, S, none⟩ d4 [.str x] h).sat _ _
  unfold runDef startV d4 b4
  simp [gl]
  refine c_wholein hx (by decide) (by decide) fun h1 F1 => ?_
  try simp
  rcases rdS_cases (TL.tl x) 0 999999 with e | ⟨i, e⟩
  · have hp : prtV x = if lettS x 6 then .str x else .non := by unfold prtV; rw [e]
    rw [hp] at Z
    simp [e]
    refine c_letters hx fun h2 F2 => ?_
    have := Z _ (F1.trans F2)
    cases c : lettS x 6 <;> simp [c] at this ⊢ <;> exact this
  · have hp : prtV x = .int i := by unfold prtV; rw [e]
    rw [hp] at Z
    simp [e]
    exact Z _ F1
end
end Mi


namespace Mi
open PySem (Str PyData)
def isNon : Val → Bool
  | .non => true
  | _ => false
/-- the parts of a text's pieces -/
def ptO (ts : List Str) : Option (List Val) := if (ts.map prtV).any isNon = true ∨ 4 < ts.length then none else some (ts.map prtV)
/-- a text and its pieces -/
structure Pc (x : Str) (ts : List Str) : Prop where
  spl : PySem.Txt.split x z2 = ts
  le : x.length ≤ 1000
  pc : ∀ t ∈ ts, t.length ≤ 500
  ln : ts.length ≤ 1000
/-- no mark -/
def Bd (h : Heap) (v : Val) : Prop := v = .non ∨ (∃ b, v = .bl b) ∨ (∃ i, v = .int i) ∨ (∃ x ts, v = .str x ∧ Pc x ts ∧ ptO ts = none) ∨ ∃ p, v = .ref p ∧ ((∃ xs, h[p]? = some (.lst xs)) ∨ (∃ xs, h[p]? = some (.tup xs)) ∨ ∃ xs, h[p]? = some (.dic xs))
theorem Bd.fr {h h' : Heap} {v : Val} (T : Bd h v) (F : Fr h h') : Bd h' v := by
  rcases T with r | r | r | r | ⟨p, rfl, ⟨xs, e⟩ | ⟨xs, e⟩ | ⟨xs, e⟩⟩
  · exact .inl r
  · exact .inr (.inl r)
  · exact .inr (.inr (.inl r))
  · exact .inr (.inr (.inr (.inl r)))
  · exact .inr (.inr (.inr (.inr ⟨p, rfl, .inl ⟨xs, F.at e⟩⟩)))
  · exact .inr (.inr (.inr (.inr ⟨p, rfl, .inr (.inl ⟨xs, F.at e⟩)⟩)))
  · exact .inr (.inr (.inr (.inr ⟨p, rfl, .inr (.inr ⟨xs, F.at e⟩)⟩)))
theorem prtV_cases (x : Str) : prtV x = .non ∨ (∃ i, prtV x = .int i) ∨ prtV x = .str x := by
  unfold prtV
  split
  · exact .inr (.inl ⟨_, rfl⟩)
  · split
    · exact .inr (.inr rfl)
    · exact .inl rfl
theorem flat_prt (ts : List Str) : (ts.map prtV).all flat = true := by
  rw [List.all_eq_true]
  intro v hv
  obtain ⟨x, _, rfl⟩ := List.mem_map.mp hv
  rcases prtV_cases x with e | ⟨i, e⟩ | e <;> rw [e] <;> rfl
theorem in_flat {h : Heap} {p : Nat} {xs : List Val} {x : Val} (e : h[p]? = some (.lst xs)) (hx : flat x = true) (hs : xs.all flat = true) : bop .in_ x (.ref p) h = .ok (.bl (xs.any fun y => eqF y x)) h := by
  have : inO h x (.ref p) = some (xs.any fun y => eqF y x) := by
    unfold inO
    dsimp only
    rw [e]
    dsimp only
    rw [if_pos ⟨hx, hs⟩]
  show ofB (inX h x (.ref p)) h = _
  unfold inX
  rw [this]
  rfl
theorem eqF_non (y : Val) : eqF y .non = isNon y := by cases y <;> rfl
section
variable {S : List Int} {L : Nat} {n c : Nat} {h : Heap} {Q : RQ Val} {E : RE}
theorem c_partsin {x : Str} {ts : List Str} (P : Pc x ts)
    (Z : ∀ v h', (match ptO ts with | none => v = .non | some ps => ∃ q, v = .ref q ∧ h'[q]? = some (.lst ps) ∧ h.length ≤ q) → Fr h h' → Q v h') : (calls D gl S (L + 3) 5 [.str x] h).sat Q E := by
  show (runDef ⟨calls D gl S (L + 2), gl, S, none⟩ d5 [.str x] h).sat _ _
  unfold runDef startV d5 b5
  obtain ⟨hs, hle, hpc, hln⟩ := P
  have hd : (z2.length == 0) = false := by decide +kernel
  simp [okTy, isTy]
  rw [show met .split (.str x) [.str z2] h = new (.lst (ts.map .str)) h by
    unfold met
    dsimp only
    rw [if_pos ⟨hd, by simp; omega⟩, hs]]
  refine sat_new fun p1 h1 e1 el1 l1 F1 => ?_
  rw [srcR_lst e1, List.map_map, sat_ok]
  dsimp only
  refine lcF_each (k := fun t => Val.str t) (xs := ts) (fun r a h' => ∃ done, ts = done ++ r ∧ a = done.map prtV ∧ Fr h1 h') ?_ ?_ ?_ ?_ ⟨[], rfl, rfl, Fr.refl _⟩
  · rintro r a h' ⟨done, _, _, F⟩
    exact ok_lst _ _ rfl (F.at e1)
  · rintro i r a h' ⟨done, he, rfl, F⟩
    have := congrArg List.length he
    simp at this ⊢
    omega
  · rintro t r a h' ⟨done, he, rfl, F⟩
    refine ⟨_, rfl, ?_⟩
    simp
    refine c_partin (hpc t (by rw [he]; simp)) fun h2 F2 => ?_
    exact ⟨done ++ [t], by rw [he]; simp, by simp, F.trans F2⟩
  · rintro a h2 ⟨done, he, rfl, F⟩
    rw [List.append_nil] at he
    subst he
    refine sat_new fun q h3 e3 el3 l3 F3 => ?_
    rw [in_flat e3 rfl (flat_prt _)]
    have F03 := F1.trans (F.trans F3)
    simp only [sat_ok, truB_bl, eqF_non]
    have ha : ((ts.map prtV).any fun y => isNon y) = (ts.map prtV).any isNon := rfl
    rw [ha]
    have hp : ptO ts = if (ts.map prtV).any isNon = true ∨ 4 < ts.length then none else some (ts.map prtV) := rfl
    have lF := (F1.trans F).len
    by_cases c1 : (ts.map prtV).any isNon = true
    · rw [if_pos (.inl c1)] at hp
      rw [hp] at Z
      rw [c1]
      simp
      exact Z _ _ rfl F03
    · have c1' : (ts.map prtV).any isNon = false := by simpa using c1
      rw [c1']
      simp [len_lst e3, gl]
      by_cases c2 : 4 < ts.length
      · rw [if_pos (.inr c2)] at hp
        rw [hp] at Z
        have : (4 : Int) < ts.length := by omega
        simp [this]
        exact Z _ _ rfl F03
      · rw [if_neg (fun z => z.elim c1 c2)] at hp
        rw [hp] at Z
        have : ¬ (4 : Int) < ts.length := by omega
        simp [this]
        exact Z _ _ ⟨q, rfl, e3, by omega⟩ F03
theorem c_mpartsO {x : Str} {ts : List Str} {ps : List Val} (P : Pc x ts) (hp : ptO ts = some ps) (Z : ∀ q h', h'[q]? = some (.lst ps) → h.length ≤ q → Fr h h' → Q (.ref q) h') : (calls D gl S (L + 4) 7 [.str x] h).sat Q E := by
  show (runDef ⟨calls D gl S (L + 3), gl, S, none⟩ d7 [.str x] h).sat _ _
  unfold runDef startV d7 b7
  simp
  refine c_partsin P fun v h1 hv F1 => ?_
  rw [hp] at hv
  obtain ⟨q, rfl, e1, hq⟩ := hv
  simp
  exact Z _ _ e1 hq F1
theorem c_mpartsB {v : Val} (b : Bd h v) (ZE : ∀ h', Fr h h' → E 0 [("found", v)] h') : (calls D gl S (L + 4) 7 [v] h).sat Q E := by
  show (runDef ⟨calls D gl S (L + 3), gl, S, none⟩ d7 [v] h).sat _ _
  unfold runDef startV d7 b7
  simp
  refine Res.sat.imp (Q := fun a h' => a = .non ∧ Fr h h') (E := nox) ?_ (fun a h1 z => ?_) (fun _ _ _ z => z.elim)
  · rcases b with rfl | ⟨b, rfl⟩ | ⟨i, rfl⟩ | ⟨x, ts, rfl, P, hp⟩ | ⟨p, rfl, ⟨_, e⟩ | ⟨_, e⟩ | ⟨_, e⟩⟩
    · show (runDef ⟨calls D gl S (L + 2), gl, S, none⟩ d5 [.non] h).sat _ _
      unfold runDef startV d5 b5
      simp [okTy, isTy]
      exact Fr.refl _
    · show (runDef ⟨calls D gl S (L + 2), gl, S, none⟩ d5 [.bl b] h).sat _ _
      unfold runDef startV d5 b5
      simp [okTy, isTy]
      exact Fr.refl _
    · show (runDef ⟨calls D gl S (L + 2), gl, S, none⟩ d5 [.int i] h).sat _ _
      unfold runDef startV d5 b5
      simp [okTy, isTy]
      exact Fr.refl _
    · refine c_partsin P fun v h1 hv F1 => ?_
      rw [hp] at hv
      exact ⟨hv, F1⟩
    · show (runDef ⟨calls D gl S (L + 2), gl, S, none⟩ d5 [.ref p] h).sat _ _
      unfold runDef startV d5 b5
      simp [is_a_lst e, okTy, isTy]
      exact Fr.refl _
    · show (runDef ⟨calls D gl S (L + 2), gl, S, none⟩ d5 [.ref p] h).sat _ _
      unfold runDef startV d5 b5
      simp [is_a_tup e, okTy, isTy]
      exact Fr.refl _
    · show (runDef ⟨calls D gl S (L + 2), gl, S, none⟩ d5 [.ref p] h).sat _ _
      unfold runDef startV d5 b5
      simp [is_a_dic e, okTy, isTy]
      exact Fr.refl _
  · obtain ⟨rfl, F1⟩ := z
    simp
    exact ZE _ F1
end
end Mi


namespace Mi
open PySem (Str PyData)
open PySem.NumText (AllDigits digitsVal)
theorem okd_txt {x : Str} (hx : Okt x) {k : Nat} (hl : x.length ≤ k) : Okd (.str x) 0 (10 * k + 2) := by
  refine ⟨?_, rfl, Nat.le_refl _, ?_⟩
  · have := lay_strs (ys := [x]) (by simpa using hx)
    simpa [PyData.canLayAll0] using this
  · have := PySem.StrLaws.reprText_len x fun c hc => Nat.lt_of_lt_of_le (hx c hc) (by decide)
    show (PySem.reprText x).length ≤ _
    omega
theorem bop_lt_is {X Y : List Nat} {h : Heap} {d e : PyData} {p q : Nat} {n w m v : Nat} (i : Is X h d (.ref p)) (j : Is Y h e (.ref q)) (o : Okd d n w) (o' : Okd e m v) (hn : n ≤ 60) (hm : m ≤ 60) (ha : PySem.W.alike d e = true) (hs : isSqD d = true) :
    bop .lt (.ref p) (.ref q) h = .ok (.bl (PySem.W.dataLt d e)) h := by
  have : ltO h (.ref p) (.ref q) = some (PySem.W.dataLt d e) := by
    unfold ltO
    dsimp only
    rw [i.rd (Nat.le_trans o.dep hn), j.rd (Nat.le_trans o'.dep hm)]
    dsimp only
    rw [if_pos ⟨o.shaped hn, o'.shaped hm, ha, hs, Nat.le_trans o.dep hn⟩]
  show ofB (ltO h _ _) h = _
  rw [this]
  rfl
/-- a part of a mark -/
def GP (v : Val) : Prop := (∃ i : Int, v = .int i ∧ 0 ≤ i ∧ i ≤ 999999) ∨ ∃ x, v = .str x ∧ lettS x 6 = true
def vD : Val → PyData
  | .int i => .int i
  | .str x => .str x
  | _ => .none
def rkD : Val → PyData
  | .int i => .tuple [.int 0, .int i, .str z1]
  | .str x => .tuple [.int 1, .int 0, .str x]
  | _ => .none
theorem lets_lt : ∀ c ∈ lets.cps.toList, 97 ≤ c ∧ c ≤ 122 := by
  have : (lets.cps.toList.all fun c => decide (97 ≤ c ∧ c ≤ 122)) = true := by decide +kernel
  intro c hc
  simpa using List.all_eq_true.mp this c hc
theorem lett_is {x : Str} {m : Int} (h : lettS x m = true) : 1 ≤ (x.length : Int) ∧ (x.length : Int) ≤ m ∧ ∀ c ∈ TL.tl x, 97 ≤ c ∧ c ≤ 122 := by
  unfold lettS at h
  simp only [Bool.and_eq_true, decide_eq_true_eq] at h
  refine ⟨h.1.1, h.1.2, fun c hc => lets_lt c ?_⟩
  simpa using List.all_eq_true.mp h.2 c hc
theorem lett_okt {x : Str} {m : Int} (h : lettS x m = true) : Okt x := fun c hc => by
  have := (lett_is h).2.2 c hc
  omega
theorem GP.vd {v : Val} (g : GP v) : Okd (vD v) 0 70 := by
  rcases g with ⟨i, rfl, h0, h1⟩ | ⟨x, rfl, hx⟩
  · exact (okd_int (k := 10) (by decide) (by have : (10 : Nat) ^ 10 = 10000000000 := by decide
                                             omega) (by decide)).up (by decide) (by decide)
  · exact (okd_txt (k := 6) (lett_okt hx) (by have := (lett_is hx).2.1; omega)).up (by decide) (by decide)
theorem GP.is {v : Val} {X : List Nat} {h : Heap} (g : GP v) : Is X h (vD v) v := by
  rcases g with ⟨i, rfl, h0, h1⟩ | ⟨x, rfl, hx⟩
  · exact is_int
  · exact is_str
theorem okd_three {a b c : PyData} {w : Nat} (x : Okd a 0 w) (y : Okd b 0 w) (z : Okd c 0 w) : Okd (.tuple [a, b, c]) 1 (3 * (w + 2) + 3) := okd_tuple fun d hd => by
  simp at hd
  rcases hd with rfl | rfl | rfl <;> assumption
theorem GP.rk {v : Val} (g : GP v) : Okd (rkD v) 1 220 := by
  have o0 : Okd (.int 0) 0 70 := (okd_int (k := 10) (by decide) (by decide) (by decide)).up (by decide) (by decide)
  have o1 : Okd (.int 1) 0 70 := (okd_int (k := 10) (by decide) (by decide) (by decide)).up (by decide) (by decide)
  have oz : Okd (.str z1) 0 70 := ⟨by decide +kernel, by decide +kernel, by decide, by decide +kernel⟩
  have ov := g.vd
  rcases g with ⟨i, rfl, h0, h1⟩ | ⟨x, rfl, hx⟩
  · exact (okd_three o0 ov oz).up (by decide) (by decide)
  · exact (okd_three o1 o0 ov).up (by decide) (by decide)
theorem isall_vd {X : List Nat} {h : Heap} {ps : List Val} (g : ∀ v ∈ ps, GP v) : IsAll X h (ps.map vD) ps := by
  induction ps with
  | nil => exact isall_nil
  | cons v ps ih => exact isall_cons (g v List.mem_cons_self).is (ih fun w hw => g w (List.mem_cons_of_mem _ hw))
theorem okd_vd {ps : List Val} (g : ∀ v ∈ ps, GP v) (hl : ps.length ≤ 100) : Okd (.list (ps.map vD)) 1 7202 :=
  (okd_list (n := 0) (w := 70) fun d hd => by obtain ⟨v, hv, rfl⟩ := List.mem_map.mp hd; exact (g v hv).vd).up (Nat.le_refl _) (by rw [List.length_map]; omega)
theorem okd_rk {ps : List Val} (g : ∀ v ∈ ps, GP v) (hl : ps.length ≤ 100) : Okd (.list (ps.map rkD)) 2 22202 :=
  (okd_list (n := 1) (w := 220) fun d hd => by obtain ⟨v, hv, rfl⟩ := List.mem_map.mp hd; exact (g v hv).rk).up (Nat.le_refl _) (by rw [List.length_map]; omega)
theorem alike_rk : ∀ {ps qs : List Val}, (∀ v ∈ ps, GP v) → (∀ v ∈ qs, GP v) → PySem.W.alikeAll (ps.map rkD) (qs.map rkD) = true
  | [], qs, _, _ => by simp [PySem.W.alikeAll]
  | p :: ps, [], _, _ => by simp [PySem.W.alikeAll]
  | p :: ps, q :: qs, hp, hq => by
    have ih := alike_rk (ps := ps) (qs := qs) (fun v hv => hp v (List.mem_cons_of_mem _ hv)) (fun v hv => hq v (List.mem_cons_of_mem _ hv))
    have h1 : PySem.W.alike (rkD p) (rkD q) = true := by
      rcases hp p List.mem_cons_self with ⟨i, rfl, _⟩ | ⟨x, rfl, _⟩ <;> rcases hq q List.mem_cons_self with ⟨j, rfl, _⟩ | ⟨y, rfl, _⟩ <;> simp [rkD, PySem.W.alike, PySem.W.alikeAll]
    rw [List.map_cons, List.map_cons, PySem.W.alikeAll, h1, ih]
    rfl
theorem ptO_gp {ts : List Str} {ps : List Val} (h : ptO ts = some ps) : (∀ v ∈ ps, GP v) ∧ ps.length ≤ 4 := by
  unfold ptO at h
  split at h
  · cases h
  · rename_i hn
    cases h
    rw [not_or] at hn
    refine ⟨fun v hv => ?_, by rw [List.length_map]; omega⟩
    obtain ⟨x, hx, rfl⟩ := List.mem_map.mp hv
    have hnn : isNon (prtV x) = false := by
      cases c : isNon (prtV x) with
      | false => rfl
      | true => exact absurd (List.any_eq_true.mpr ⟨_, hv, c⟩) hn.1
    unfold prtV at hnn ⊢
    rcases rdS_cases (TL.tl x) 0 999999 with e | ⟨i, e⟩
    · simp only [e] at hnn ⊢
      by_cases c : lettS x 6 = true
      · rw [if_pos c]
        exact .inr ⟨x, rfl, c⟩
      · rw [if_neg c] at hnn
        cases hnn
    · simp only [e]
      refine .inl ⟨i, rfl, ?_⟩
      unfold rdS at e
      split at e
      · cases e
      · split at e
        · rename_i hb
          cases e
          exact hb
        · cases e
section
variable {S : List Int} {L : Nat} {n c : Nat} {h : Heap} {Q : RQ Val} {E : RE}
theorem c_prank {v : Val} (g : GP v) (Z : ∀ q h', Is [] h' (rkD v) (.ref q) → Fr h h' → Q (.ref q) h') : (calls D gl S (L + 1) 8 [v] h).sat Q E := by
  show (runDef ⟨calls D gl S L, gl, S, none⟩ d8 [v] h).sat _ _
  unfold runDef startV d8 b8
  rcases g with ⟨i, rfl, h0, h1⟩ | ⟨x, rfl, hx⟩
  · simp [okTy, isTy]
    refine sat_new fun p h1 e1 el1 l1 F1 => ?_
    exact Z _ _ (is_tup (by simp) e1 (by simp)) F1
  · simp [okTy, isTy]
    refine sat_new fun p h1 e1 el1 l1 F1 => ?_
    exact Z _ _ (is_tup (by simp) e1 (by simp)) F1
theorem c_mrankO {x : Str} {ts : List Str} {ps : List Val} (P : Pc x ts) (hp : ptO ts = some ps) (Z : ∀ q h', Is [] h' (.list (ps.map rkD)) (.ref q) → Fr h h' → Q (.ref q) h') : (calls D gl S (L + 5) 9 [.str x] h).sat Q E := by
  show (runDef ⟨calls D gl S (L + 4), gl, S, none⟩ d9 [.str x] h).sat _ _
  unfold runDef startV d9 b9
  obtain ⟨hg, hl⟩ := ptO_gp hp
  simp
  refine c_mpartsO P hp fun q1 h1 e1 hq F1 => ?_
  try simp
  rw [srcR_lst e1, sat_ok]
  dsimp only
  refine lcF_each (k := fun v => v) (xs := ps) (fun r a h' => ∃ done, ps = done ++ r ∧ IsAll [] h' (done.map rkD) a ∧ Fr h1 h') ?_ ?_ ?_ ?_ ⟨[], rfl, isall_nil, Fr.refl _⟩
  · rintro r a h' ⟨done, _, _, F⟩
    exact ok_lst _ _ rfl (F.at e1)
  · rintro i r a h' ⟨done, he, ia, F⟩
    have := congrArg List.length he
    have := ia.length
    simp at *
    omega
  · rintro v r a h' ⟨done, he, ia, F⟩
    refine ⟨_, rfl, ?_⟩
    simp
    refine c_prank (L := L + 3) (hg v (by rw [he]; simp)) fun q2 h2 i2 F2 => ?_
    refine ⟨done ++ [v], by rw [he]; simp, ?_, F.trans F2⟩
    rw [List.map_append]
    exact (ia.fr F2).app (isall_cons i2 isall_nil)
  · rintro a h2 ⟨done, he, ia, F⟩
    rw [List.append_nil] at he
    subst he
    refine sat_new fun p3 h3 e3 el3 l3 F3 => ?_
    exact Z _ _ (is_lst (by simp) e3 (ia.fr F3)) (F1.trans (F.trans F3))
theorem c_mrankB {v : Val} (b : Bd h v) (ZE : ∀ h', Fr h h' → E 0 [("found", v)] h') : (calls D gl S (L + 5) 9 [v] h).sat Q E := by
  show (runDef ⟨calls D gl S (L + 4), gl, S, none⟩ d9 [v] h).sat _ _
  unfold runDef startV d9 b9
  simp
  exact c_mpartsB b ZE
def pfx (ps qs : List Val) : Bool := PyData.eqv (.list ((ps.take qs.length).map vD)) (.list (qs.map vD))
theorem pfx_bop {p q : Nat} {ps qs : List Val} (e1 : h[p]? = some (.lst (ps.take qs.length))) (e2 : h[q]? = some (.lst qs)) (hg : ∀ v ∈ ps, GP v) (hg' : ∀ v ∈ qs, GP v) (hl : ps.length ≤ 100) (hl' : qs.length ≤ 100) : bop .eq (.ref p) (.ref q) h = .ok (.bl (pfx ps qs)) h := by
  have ht : ∀ v ∈ ps.take qs.length, GP v := fun v hv => hg v (List.mem_of_mem_take hv)
  exact bop_eq_is (X := []) (Y := []) (is_lst (by simp) e1 (isall_vd ht)) (is_lst (by simp) e2 (isall_vd hg')) (okd_vd ht (by rw [List.length_take]; omega)) (okd_vd hg' hl') (by decide) (by decide)
theorem slc_take {p : Nat} {ps : List Val} {k : Nat} (e : h[p]? = some (.lst ps)) : slcV (.ref p) none (some (k : Int)) h = new (.lst (ps.take k)) h := by
  unfold slcV
  simp only [e]
  rw [six_nat, show HT.sIx ps.length 0 none = 0 from rfl, List.drop_zero, Nat.sub_zero]
  congr 2
  rcases Nat.le_total k ps.length with z | z
  · rw [Nat.min_eq_left z]
  · rw [Nat.min_eq_right z, List.take_length, List.take_of_length_le z]
end
end Mi


namespace Mi
open PySem (Str PyData)
open PySem.NumText (AllDigits digitsVal)
/-! ## texts of parts -/
theorem numL_head : ∀ (k n : Nat), n < 10 ^ k → 10 ≤ n → ∃ c r, TL.numL n = c :: r ∧ c ≠ 48
  | 0, n, h, h2 => by simp at h; omega
  | k + 1, n, h, h2 => by
    rw [TL.numL_step h2]
    by_cases c : n / 10 < 10
    · rw [TL.numL_lt c]
      exact ⟨48 + n / 10, _, rfl, by omega⟩
    · obtain ⟨d, r, e, hd⟩ := numL_head k (n / 10) (by rw [Nat.pow_succ] at h; omega) (by omega)
      rw [e]
      exact ⟨d, _, rfl, hd⟩
theorem rd_num {n : Nat} (h : n ≤ 999999) : rdS (TL.numL n) 0 999999 = .int n := by
  unfold rdS
  have hd : (TL.numL n).all dg = true := all_dg.mpr (TL.numL_digits n)
  have hne := TL.numL_ne n
  have h3 : ¬ ((TL.numL n).head? = some 48 ∧ 1 < (TL.numL n).length) := by
    rintro ⟨h1, h2⟩
    by_cases c : n < 10
    · rw [TL.numL_lt c] at h2
      exact absurd h2 (by simp)
    · obtain ⟨d, r, e, hd⟩ := numL_head 6 n (by omega) (by omega)
      rw [e] at h1
      simp at h1
      exact hd h1
  rw [if_neg (by rw [hd]; rintro (z | z | z); exact hne z; cases z; exact h3 z), TL.numL_val, if_pos ⟨by omega, by omega⟩]
def txt : Val → Str
  | .int i => istr i
  | .str x => x
  | _ => z1
theorem tl_istr {i : Int} (h : 0 ≤ i) : TL.tl (istr i) = TL.numL i.toNat := by
  obtain ⟨n, rfl⟩ := Int.eq_ofNat_of_zero_le h
  exact TL.tl_num n
theorem rd_lett {x : Str} {m : Int} (h : lettS x m = true) : rdS (TL.tl x) 0 999999 = .non := by
  obtain ⟨h1, h2, h3⟩ := lett_is h
  unfold rdS
  rw [if_pos]
  cases e : TL.tl x with
  | nil => exact .inl rfl
  | cons c r =>
    have hc := h3 c (by rw [e]; simp)
    refine .inr (.inl ?_)
    have : dg c = false := by
      cases q : dg c with
      | false => rfl
      | true => have := dg_iff.mp q; omega
    rw [List.all_cons, this, Bool.false_and]
theorem prt_txt {v : Val} (g : GP v) : prtV (txt v) = v := by
  rcases g with ⟨i, rfl, h0, h1⟩ | ⟨x, rfl, hx⟩
  · unfold prtV
    rw [show txt (.int i) = istr i from rfl, tl_istr h0, rd_num (by omega)]
    show Val.int (i.toNat : Int) = _
    rw [Int.toNat_of_nonneg h0]
  · unfold prtV
    rw [show txt (.str x) = x from rfl, rd_lett hx]
    simp [hx]
theorem txt_free {v : Val} (g : GP v) : 46 ∉ TL.tl (txt v) := by
  rcases g with ⟨i, rfl, h0, h1⟩ | ⟨x, rfl, hx⟩
  · rw [show txt (.int i) = istr i from rfl, tl_istr h0]
    exact TL.numL_free (by decide)
  · intro hm
    have := (lett_is hx).2.2 46 hm
    omega
theorem txt_len {v : Val} (g : GP v) : (txt v).length ≤ 6 := by
  rcases g with ⟨i, rfl, h0, h1⟩ | ⟨x, rfl, hx⟩
  · exact istr_le h0 (by decide) (by omega)
  · have := (lett_is hx).2.1
    show x.length ≤ 6
    omega
theorem dot_tl : TL.tl z2 = [46] := by decide +kernel
/-- the text of a mark -/
def mkS (ts : List Str) : Str := PySem.Txt.join z2 ts
theorem mk_split {ts : List Str} (hne : ts ≠ []) (hp : ∀ t ∈ ts, 46 ∉ TL.tl t) : PySem.Txt.split (mkS ts) z2 = ts := TL.split_join dot_tl (by decide +kernel) hne hp
theorem joinL_len {k : Nat} : ∀ {l : List (List Nat)}, (∀ p ∈ l, p.length ≤ k) → (TL.joinL [46] l).length ≤ l.length * (k + 1)
  | [], _ => by simp [TL.joinL]
  | [p], h => by
    have := h p (List.mem_singleton.mpr rfl)
    simp [TL.joinL]
    omega
  | p :: q :: r, h => by
    have h1 := h p List.mem_cons_self
    have ih := joinL_len (l := q :: r) fun z hz => h z (List.mem_cons_of_mem _ hz)
    show (p ++ ([46] ++ TL.joinL [46] (q :: r))).length ≤ _
    simp only [List.length_append, List.length_cons, List.length_nil, Nat.succ_mul] at ih ⊢
    omega
theorem mk_len {ts : List Str} {k : Nat} (h : ∀ t ∈ ts, t.length ≤ k) : (mkS ts).length ≤ ts.length * (k + 1) := by
  rw [len_tl]
  unfold mkS
  rw [TL.join_eq, TL.tl_join, dot_tl]
  have := joinL_len (k := k) (l := ts.map TL.tl) fun p hp => by
    obtain ⟨t, ht, rfl⟩ := List.mem_map.mp hp
    rw [← len_tl]
    exact h t ht
  rwa [List.length_map] at this
theorem mk_pc {ts : List Str} (hne : ts ≠ []) (hp : ∀ t ∈ ts, 46 ∉ TL.tl t) (hl : ∀ t ∈ ts, t.length ≤ 6) (hn : ts.length ≤ 100) : Pc (mkS ts) ts :=
  ⟨mk_split hne hp, by have := mk_len (k := 6) hl; omega, fun t ht => by have := hl t ht; omega, by omega⟩
theorem joinL_snoc : ∀ {l : List (List Nat)}, l ≠ [] → TL.joinL [46] (l ++ [[]]) = TL.joinL [46] l ++ [46]
  | [], h => absurd rfl h
  | [p], _ => by simp [TL.joinL]
  | p :: q :: r, _ => by
    have ih := joinL_snoc (l := q :: r) (by simp)
    show p ++ ([46] ++ TL.joinL [46] ((q :: r) ++ [[]])) = (p ++ ([46] ++ TL.joinL [46] (q :: r))) ++ [46]
    rw [ih]
    simp
theorem mk_snoc {ts : List Str} (hne : ts ≠ []) : mkS ts ++ z2 = mkS (ts ++ [z1]) := by
  refine TL.ext_tl ?_
  rw [TL.tl_append]
  unfold mkS
  rw [TL.join_eq, TL.join_eq, TL.tl_join, TL.tl_join, dot_tl, List.map_append, show [z1].map TL.tl = [[]] from by decide +kernel, joinL_snoc (by simpa using hne)]
/-- what the parts of a mark are -/
structure Pts (ps : List Val) : Prop where
  g : ∀ v ∈ ps, GP v
  ne : ps ≠ []
  le : ps.length ≤ 4
def tsOf (ps : List Val) : List Str := ps.map txt
theorem Pts.pc {ps : List Val} (p : Pts ps) : Pc (mkS (tsOf ps)) (tsOf ps) :=
  mk_pc (by simpa [tsOf] using p.ne) (fun t ht => by obtain ⟨v, hv, rfl⟩ := List.mem_map.mp ht; exact txt_free (p.g v hv)) (fun t ht => by obtain ⟨v, hv, rfl⟩ := List.mem_map.mp ht; exact txt_len (p.g v hv)) (by have := p.le; simp [tsOf]; omega)
theorem map_prt {ps : List Val} (g : ∀ v ∈ ps, GP v) : (tsOf ps).map prtV = ps := by
  unfold tsOf
  rw [List.map_map]
  conv => rhs; rw [← List.map_id ps]
  exact List.map_congr_left fun v hv => prt_txt (g v hv)
theorem Pts.pt {ps : List Val} (p : Pts ps) : ptO (tsOf ps) = some ps := by
  have hl := p.le
  unfold ptO
  rw [map_prt p.g, if_neg]
  rintro (z | z)
  · obtain ⟨v, hv, hz⟩ := List.any_eq_true.mp z
    rcases p.g v hv with ⟨i, rfl, _⟩ | ⟨x, rfl, _⟩ <;> cases hz
  · unfold tsOf at z
    rw [List.length_map] at z
    omega
theorem bad_snoc {ps : List Val} (p : Pts ps) : Pc (mkS (tsOf ps) ++ z2) (tsOf ps ++ [z1]) ∧ ptO (tsOf ps ++ [z1]) = none := by
  have hl := p.le
  have hts : ∀ t ∈ tsOf ps, 46 ∉ TL.tl t ∧ t.length ≤ 6 := fun t ht => by
    obtain ⟨v, hv, rfl⟩ := List.mem_map.mp ht
    exact ⟨txt_free (p.g v hv), txt_len (p.g v hv)⟩
  have hne : tsOf ps ≠ [] := by simpa [tsOf] using p.ne
  refine ⟨?_, ?_⟩
  · rw [mk_snoc hne]
    refine mk_pc (by simp) (fun t ht => ?_) (fun t ht => ?_) (by simp [tsOf]; omega)
    · rcases List.mem_append.mp ht with ht | ht
      · exact (hts t ht).1
      · rw [List.mem_singleton.mp ht]; decide +kernel
    · rcases List.mem_append.mp ht with ht | ht
      · exact (hts t ht).2
      · rw [List.mem_singleton.mp ht]; decide +kernel
  · have ha : ((tsOf ps ++ [z1]).map prtV).any isNon = true := by
      rw [List.map_append, List.any_append, show (([z1] : List Str).map prtV).any isNon = true from by decide +kernel, Bool.or_true]
    exact if_pos (.inl ha)
/-! ## the order -/
def pltV : Val → Val → Bool
  | .int i, .int j => decide (i < j)
  | .int _, .str _ => true
  | .str _, .int _ => false
  | .str x, .str y => decide (x.cps.toList < y.cps.toList)
  | _, _ => false
def plt : List Val → List Val → Bool
  | p :: ps, q :: qs => if p = q then plt ps qs else pltV p q
  | [], _ :: _ => true
  | _, [] => false
theorem rk_eqv {p q : Val} (hp : GP p) (hq : GP q) : PyData.eqv (rkD p) (rkD q) = decide (p = q) := by
  rcases hp with ⟨i, rfl, _⟩ | ⟨x, rfl, _⟩ <;> rcases hq with ⟨j, rfl, _⟩ | ⟨y, rfl, _⟩ <;> simp [rkD, PyData.eqv, PyData.eqvAll] <;> exact Bool.eq_iff_iff.mpr (by simp)
theorem rk_lt {p q : Val} (hp : GP p) (hq : GP q) (h : p ≠ q) : PySem.W.dataLt (rkD p) (rkD q) = pltV p q := by
  rcases hp with ⟨i, rfl, _⟩ | ⟨x, rfl, _⟩ <;> rcases hq with ⟨j, rfl, _⟩ | ⟨y, rfl, _⟩
  · have : i ≠ j := fun z => h (by rw [z])
    unfold rkD
    rw [PySem.W.dataLt_tuple, PySem.W.dataLt_all_yes (by simp [PySem.W.alike]) (by simp [PyData.eqv]), PySem.W.dataLt_all_no (by simp [PySem.W.alike]) (by simpa [PyData.eqv] using this), PySem.W.dataLt_int]
    rfl
  · unfold rkD
    rw [PySem.W.dataLt_tuple, PySem.W.dataLt_all_no (by simp [PySem.W.alike]) (by simp [PyData.eqv]), PySem.W.dataLt_int]
    rfl
  · unfold rkD
    rw [PySem.W.dataLt_tuple, PySem.W.dataLt_all_no (by simp [PySem.W.alike]) (by simp [PyData.eqv]), PySem.W.dataLt_int]
    rfl
  · have : x ≠ y := fun z => h (by rw [z])
    unfold rkD
    rw [PySem.W.dataLt_tuple, PySem.W.dataLt_all_yes (by simp [PySem.W.alike]) (by simp [PyData.eqv]), PySem.W.dataLt_all_yes (by simp [PySem.W.alike]) (by simp [PyData.eqv]), PySem.W.dataLt_all_no (by simp [PySem.W.alike]) (by simpa [PyData.eqv] using this), PySem.W.dataLt_str]
    rfl
theorem plt_is : ∀ {ps qs : List Val}, (∀ v ∈ ps, GP v) → (∀ v ∈ qs, GP v) → PySem.W.dataLt (.list (ps.map rkD)) (.list (qs.map rkD)) = plt ps qs
  | [], [], _, _ => by
    rw [PySem.W.dataLt_list]
    decide +kernel
  | [], q :: qs, _, _ => by
    rw [PySem.W.dataLt_list]
    have := PySem.W.firstLt_toks [] ((q :: qs).map rkD) (by simp [PySem.W.alikeAll])
    simpa [PySem.SeqAt.firstLt, plt] using this.symm
  | p :: ps, [], _, _ => by
    rw [PySem.W.dataLt_list]
    have := PySem.W.firstLt_toks ((p :: ps).map rkD) [] (by simp [PySem.W.alikeAll])
    simpa [PySem.SeqAt.firstLt, plt] using this.symm
  | p :: ps, q :: qs, hp, hq => by
    have gp := hp p List.mem_cons_self
    have gq := hq q List.mem_cons_self
    have ih := plt_is (ps := ps) (qs := qs) (fun v hv => hp v (List.mem_cons_of_mem _ hv)) (fun v hv => hq v (List.mem_cons_of_mem _ hv))
    have ha : PySem.W.alike (rkD p) (rkD q) = true := by
      have := alike_rk (ps := [p]) (qs := [q]) (by simpa using gp) (by simpa using gq)
      simpa [PySem.W.alikeAll] using this
    have he := rk_eqv gp gq
    rw [PySem.W.dataLt_list, List.map_cons, List.map_cons]
    rw [PySem.W.dataLt_list] at ih
    unfold plt
    by_cases c : p = q
    · rw [if_pos c]
      rw [decide_eq_true c] at he
      rw [PySem.W.dataLt_all_yes ha he]
      exact ih
    · rw [if_neg c]
      rw [decide_eq_false c] at he
      rw [PySem.W.dataLt_all_no ha he]
      exact rk_lt gp gq c
end Mi


namespace Mi
open PySem (Str PyData)
theorem lett_of {x : Str} {cs : List Nat} (e : TL.tl x = cs) (h1 : 1 ≤ cs.length) (h2 : cs.length ≤ 6) (h3 : ∀ c ∈ cs, c ∈ lets.cps.toList) : lettS x 6 = true := by
  have hl : x.length = cs.length := by rw [len_tl, e]
  unfold lettS
  rw [e, hl]
  simp only [Bool.and_eq_true, decide_eq_true_eq, List.all_eq_true]
  exact ⟨⟨by omega, by omega⟩, h3⟩
theorem flat_ones (cs : List Nat) : ((cs.map fun c => (⟨#[c]⟩ : Str)).map TL.tl).flatten = cs := by
  induction cs with
  | nil => rfl
  | cons c cs ih => simp only [List.map_cons, List.flatten_cons, ih]; rfl
theorem sum_ones (cs : List Nat) : ((cs.map fun c => (⟨#[c]⟩ : Str)).map (·.length)).sum = cs.length := by
  induction cs with
  | nil => rfl
  | cons c cs ih => simp only [List.map_cons, List.sum_cons, ih, List.length_cons]; show 1 + _ = _; omega
section
variable {S : List Int} {L : Nat} {n c : Nat} {h : Heap} {Q : RQ Val} {E : RE}
theorem c_lletters (B : Bx n c h) (hc : c < 80000000) (Z : ∀ x h', lettS x 6 = true → Bx n (c + 8) h' → Fx1 n h h' → Q (.str x) h') : (calls D gl S (L + 2) 24 [.ref n, .int 6] h).sat Q E := by
  show (runDef ⟨calls D gl S (L + 1), gl, S, none⟩ d24 [.ref n, .int 6] h).sat _ _
  unfold runDef startV d24 b24
  simp
  refine c_take B (by omega) (by decide) fun y1 h1 hy10 hy1 B1 F1 l1 => ?_
  try simp
  refine sat_new fun p2 h2 e2 el2 l2 F2 => ?_
  refine c_take (B1.fr F2) (by omega) (by decide) fun y3 h3 hy30 hy3 B3 F3 l3 => ?_
  have n1 := B1.lt
  refine sat_atI (F3.at e2 (by omega)) hy30 (by simpa using hy3) rfl fun m hm => ?_
  simp at hm
  simp
  refine ⟨by omega, ?_⟩
  have G3 : Fx1 n h h3 := (F1.fr F2).trans F3
  refine lcF_rng (fun k a h' => ∃ cs : List Nat, a = cs.map (fun c => .str ⟨#[c]⟩) ∧ cs.length = k ∧ (∀ c ∈ cs, c ∈ lets.cps.toList) ∧ Bx n (c + 2 + k) h' ∧ Fx1 n h h') rfl ?_ ?_ ?_ ⟨[], rfl, rfl, by simp, B3, G3⟩
  · rintro k a h' hk ⟨cs, rfl, hl, _⟩
    simp
    omega
  · rintro k a h' hk ⟨cs, rfl, hl, hcs, B4, F4⟩
    refine ⟨_, rfl, ?_⟩
    simp
    refine c_take B4 (by omega) (by decide) fun y5 h5 hy50 hy5 B5 F5 l5 => ?_
    refine sat_atS (by decide +kernel) hy50 (by have : (lets.length : Int) = 26 := by decide +kernel
                                                show y5 < (lets.length : Int); omega) fun c' hc' _ => ?_
    exact ⟨cs ++ [c'], by simp, by simp; omega, fun d hd => by
      rcases List.mem_append.mp hd with hd | hd
      · simpa using hcs d hd
      · rw [List.mem_singleton.mp hd]; simpa using hc', B5, F4.trans F5⟩
  · rintro a h4 ⟨cs, rfl, hl, hcs, B4, F4⟩
    refine sat_new fun p5 h5 e5 el5 l5 F5 => ?_
    have e5' : h5[p5]? = some (.lst ((cs.map fun c => (⟨#[c]⟩ : Str)).map .str)) := by rw [e5, List.map_map]; rfl
    rw [met_join e5' (by rw [sum_ones, List.length_map, show (z1 : Str).length = 0 from by decide +kernel]; simp; omega)]
    refine Z _ _ (lett_of (cs := cs) (by rw [tl_join0 (by decide +kernel), flat_ones]) (by omega) (by omega) hcs) ((B4.fr F5).up (by omega)) (F4.fr F5)
theorem c_part (B : Bx n c h) (hc : c < 70000000) (Z : ∀ v h', GP v → Bx n (c + 10) h' → Fx1 n h h' → Q v h') : (calls D gl S (L + 3) 25 [.ref n] h).sat Q E := by
  show (runDef ⟨calls D gl S (L + 2), gl, S, none⟩ d25 [.ref n] h).sat _ _
  unfold runDef startV d25 b25
  simp
  refine c_take (L := L + 1) B (by omega) (by decide) fun y1 h1 hy10 hy1 B1 F1 l1 => ?_
  simp
  by_cases c1 : y1 < 3
  · simp [c1]
    refine c_take (L := L + 1) B1 (by omega) (by decide) fun y2 h2 hy20 hy2 B2 F2 l2 => ?_
    try simp
    refine c_take (L := L + 1) B2 (by omega) (by decide) fun y3 h3 hy30 hy3 B3 F3 l3 => ?_
    try simp
    refine sat_new fun p4 h4 e4 el4 l4 F4 => ?_
    have n3 := B3.lt
    refine c_take (L := L + 1) (B3.fr F4) (by omega) (by decide) fun y5 h5 hy50 hy5 B5 F5 l5 => ?_
    refine sat_atI (F5.at e4 (by omega)) hy50 (by simpa using hy5) rfl fun m hm => ?_
    simp at hm
    try simp
    refine sat_new fun p6 h6 e6 el6 l6 F6 => ?_
    refine sat_atI e6 hy10 (by simpa using c1) rfl fun m2 hm2 => ?_
    simp at hm2
    exact Z _ _ (.inl ⟨_, rfl, by omega, by omega⟩) ((B5.fr F6).up (by omega)) ((F1.trans (F2.trans (F3.fr F4))).trans (F5.fr F6))
  · simp [c1]
    by_cases c2 : y1 < 5
    · simp [c2]
      refine c_lletters B1 (by omega) fun x h2 hx B2 F2 => ?_
      exact Z _ _ (.inr ⟨x, rfl, hx⟩) (B2.up (by omega)) (F1.trans F2)
    · simp [c2]
      refine c_take (L := L + 1) B1 (by omega) (by decide) fun y2 h2 hy20 hy2 B2 F2 l2 => ?_
      simp [intO]
      refine ⟨by decide +kernel, ?_⟩
      refine Z _ _ (.inr ⟨_, rfl, ?_⟩) (B2.up (by omega)) (F1.trans F2)
      have hy : y2 = 0 ∨ y2 = 1 ∨ y2 = 2 := by omega
      rcases hy with rfl | rfl | rfl <;> decide +kernel
theorem c_parts (B : Bx n c h) (hc : c < 60000000) (Z : ∀ p ps h', h'[p]? = some (.lst ps) → Pts ps → h.length ≤ p → Bx n (c + 50) h' → Fx1 n h h' → Q (.ref p) h') : (calls D gl S (L + 4) 26 [.ref n] h).sat Q E := by
  show (runDef ⟨calls D gl S (L + 3), gl, S, none⟩ d26 [.ref n] h).sat _ _
  unfold runDef startV d26 b26
  simp
  refine c_take (L := L + 2) B (by omega) (by decide) fun y1 h1 hy10 hy1 B1 F1 l1 => ?_
  simp
  refine ⟨by omega, ?_⟩
  refine lcF_rng (fun k a h' => a.length = k ∧ (∀ v ∈ a, GP v) ∧ Bx n (c + 1 + 10 * k) h' ∧ Fx1 n h h') rfl ?_ ?_ ?_ ⟨rfl, by simp, B1, F1⟩
  · rintro k a h' hk ⟨hl, _⟩
    simp
    omega
  · rintro k a h' hk ⟨hl, hg, B2, F2⟩
    refine ⟨_, rfl, ?_⟩
    simp
    refine c_part B2 (by omega) fun v h3 gv B3 F3 => ?_
    refine ⟨by omega, fun w hw => ?_, B3.up (by omega), F2.trans F3⟩
    rcases hw with hw | rfl
    · exact hg w hw
    · exact gv
  · rintro a h2 ⟨hl, hg, B2, F2⟩
    refine sat_new fun p3 h3 e3 el3 l3 F3 => ?_
    have := F2.len
    exact Z _ _ _ e3 ⟨hg, fun z => by rw [z] at hl; simp at hl; omega, by omega⟩ (by omega) ((B2.fr F3).up (by omega)) (F2.fr F3)
theorem c_mark {p : Nat} {ps : List Val} (e : h[p]? = some (.lst ps)) (P : Pts ps) (Z : ∀ h', Fr h h' → Q (.str (mkS (tsOf ps))) h') : (calls D gl S (L + 1) 28 [.ref p] h).sat Q E := by
  show (runDef ⟨calls D gl S L, gl, S, none⟩ d28 [.ref p] h).sat _ _
  unfold runDef startV d28 b28
  have hle := P.le
  simp
  rw [srcR_lst e, sat_ok]
  dsimp only
  rw [lcF_map (k := fun v => v) (f := fun v => .str (txt v)) (ok_lst _ _ rfl e) (fun v hv => ⟨_, rfl, by simp, by
    rcases P.g v hv with ⟨i, rfl, h0, h1⟩ | ⟨x, rfl, hx⟩
    · simp
      rw [if_pos (log2_small (Nat.lt_of_lt_of_le (show i.natAbs < 1000000 by omega) (by decide +kernel)))]
      rfl
    · simp
      rfl⟩) (by simp; omega)]
  simp
  refine sat_new fun q h1 e1 el1 l1 F1 => ?_
  have e1' : h1[q]? = some (.lst ((tsOf ps).map .str)) := by rw [e1]; simp [tsOf]
  rw [met_join e1' (by
    have h1 : ∀ l : List Str, (∀ t ∈ l, t.length ≤ 6) → (l.map (·.length)).sum ≤ l.length * 6 := fun l hl => by
      induction l with
      | nil => simp
      | cons t l ih =>
        have a := hl t List.mem_cons_self
        have b := ih fun u hu => hl u (List.mem_cons_of_mem _ hu)
        simp only [List.map_cons, List.sum_cons, List.length_cons]
        omega
    have h2 := h1 (tsOf ps) fun t ht => by obtain ⟨v, hv, rfl⟩ := List.mem_map.mp ht; exact txt_len (P.g v hv)
    have h3 : (tsOf ps).length = ps.length := by simp [tsOf]
    rw [show (z2 : Str).length = 1 from by decide +kernel]
    simp only [h3] at h2 ⊢
    show _ ≤ 16777216
    omega)]
  exact Z _ F1
end
end Mi


namespace Mi
open PySem (Str PyData)
theorem slc_from {h : Heap} {p : Nat} {ps : List Val} {k : Nat} (e : h[p]? = some (.lst ps)) : slcV (.ref p) (some (k : Int)) none h = new (.lst (ps.drop k)) h := by
  unfold slcV
  simp only [e]
  rw [six_nat, show HT.sIx ps.length ps.length none = ps.length from rfl]
  congr 2
  rcases Nat.le_total k ps.length with z | z
  · rw [Nat.min_eq_left z, List.take_of_length_le (by rw [List.length_drop]; omega)]
  · rw [Nat.min_eq_right z, List.drop_of_length_le z, List.drop_of_length_le (Nat.le_refl _), List.take_nil]
theorem ix_get {g : G} {h : Heap} {p b : Nat} {ps : List Val} (e : h[p]? = some (.lst ps)) (hb : b < ps.length) : idxV g (.ref p) (.int (b : Int)) h = .ok ps[b] h := by
  rw [ix_lst e]
  simp [lstAt, L2.atI, L2.ixN, hb]
theorem vd_eqv {a b : Val} (ga : GP a) (gb : GP b) : PyData.eqv (vD a) (vD b) = decide (a = b) := by
  rcases ga with ⟨i, rfl, _⟩ | ⟨x, rfl, _⟩ <;> rcases gb with ⟨j, rfl, _⟩ | ⟨y, rfl, _⟩ <;> simp [vD, PyData.eqv] <;> exact Bool.eq_iff_iff.mpr (by simp)
theorem ne_gp {h : Heap} {a b : Val} (ga : GP a) (gb : GP b) : bop .ne a b h = .ok (.bl (!decide (a = b))) h := by
  rw [bop_ne_is (X := []) (Y := []) ga.is gb.is ga.vd gb.vd (by decide) (by decide), vd_eqv ga gb]
section
variable {S : List Int} {L : Nat} {n c : Nat} {h : Heap} {Q : RQ Val} {E : RE}
theorem c_near {p : Nat} {ps : List Val} (B : Bx n c h) (hc : c < 50000000) (e : h[p]? = some (.lst ps)) (hp : p ≠ n) (P : Pts ps) (Z : ∀ q qs h', h'[q]? = some (.lst qs) → Pts qs → h.length ≤ q → Bx n (c + 20) h' → Fx1 n h h' → Q (.ref q) h') : (calls D gl S (L + 4) 27 [.ref n, .ref p] h).sat Q E := by
  show (runDef ⟨calls D gl S (L + 3), gl, S, none⟩ d27 [.ref n, .ref p] h).sat _ _
  unfold runDef startV d27 b27
  have hle := P.le
  have hpos : 0 < ps.length := List.length_pos_iff.mpr P.ne
  simp
  refine c_take (L := L + 2) B (by omega) (by decide) fun y1 h1 hy10 hy1 B1 F1 l1 => ?_
  simp [len_lst (F1.at e hp)]
  refine c_take (L := L + 2) B1 (by omega) (by omega) fun y2 h2 hy20 hy2 B2 F2 l2 => ?_
  obtain ⟨b, rfl⟩ := Int.eq_ofNat_of_zero_le hy20
  have hb : b < ps.length := by omega
  have F02 := F1.trans F2
  have e2 := F02.at e hp
  try simp
  have l02 : h2.length = h.length := by omega
  have fin : ∀ {m : Nat} q qs h', h'[q]? = some (.lst qs) → (∀ v ∈ qs, GP v) → qs ≠ [] → qs.length ≤ 4 → h.length ≤ q → Bx n m h' → m ≤ c + 20 → Fx1 n h h' → Q (.ref q) h' := by
    intro m q qs h' eq gq nq lq hq Bq hm Fq
    exact Z q qs h' eq ⟨gq, nq, lq⟩ hq (Bq.up hm) Fq
  have tail : ∀ {m : Nat} v h', GP v → Bx n m h' → m ≤ c + 20 → Fx1 n h h' → (slcV (.ref p) none (some (b : Int)) h').sat (fun a h => (new (.lst [v]) h).sat (fun x h => (bop .add a x h).sat (fun y h => (slcV (.ref p) (some ((b : Int) + 1)) none h).sat (fun d h => (bop .add y d h).sat Q E) E) E) E) E := by
    intro m v h' gv Bm hm Fm
    have em := Fm.at e hp
    rw [slc_take em]
    refine sat_new fun q3 h3 e3 el3 l3 F3 => ?_
    refine sat_new fun q4 h4 e4 el4 l4 F4 => ?_
    rw [add_lst (F4.at e3) e4, if_pos (by simp; omega)]
    refine sat_new fun q5 h5 e5 el5 l5 F5 => ?_
    have F25 := F3.trans (F4.trans F5)
    rw [show ((b : Int) + 1) = ((b + 1 : Nat) : Int) by omega, slc_from (F25.at em)]
    refine sat_new fun q6 h6 e6 el6 l6 F6 => ?_
    rw [add_lst (F6.at e5) e6, if_pos (by simp; omega)]
    refine sat_new fun q7 h7 e7 el7 l7 F7 => ?_
    have F27 := F25.trans (F6.trans F7)
    have := Fm.len
    refine fin _ _ _ e7 (fun w hw => ?_) (by simp) (by simp; omega) (by omega) (Bm.fr F27) hm (Fm.fr F27)
    rcases List.mem_append.mp hw with hw | hw
    · rcases List.mem_append.mp hw with hw | hw
      · exact P.g w (List.mem_of_mem_take hw)
      · rw [List.mem_singleton.mp hw]; exact gv
    · exact P.g w (List.mem_of_mem_drop hw)
  by_cases c0 : y1 = 0
  · simp [c0, intO]
    rw [show (max 1 (b : Int)) = ((max 1 b : Nat) : Int) by omega, slc_take e2]
    refine sat_new fun q3 h3 e3 el3 l3 F3 => ?_
    refine fin _ _ _ e3 (fun w hw => P.g w (List.mem_of_mem_take hw)) (fun z => ?_) (by rw [List.length_take]; omega) (by omega) (B2.fr F3) (by omega) (F02.fr F3)
    have := congrArg List.length z
    rw [List.length_take, List.length_nil] at this
    omega
  · simp [c0]
    by_cases c1 : y1 = 1
    · simp [c1]
      refine c_part B2 (by omega) fun v h3 gv B3 F3 => ?_
      try simp
      refine sat_new fun q4 h4 e4 el4 l4 F4 => ?_
      rw [add_lst (F4.at (F3.at e2 hp)) e4]
      simp
      refine ⟨by omega, ?_⟩
      refine sat_new fun q5 h5 e5 el5 l5 F5 => ?_
      try simp [intO]
      have es : slcV (.ref q5) none (some 4) h5 = _ := slc_take (k := 4) e5
      rw [es]
      refine sat_new fun q6 h6 e6 el6 l6 F6 => ?_
      have F36 := F4.trans (F5.trans F6)
      have := F3.len
      refine fin _ _ _ e6 (fun w hw => ?_) (by simp) (by rw [List.length_take]; omega) (by omega) (B3.fr F36) (by omega) ((F02.trans F3).fr F36)
      rcases List.mem_append.mp (List.mem_of_mem_take hw) with hw | hw
      · exact P.g w hw
      · rw [List.mem_singleton.mp hw]; exact gv
    · simp [c1]
      by_cases c2 : y1 = 2
      · simp [c2]
        refine lst_list e2 fun q3 h3 e3 el3 l3 F3 => ?_
        exact fin _ _ _ e3 P.g P.ne hle (by omega) (B2.fr F3) (by omega) (F02.fr F3)
      · simp [c2]
        refine c_part B2 (by omega) fun v h3 gv B3 F3 => ?_
        have F03 := F02.trans F3
        try simp
        by_cases c3 : y1 = 3
        · simp [c3]
          rw [ix_get (F03.at e hp) hb]
          rcases P.g _ (List.getElem_mem hb) with ⟨i, ei, h0, h1⟩ | ⟨x, ei, hx⟩
          · rw [ei]
            simp [okTy, isTy]
            rw [ix_get (F03.at e hp) hb, ei]
            simp
            refine sat_new fun q4 h4 e4 el4 l4 F4 => ?_
            refine c_take (L := L + 2) (B3.fr F4) (by omega) (by decide) fun y5 h5 hy50 hy5 B5 F5 l5 => ?_
            have n3 := B3.lt
            refine sat_atI (F5.at e4 (by omega)) hy50 (by simpa using hy5) rfl fun m hm => ?_
            try simp
            exact tail _ _ (.inl ⟨_, rfl, by omega, by omega⟩) B5 (by omega) ((F03.fr F4).trans F5)
          · rw [ei]
            simp [okTy, isTy]
            exact tail _ _ gv B3 (by omega) F03
        · simp [c3]
          exact tail _ _ gv B3 (by omega) F03
theorem c_pahead1 {a b : Val} (ga : GP a) (gb : GP b) : (calls D gl S (L + 1) 29 [a, b] h) = .ok (.bl (pltV a b)) h := by
  show (runDef ⟨calls D gl S L, gl, S, none⟩ d29 [a, b] h) = _
  unfold runDef startV d29 b29
  rcases ga with ⟨i, rfl, _⟩ | ⟨x, rfl, _⟩ <;> rcases gb with ⟨j, rfl, _⟩ | ⟨y, rfl, _⟩
  · simp [okTy, isTy]; rfl
  · simp [okTy, isTy]; rfl
  · simp [okTy, isTy]; rfl
  · simp [okTy, isTy]; rfl
theorem c_pahead {p q : Nat} {ps qs : List Val} (e1 : h[p]? = some (.lst ps)) (e2 : h[q]? = some (.lst qs)) (hg : ∀ v ∈ ps, GP v) (hg' : ∀ v ∈ qs, GP v) (Z : ∀ h', Fr h h' → Q (.bl (plt ps qs)) h') : (calls D gl S (L + 2) 30 [.ref p, .ref q] h).sat Q E := by
  show (runDef ⟨calls D gl S (L + 1), gl, S, none⟩ d30 [.ref p, .ref q] h).sat _ _
  unfold runDef startV d30 b30
  simp
  obtain ⟨st, z2, o2⟩ := (sv_lst e1).zip (sv_lst e2)
  rw [z2 _ (Fr.refl _), sat_ok]
  dsimp only
  refine loopF_pairs (k1 := fun p : Val × Val => p.1) (k2 := fun p => p.2) (fun r σ h' => ∃ (as bs : List Val) (s2 s3 : Option Val), r = as.zip bs ∧ plt as bs = plt ps qs ∧ (∀ v ∈ as, GP v) ∧ (∀ v ∈ bs, GP v) ∧ (as.length : Int) - bs.length = ps.length - qs.length ∧ Fr h h' ∧ σ = [some (.ref p), some (.ref q), s2, s3]) ?_ ?_ ?_ ⟨ps, qs, none, none, rfl, rfl, hg, hg', rfl, Fr.refl _, rfl⟩
  · rintro r σ h' ⟨_, _, _, _, _, _, _, _, _, F, _⟩
    exact o2 _ _ F
  · rintro x r σ h1 h2 ⟨as, bs, s2, s3, hr, hpl, ga, gb, hd, F, rfl⟩ F2 l2
    cases as with
    | nil => cases hr
    | cons a as =>
      cases bs with
      | nil => cases hr
      | cons b bs =>
        injection hr with hx hr
        subst hx
        have g1 := ga a List.mem_cons_self
        have g2 := gb b List.mem_cons_self
        simp
        rw [ne_gp g1 g2]
        rw [show plt (a :: as) (b :: bs) = if a = b then plt as bs else pltV a b from rfl] at hpl
        by_cases cc : a = b
        · rw [if_pos cc] at hpl
          simp [cc]
          exact ⟨as, bs, hr, hpl, fun v hv => ga v (List.mem_cons_of_mem _ hv), fun v hv => gb v (List.mem_cons_of_mem _ hv), by simp at hd; omega, F.trans F2⟩
        · rw [if_neg cc] at hpl
          simp [cc]
          rw [c_pahead1 g1 g2, hpl]
          exact Z _ (F.trans F2)
  · rintro σ h1 ⟨as, bs, s2, s3, hr, hpl, ga, gb, hd, F, rfl⟩
    simp [len_lst (F.at e1), len_lst (F.at e2)]
    have : decide (ps.length < qs.length) = plt ps qs := by
      rw [← hpl]
      cases as with
      | nil =>
        cases bs with
        | nil => simp at hd; exact decide_eq_false (by omega)
        | cons b bs => simp at hd; exact decide_eq_true (by omega)
      | cons a as =>
        cases bs with
        | nil => simp at hd; exact decide_eq_false (by omega)
        | cons b bs => cases hr
    rw [this]
    exact Z _ F
end
end Mi


namespace Mi
open PySem (Str PyData)
/-! ## volumes -/
def psOf (mk : Str) : List Val := (PySem.Txt.split mk z2).map prtV
theorem psOf_mk {ps : List Val} (P : Pts ps) : psOf (mkS (tsOf ps)) = ps := by
  unfold psOf
  rw [P.pc.spl, map_prt P.g]
/-- four things, of which some may be bad -/
structure T4 (a b : Str) (z : PyData) (w : Int) : Prop where
  ha : a = z7 ∨ lettS a 8 = true
  hb : b = z6 ∨ ∃ ps, Pts ps ∧ b = mkS (tsOf ps)
  hz : z = .bool true ∨ z = .int 10 ∨ ∃ s : Int, z = .int s ∧ 1 ≤ s ∧ s ≤ 9
  hw : 0 ≤ w ∧ w ≤ 99
def okZ : PyData → Bool
  | .int i => decide (1 ≤ i) && decide (i ≤ 9)
  | _ => false
def oc4 (a b : Str) (z : PyData) (w : Int) : Option (Str × PyData) :=
  if a = z7 then some (z10, .str a) else if b = z6 then some (z9, .str b) else if okZ z = false then some (z8, z) else if w = 0 then some (z8, .int w) else none
/-- what is due of a thing -/
def ocD : PyData → Option (Str × PyData)
  | .tuple [.str a, .str b, z, .int w] => oc4 a b z w
  | d => some (z11, d)
def NV (d : PyData) : Prop := d = .none ∨ d = .int 7 ∨ d = .str z4 ∨ d = .dict [] ∨ (∃ ds, d = .list ds) ∨ ∃ a b c, d = .tuple [a, b, c]
def Thn (d : PyData) : Prop := (∃ a b z w, d = .tuple [.str a, .str b, z, .int w] ∧ T4 a b z w) ∨ NV d
theorem nv_oc {d : PyData} (h : NV d) : ocD d = some (z11, d) := by
  rcases h with rfl | rfl | rfl | rfl | ⟨ds, rfl⟩ | ⟨a, b, c, rfl⟩
  · rfl
  · rfl
  · rfl
  · rfl
  · rfl
  · cases a <;> first | rfl | (cases b <;> rfl)
theorem bad_A : lettS z7 8 = false := by decide +kernel
theorem ab_pc : Pc z6 (PySem.Txt.split z6 z2) ∧ ptO (PySem.Txt.split z6 z2) = none := by
  refine ⟨⟨rfl, by decide +kernel, fun t ht => ?_, by decide +kernel⟩, ?_⟩
  · have : ((PySem.Txt.split z6 z2).all fun t => decide (t.length ≤ 500)) = true := by decide +kernel
    simpa using List.all_eq_true.mp this t ht
  · have : (ptO (PySem.Txt.split z6 z2)).isNone = true := by decide +kernel
    simpa using this
theorem T4.al {a b : Str} {z : PyData} {w : Int} (t : T4 a b z w) : a.length ≤ 500 ∧ lettS a 8 = !decide (a = z7) := by
  rcases t.ha with rfl | h
  · exact ⟨by decide +kernel, by rw [bad_A]; decide +kernel⟩
  · refine ⟨by have := (lett_is h).2.1; omega, ?_⟩
    rw [h]
    by_cases c : a = z7
    · rw [c, bad_A] at h; cases h
    · simp [c]
theorem mk_ne {ps : List Val} (P : Pts ps) : mkS (tsOf ps) ≠ z6 := fun e => by
  have h1 := P.pc.spl
  have h2 := P.pt
  rw [e] at h1
  rw [← h1, ab_pc.2] at h2
  cases h2
theorem T4.bl {a b : Str} {z : PyData} {w : Int} (t : T4 a b z w) : ∃ ts, Pc b ts ∧ (b = z6 → ptO ts = none) ∧ (b ≠ z6 → ∃ ps, Pts ps ∧ b = mkS (tsOf ps) ∧ ptO ts = some ps) := by
  rcases t.hb with rfl | ⟨ps, P, rfl⟩
  · exact ⟨_, ab_pc.1, fun _ => ab_pc.2, fun z => absurd rfl z⟩
  · exact ⟨_, P.pc, fun z => absurd z (mk_ne P), fun _ => ⟨ps, P, rfl, P.pt⟩⟩
section
variable {S : List Int} {L : Nat} {n c : Nat} {h : Heap} {Q : RQ Val} {E : RE} {X : List Nat}
theorem c_isname {a : Str} (ha : a.length ≤ 500) (Z : ∀ h', Fr h h' → Q (.bl (lettS a 8)) h') : (calls D gl S (L + 2) 2 [.str a] h).sat Q E := by
  show (runDef ⟨calls D gl S (L + 1), gl, S, none⟩ d2 [.str a] h).sat _ _
  unfold runDef startV d2 b2
  simp [gl]
  exact c_letters ha Z
theorem c_ismark {b : Str} {ts : List Str} (P : Pc b ts) (Z : ∀ h', Fr h h' → Q (.bl (ptO ts).isSome) h') : (calls D gl S (L + 4) 6 [.str b] h).sat Q E := by
  show (runDef ⟨calls D gl S (L + 3), gl, S, none⟩ d6 [.str b] h).sat _ _
  unfold runDef startV d6 b6
  simp
  refine c_partsin P fun v h1 hv F1 => ?_
  cases hp : ptO ts with
  | none =>
    rw [hp] at hv
    subst hv
    rw [hp] at Z
    simp
    exact Z _ F1
  | some ps =>
    rw [hp] at hv
    obtain ⟨q, rfl, _, _⟩ := hv
    rw [hp] at Z
    simp
    exact Z _ F1
theorem c_wh_int {i lo hi : Int} : (calls D gl S (L + 1) 0 [.int i, .int lo, .int hi] h) = .ok (.bl (decide (lo ≤ i) && decide (i ≤ hi))) h := by
  show (runDef ⟨calls D gl S L, gl, S, none⟩ d0 [.int i, .int lo, .int hi] h) = _
  unfold runDef startV d0 b0
  by_cases z : lo ≤ i <;> simp [okTy, isTy, z]
theorem c_wh_bl {i : Bool} {lo hi : Int} : (calls D gl S (L + 1) 0 [.bl i, .int lo, .int hi] h) = .ok (.bl false) h := by
  show (runDef ⟨calls D gl S L, gl, S, none⟩ d0 [.bl i, .int lo, .int hi] h) = _
  unfold runDef startV d0 b0
  simp [okTy, isTy]
theorem c_issize {z : PyData} {v : Val} (i : Is X h z v) (hz : z = .bool true ∨ z = .int 10 ∨ ∃ s : Int, z = .int s ∧ 1 ≤ s ∧ s ≤ 9) : (calls D gl S (L + 2) 10 [v] h) = .ok (.bl (okZ z)) h := by
  show (runDef ⟨calls D gl S (L + 1), gl, S, none⟩ d10 [v] h) = _
  unfold runDef startV d10 b10
  rcases hz with rfl | rfl | ⟨s, rfl, h1, h2⟩
  · obtain rfl := i.bl
    simp [gl, c_wh_bl]
    rfl
  · obtain rfl := i.int
    simp [gl, c_wh_int]
    rfl
  · obtain rfl := i.int
    simp [gl, c_wh_int]
    rfl
theorem c_iswidth {w : Int} (hw : 0 ≤ w ∧ w ≤ 99) : (calls D gl S (L + 2) 11 [.int w] h) = .ok (.bl (!decide (w = 0))) h := by
  show (runDef ⟨calls D gl S (L + 1), gl, S, none⟩ d11 [.int w] h) = _
  unfold runDef startV d11 b11
  simp [gl, c_wh_int]
  by_cases c : w = 0
  · subst c
    simp
  · have : 1 ≤ w := by omega
    simp [this, hw.2, c]
theorem four_is {a b : Str} {z : PyData} {w : Int} {v : Val} (i : Is X h (.tuple [.str a, .str b, z, .int w]) v) : ∃ p zv, v = .ref p ∧ p ∉ X ∧ h[p]? = some (.tup [.str a, .str b, zv, .int w]) ∧ Is X h z zv := by
  obtain ⟨p, xs, rfl, hp, e, ia⟩ := i.tup
  obtain ⟨x1, xs, rfl, i1, ia⟩ := ia.cons
  obtain ⟨x2, xs, rfl, i2, ia⟩ := ia.cons
  obtain ⟨x3, xs, rfl, i3, ia⟩ := ia.cons
  obtain ⟨x4, xs, rfl, i4, ia⟩ := ia.cons
  have := ia.nil
  subst this
  obtain rfl := i1.str
  obtain rfl := i2.str
  obtain rfl := i4.int
  exact ⟨p, x3, rfl, hp, e, i3⟩
theorem ix_t0 {g : G} {p : Nat} {x y z u : Val} (e : h[p]? = some (.tup [x, y, z, u])) : idxV g (.ref p) (.int 0) h = .ok x h ∧ idxV g (.ref p) (.int 1) h = .ok y h ∧ idxV g (.ref p) (.int 2) h = .ok z h ∧ idxV g (.ref p) (.int 3) h = .ok u h := by
  refine ⟨?_, ?_, ?_, ?_⟩ <;> rw [ix_tup e] <;> simp [lstAt, L2.atI, L2.ixN]
theorem c_isvol {d : PyData} {v : Val} (i : Is X h d v) (t : Thn d) (Z : ∀ h', Fr h h' → Q (.bl (ocD d).isNone) h') : (calls D gl S (L + 5) 17 [v] h).sat Q E := by
  show (runDef ⟨calls D gl S (L + 4), gl, S, none⟩ d17 [v] h).sat _ _
  unfold runDef startV d17 b17
  rcases t with ⟨a, b, z, w, rfl, t4⟩ | nv
  · obtain ⟨p, zv, rfl, _, e, iz⟩ := four_is i
    obtain ⟨hal, hla⟩ := t4.al
    obtain ⟨ts, pc, hb1, hb2⟩ := t4.bl
    simp [is_a_tup e, okTy, isTy, len_tup e, (ix_t0 e).1]
    refine c_isname (L := L + 2) hal fun h1 F1 => ?_
    have e1 := F1.at e
    have hoc : ocD (.tuple [.str a, .str b, z, .int w]) = oc4 a b z w := rfl
    rw [hoc] at Z
    unfold oc4 at Z
    by_cases c1 : a = z7
    · rw [if_pos c1] at Z
      rw [hla]
      simp [c1]
      exact Z _ F1
    · rw [if_neg c1] at Z
      rw [hla]
      simp [c1, (ix_t0 e1).2.1]
      refine c_ismark pc fun h2 F2 => ?_
      have e2 := F2.at e1
      have F12 := F1.trans F2
      by_cases c2 : b = z6
      · rw [if_pos c2] at Z
        rw [hb1 c2]
        simp
        exact Z _ F12
      · rw [if_neg c2] at Z
        obtain ⟨ps, P, _, hp⟩ := hb2 c2
        rw [hp]
        simp [(ix_t0 e2).2.2.1]
        rw [c_issize (L := L + 2) (iz.fr F12) t4.hz]
        by_cases c3 : okZ z = false
        · rw [if_pos c3] at Z
          simp [c3]
          exact Z _ F12
        · rw [if_neg c3] at Z
          have c3' : okZ z = true := by simpa using c3
          simp [c3', (ix_t0 e2).2.2.2]
          rw [c_iswidth (L := L + 2) t4.hw]
          by_cases c4 : w = 0
          · rw [if_pos c4] at Z
            simp [c4]
            exact Z _ F12
          · rw [if_neg c4] at Z
            simp [c4]
            exact Z _ F12
  · rw [nv_oc nv] at Z
    rcases nv with rfl | rfl | rfl | rfl | ⟨ds, rfl⟩ | ⟨a, b, c, rfl⟩
    · unfold Is at i
      subst i
      simp [okTy, isTy]
      exact Z _ (Fr.refl _)
    · obtain rfl := i.int
      simp [okTy, isTy]
      exact Z _ (Fr.refl _)
    · obtain rfl := i.str
      simp [okTy, isTy]
      exact Z _ (Fr.refl _)
    · unfold Is at i
      obtain ⟨p, xs, rfl, _, e, _⟩ := i
      simp [is_a_dic e, okTy, isTy]
      exact Z _ (Fr.refl _)
    · obtain ⟨p, xs, rfl, _, e, _⟩ := i.lst
      simp [is_a_lst e, okTy, isTy]
      exact Z _ (Fr.refl _)
    · obtain ⟨p, xs, rfl, _, e, ia⟩ := i.tup
      have hl := ia.length
      simp [is_a_tup e, okTy, isTy, len_tup e, hl]
      exact Z _ (Fr.refl _)
end
end Mi


namespace Mi
open PySem (Str PyData)
def Kc (word : Str) (cls : Nat) : Prop := (word = z11 ∧ cls = 3) ∨ (word = z10 ∧ cls = 1) ∨ (word = z9 ∧ cls = 0) ∨ (word = z8 ∧ cls = 2)
/-- a volume -/
structure GV (d : PyData) (a : Str) (ps : List Val) (s w : Int) : Prop where
  e : d = .tuple [.str a, .str (mkS (tsOf ps)), .int s, .int w]
  a : lettS a 8 = true
  p : Pts ps
  s1 : 1 ≤ s ∧ s ≤ 9
  w1 : 1 ≤ w ∧ w ≤ 99
theorem gv_of {d : PyData} (t : Thn d) (h : ocD d = none) : ∃ a ps s w, GV d a ps s w := by
  rcases t with ⟨a, b, z, w, rfl, t4⟩ | nv
  · have h : oc4 a b z w = none := h
    unfold oc4 at h
    by_cases c1 : a = z7
    · rw [if_pos c1] at h; cases h
    rw [if_neg c1] at h
    by_cases c2 : b = z6
    · rw [if_pos c2] at h; cases h
    rw [if_neg c2] at h
    by_cases c3 : okZ z = false
    · rw [if_pos c3] at h; cases h
    rw [if_neg c3] at h
    by_cases c4 : w = 0
    · rw [if_pos c4] at h; cases h
    obtain ⟨_, hla⟩ := t4.al
    obtain ⟨ts, pc, hb1, hb2⟩ := t4.bl
    obtain ⟨ps, P, rfl, _⟩ := hb2 c2
    have hz := t4.hz
    have hw := t4.hw
    rcases hz with rfl | rfl | ⟨s, rfl, h1, h2⟩
    · exact absurd rfl c3
    · exact absurd rfl c3
    · exact ⟨a, ps, s, w, rfl, by rw [hla]; simp [c1], P, ⟨h1, h2⟩, by omega⟩
  · rw [nv_oc nv] at h
    cases h
theorem GV.oc {d : PyData} {a : Str} {ps : List Val} {s w : Int} (g : GV d a ps s w) : ocD d = none := by
  obtain ⟨rfl, ha, hp, hs, hw⟩ := g
  show oc4 _ _ _ _ = none
  unfold oc4
  rw [if_neg (fun e => by rw [e, bad_A] at ha; cases ha), if_neg (mk_ne hp), if_neg (by simp [okZ, hs.1, hs.2]), if_neg (by omega)]
theorem GV.th {d : PyData} {a : Str} {ps : List Val} {s w : Int} (g : GV d a ps s w) : Thn d := by
  obtain ⟨rfl, ha, hp, hs, hw⟩ := g
  exact .inl ⟨_, _, _, _, rfl, .inr ha, .inr ⟨ps, hp, rfl⟩, .inr (.inr ⟨s, rfl, hs⟩), by omega⟩
def rkOf : PyData → PyData
  | .tuple [.str a, .str b, .int s, .int _] => .tuple [.int s, .list ((psOf b).map rkD), .str a]
  | _ => .none
def aheadD (d e : PyData) : Bool := PySem.W.dataLt (rkOf d) (rkOf e)
theorem GV.rk {d : PyData} {a : Str} {ps : List Val} {s w : Int} (g : GV d a ps s w) : rkOf d = .tuple [.int s, .list (ps.map rkD), .str a] := by
  rw [g.e]
  show PyData.tuple [.int s, .list ((psOf (mkS (tsOf ps))).map rkD), .str a] = _
  rw [psOf_mk g.p]
theorem GV.okrk {d : PyData} {a : Str} {ps : List Val} {s w : Int} (g : GV d a ps s w) : Okd (rkOf d) 3 80000 := by
  rw [g.rk]
  have hs := g.s1
  refine (okd_tuple (n := 2) (w := 22202) fun x hx => ?_).up (by decide) (by simp)
  simp at hx
  rcases hx with rfl | rfl | rfl
  · exact (okd_int (k := 2) (by decide) (by omega) (by decide)).up (by decide) (by decide)
  · exact okd_rk g.p.g (by have := g.p.le; omega)
  · exact (okd_txt (k := 8) (lett_okt g.a) (by have := (lett_is g.a).2.1; omega)).up (by decide) (by decide)
theorem gv_alike {d e : PyData} {a b : Str} {ps qs : List Val} {s t w u : Int} (g : GV d a ps s w) (g' : GV e b qs t u) : PySem.W.alike (rkOf d) (rkOf e) = true := by
  rw [g.rk, g'.rk]
  have := alike_rk g.p.g g'.p.g
  simp [PySem.W.alike, PySem.W.alikeAll, this]
theorem set_five_of {i j k l p : Nat} {x y z u : Val} {σ : Sl} {h : Heap} (e : h[p]? = some (.tup [x, y, z, u])) : setT (.tp [i, j, k, l]) (.ref p) σ h = .ok (.nx ((((σ.set i (some x)).set j (some y)).set k (some z)).set l (some u))) h := set_four e
section
variable {S : List Int} {L : Nat} {n c : Nat} {h : Heap} {Q : RQ Val} {E : RE} {X : List Nat}
theorem c_nname {a : Str} (ha : a.length ≤ 500) (Z : ∀ h', lettS a 8 = true → Fr h h' → Q .non h') (ZE : ∀ h', lettS a 8 = false → Fr h h' → E 1 [("found", .str a)] h') : (calls D gl S (L + 3) 12 [.str a] h).sat Q E := by
  show (runDef ⟨calls D gl S (L + 2), gl, S, none⟩ d12 [.str a] h).sat _ _
  unfold runDef startV d12 b12
  simp
  refine c_isname ha fun h1 F1 => ?_
  cases c : lettS a 8 with
  | true =>
    simp
    exact Z _ c F1
  | false =>
    simp
    exact ZE _ c F1
theorem c_nmark {b : Str} {ts : List Str} (P : Pc b ts) (Z : ∀ h', (ptO ts).isSome = true → Fr h h' → Q .non h') (ZE : ∀ h', ptO ts = none → Fr h h' → E 0 [("found", .str b)] h') : (calls D gl S (L + 5) 13 [.str b] h).sat Q E := by
  show (runDef ⟨calls D gl S (L + 4), gl, S, none⟩ d13 [.str b] h).sat _ _
  unfold runDef startV d13 b13
  simp
  refine c_ismark P fun h1 F1 => ?_
  cases c : ptO ts with
  | some ps =>
    simp
    exact Z _ (by rw [c]; rfl) F1
  | none =>
    simp
    exact ZE _ c F1
theorem c_nsize {z : PyData} {v : Val} (i : Is X h z v) (hz : z = .bool true ∨ z = .int 10 ∨ ∃ s : Int, z = .int s ∧ 1 ≤ s ∧ s ≤ 9) (Z : okZ z = true → Q .non h) (ZE : okZ z = false → E 2 [("found", v)] h) : (calls D gl S (L + 3) 14 [v] h).sat Q E := by
  show (runDef ⟨calls D gl S (L + 2), gl, S, none⟩ d14 [v] h).sat _ _
  unfold runDef startV d14 b14
  simp
  rw [c_issize i hz]
  cases c : okZ z with
  | true =>
    simp
    exact Z c
  | false =>
    simp
    exact ZE c
theorem c_nwidth {w : Int} (hw : 0 ≤ w ∧ w ≤ 99) (Z : w ≠ 0 → Q .non h) (ZE : w = 0 → E 2 [("found", .int w)] h) : (calls D gl S (L + 3) 15 [.int w] h).sat Q E := by
  show (runDef ⟨calls D gl S (L + 2), gl, S, none⟩ d15 [.int w] h).sat _ _
  unfold runDef startV d15 b15
  simp
  rw [c_iswidth hw]
  by_cases c : w = 0
  · simp [c]
    have := ZE c
    rwa [c] at this
  · simp [c]
    exact Z c
theorem c_need {d : PyData} {v : Val} (i : Is X h d v) (t : Thn d) (Z : ∀ h', ocD d = none → Fr h h' → Q .non h')
    (ZE : ∀ h' word f fv cls, ocD d = some (word, f) → Is X h' f fv → Kc word cls → Fr h h' → E cls [("found", fv)] h') : (calls D gl S (L + 6) 16 [v] h).sat Q E := by
  show (runDef ⟨calls D gl S (L + 5), gl, S, none⟩ d16 [v] h).sat _ _
  unfold runDef startV d16 b16
  rcases t with ⟨a, b, z, w, rfl, t4⟩ | nv
  · obtain ⟨p, zv, rfl, _, e, iz⟩ := four_is i
    obtain ⟨hal, hla⟩ := t4.al
    obtain ⟨ts, pc, hb1, hb2⟩ := t4.bl
    simp [is_a_tup e, okTy, isTy, len_tup e]
    rw [set_four e]
    simp
    have hoc : ocD (.tuple [.str a, .str b, z, .int w]) = oc4 a b z w := rfl
    rw [hoc] at Z ZE
    unfold oc4 at Z ZE
    refine c_nname (L := L + 2) hal (fun h1 hl F1 => ?_) (fun h1 hl F1 => ?_)
    · have c1 : a ≠ z7 := fun z => by rw [hla] at hl; simp [z] at hl
      rw [if_neg c1] at Z ZE
      try simp
      refine c_nmark pc (fun h2 hs F2 => ?_) (fun h2 hs F2 => ?_)
      · have c2 : b ≠ z6 := fun z => by rw [hb1 z] at hs; cases hs
        rw [if_neg c2] at Z ZE
        have F12 := F1.trans F2
        try simp
        refine c_nsize (L := L + 2) (iz.fr F12) t4.hz (fun hz => ?_) (fun hz => ?_)
        · rw [if_neg (by simp [hz])] at Z ZE
          try simp
          refine c_nwidth (L := L + 2) t4.hw (fun hw => ?_) (fun hw => ?_)
          · rw [if_neg hw] at Z
            try simp
            exact Z _ rfl F12
          · rw [if_pos hw] at ZE
            exact ZE _ _ _ _ _ rfl is_int (.inr (.inr (.inr ⟨rfl, rfl⟩))) F12
        · rw [if_pos hz] at ZE
          exact ZE _ _ _ _ _ rfl (iz.fr F12) (.inr (.inr (.inr ⟨rfl, rfl⟩))) F12
      · have c2 : b = z6 := by
          by_cases c : b = z6
          · exact c
          · obtain ⟨ps, _, _, hp⟩ := hb2 c
            rw [hp] at hs
            cases hs
        rw [if_pos c2] at ZE
        exact ZE _ _ _ _ _ rfl is_str (.inr (.inr (.inl ⟨rfl, rfl⟩))) (F1.trans F2)
    · have c1 : a = z7 := by
        by_cases c : a = z7
        · exact c
        · rw [hla] at hl
          simp [c] at hl
      rw [if_pos c1] at ZE
      exact ZE _ _ _ _ _ rfl is_str (.inr (.inl ⟨rfl, rfl⟩)) F1
  · rw [nv_oc nv] at ZE
    have fin := ZE h _ _ v _ rfl i (.inl ⟨rfl, rfl⟩) (Fr.refl _)
    rcases nv with rfl | rfl | rfl | rfl | ⟨ds, rfl⟩ | ⟨a, b, c, rfl⟩
    · unfold Is at i
      subst i
      simp [okTy, isTy]
      exact fin
    · obtain rfl := i.int
      simp [okTy, isTy]
      exact fin
    · obtain rfl := i.str
      simp [okTy, isTy]
      exact fin
    · unfold Is at i
      obtain ⟨p, xs, rfl, _, e, _⟩ := i
      simp [is_a_dic e, okTy, isTy]
      exact fin
    · obtain ⟨p, xs, rfl, _, e, _⟩ := i.lst
      simp [is_a_lst e, okTy, isTy]
      exact fin
    · obtain ⟨p, xs, rfl, _, e, ia⟩ := i.tup
      have hl := ia.length
      simp [is_a_tup e, okTy, isTy, len_tup e, hl]
      exact fin
theorem c_vrank {d : PyData} {v : Val} {a : Str} {ps : List Val} {s w : Int} (i : Is X h d v) (g : GV d a ps s w) (Z : ∀ q h', Is [] h' (rkOf d) (.ref q) → Fr h h' → Q (.ref q) h') : (calls D gl S (L + 6) 18 [v] h).sat Q E := by
  show (runDef ⟨calls D gl S (L + 5), gl, S, none⟩ d18 [v] h).sat _ _
  unfold runDef startV d18 b18
  have hrk := g.rk
  obtain ⟨rfl, ha, hp, hs, hw⟩ := g
  obtain ⟨p, zv, rfl, _, e, iz⟩ := four_is i
  obtain rfl := iz.int
  simp
  rw [set_four e]
  simp
  refine c_mrankO hp.pc hp.pt fun q1 h1 i1 F1 => ?_
  try simp
  refine sat_new fun q2 h2 e2 el2 l2 F2 => ?_
  refine Z q2 h2 ?_ (F1.trans F2)
  rw [hrk]
  exact is_tup (by simp) e2 (isall_cons is_int (isall_cons (i1.fr F2) (isall_cons is_str isall_nil)))
theorem c_vahead {d e : PyData} {v u : Val} (i : Is X h d v) (j : Is X h e u) (t : Thn d) (t' : Thn e) (Z : ∀ h', ocD d = none → ocD e = none → Fr h h' → Q (.bl (aheadD d e)) h')
    (ZE : ∀ h' word f fv cls, (ocD d = some (word, f) ∨ (ocD d = none ∧ ocD e = some (word, f))) → Is X h' f fv → Kc word cls → Fr h h' → E cls [("found", fv)] h') : (calls D gl S (L + 7) 19 [v, u] h).sat Q E := by
  show (runDef ⟨calls D gl S (L + 6), gl, S, none⟩ d19 [v, u] h).sat _ _
  unfold runDef startV d19 b19
  simp
  refine c_need i t (fun h1 ho F1 => ?_) (fun h1 word f fv cls ho jf kc F1 => ?_)
  · try simp
    refine c_need (j.fr F1) t' (fun h2 ho' F2 => ?_) (fun h2 word f fv cls ho' jf kc F2 => ?_)
    · try simp
      obtain ⟨a, ps, s, w, g⟩ := gv_of t ho
      obtain ⟨b, qs, s', w', g'⟩ := gv_of t' ho'
      have F12 := F1.trans F2
      refine c_vrank (i.fr F12) g fun q3 h3 i3 F3 => ?_
      try simp
      refine c_vrank (j.fr (F12.trans F3)) g' fun q4 h4 i4 F4 => ?_
      try simp
      rw [bop_lt_is (i3.fr F4) i4 g.okrk g'.okrk (by decide) (by decide) (gv_alike g g') (by rw [g.rk]; rfl)]
      try simp
      exact Z _ ho ho' (F12.trans (F3.trans F4))
    · exact ZE _ _ _ _ _ (.inr ⟨ho, ho'⟩) jf kc (F1.trans F2)
  · exact ZE _ _ _ _ _ (.inl ho) jf kc F1
/-- what is told of two things -/
def toD (d e : PyData) : PyData := match ocD d with
  | some (w, f) => .list [.str w, f]
  | none => match ocD e with
    | some (w, f) => .list [.str w, f]
    | none => .list [.str z12, .bool (aheadD d e)]
theorem c_told {d e : PyData} {v u : Val} (ab : Ab X h) (i : Is X h d v) (j : Is X h e u) (t : Thn d) (t' : Thn e) (Z : ∀ v' h', Is X h' (toD d e) v' → Fr h h' → Q v' h') : (calls D gl S (L + 8) 40 [v, u] h).sat Q E := by
  show (runDef ⟨calls D gl S (L + 7), gl, S, none⟩ d40 [v, u] h).sat _ _
  unfold runDef startV d40 b40
  simp
  refine c_vahead i j t t' (fun h1 ho ho' F1 => ?_) (fun h1 word f fv cls ho jf kc F1 => ?_)
  · try simp
    refine sat_new fun q2 h2 e2 el2 l2 F2 => ?_
    try simp
    refine Z _ _ ?_ (F1.trans F2)
    unfold toD
    rw [ho, ho']
    exact is_lst ((ab.fr F1).no (by omega)) e2 (isall_cons is_str (isall_cons is_bl isall_nil))
  · have ht : toD d e = .list [.str word, f] := by
      unfold toD
      rcases ho with ho | ⟨ho, ho'⟩
      · rw [ho]
      · rw [ho, ho']
    have fin : ∀ q2 h2, h2[q2]? = some (.lst [.str word, fv]) → h1.length ≤ q2 → Fr h1 h2 → Q (.ref q2) h2 := fun q2 h2 e2 hq F2 => by
      refine Z _ _ ?_ (F1.trans F2)
      rw [ht]
      exact is_lst ((ab.fr F1).no hq) e2 (isall_cons is_str (isall_cons (jf.fr F2) isall_nil))
    rcases kc with ⟨rfl, rfl⟩ | ⟨rfl, rfl⟩ | ⟨rfl, rfl⟩ | ⟨rfl, rfl⟩
    all_goals
      simp
      refine sat_new fun q2 h2 e2 el2 l2 F2 => ?_
      try simp
      exact fin _ _ e2 (by omega) F2
end
end Mi


namespace Mi
open PySem (Str PyData)
theorem isall_prs {X : List Nat} {h : Heap} : ∀ {ds : List PyData} {xs : List Val}, IsAll X h ds xs → ∃ prs : List (Val × PyData), xs = prs.map (·.1) ∧ ds = prs.map (·.2) ∧ ∀ q ∈ prs, Is X h q.2 q.1
  | [], xs, i => ⟨[], i.nil, rfl, by simp⟩
  | d :: ds, xs, i => by
    obtain ⟨y, ys, rfl, i1, i2⟩ := i.cons
    obtain ⟨prs, rfl, rfl, hq⟩ := isall_prs i2
    refine ⟨(y, d) :: prs, rfl, rfl, fun q hm => ?_⟩
    rcases List.mem_cons.mp hm with rfl | hm
    · exact i1
    · exact hq q hm
theorem Sv.srcp {β : Type} {k : β → Val} {h : Heap} {v : Val} {xs : List β} (s : Sv h v (xs.map k)) : ∃ st, (∀ h', Fr h h' → srcR .val [v] h' = .ok ⟨xs.map (fun x => .v (k x)), st⟩ h') ∧ ∀ h' its, Fr h h' → Walk.ok ⟨its, st⟩ h' = true := by
  obtain ⟨st, e, o⟩ := s.src
  exact ⟨st, fun h' F => by rw [e h' F, List.map_map]; rfl, o⟩
def nmD : PyData → Str
  | .tuple (.str a :: _) => a
  | _ => z1
def chn : List PyData → Bool
  | d :: e :: r => aheadD d e && chn (e :: r)
  | _ => true
def rowOk (ds : List PyData) : Bool := ds.all (fun d => (ocD d).isNone) && (decide ((ds.map nmD).Nodup) && chn ds)
theorem chn_zip : ∀ ds : List PyData, ((ds.zip (ds.drop 1)).map fun p => aheadD p.1 p.2).all id = chn ds
  | [] => rfl
  | [d] => rfl
  | d :: e :: r => by
    have ih := chn_zip (e :: r)
    show ((aheadD d e :: (((e :: r).zip ((e :: r).drop 1)).map fun p => aheadD p.1 p.2))).all id = (aheadD d e && chn (e :: r))
    rw [List.all_cons, ih]
    rfl
theorem chn_iff : ∀ {ds : List PyData}, chn ds = true ↔ ∀ k, k + 1 < ds.length → aheadD (ds.getD k .none) (ds.getD (k + 1) .none) = true
  | [] => by simp [chn]
  | [d] => by simp [chn]
  | d :: e :: r => by
    show (aheadD d e && chn (e :: r)) = true ↔ _
    rw [Bool.and_eq_true, chn_iff (ds := e :: r)]
    constructor
    · rintro ⟨h1, h2⟩ k hk
      cases k with
      | zero => exact h1
      | succ k => exact h2 k (by simpa using hk)
    · intro h
      exact ⟨h 0 (by simp), fun k hk => h (k + 1) (by simpa using hk)⟩
def nmK (l : List Str) : List (Key × Val) := l.foldl (fun kvs a => putK kvs (.inr a) (.bl true)) []
theorem putK_in {kvs : List (Key × Val)} {k : Key} {v : Val} (c : k ∈ kvs.map (·.1)) : (putK kvs k v).map (·.1) = kvs.map (·.1) := by
  unfold putK
  have : (kvs.any fun kv => decide (kv.1 = k)) = true := by
    obtain ⟨kv, h1, h2⟩ := List.mem_map.mp c
    exact List.any_eq_true.mpr ⟨kv, h1, decide_eq_true h2⟩
  rw [if_pos this, List.map_map]
  refine List.map_congr_left fun kv _ => ?_
  show (if kv.1 = k then (kv.1, v) else kv).1 = kv.1
  split <;> rfl
theorem putK_out {kvs : List (Key × Val)} {k : Key} {v : Val} (c : k ∉ kvs.map (·.1)) : (putK kvs k v).map (·.1) = kvs.map (·.1) ++ [k] := by
  unfold putK
  have : ¬ (kvs.any fun kv => decide (kv.1 = k)) = true := fun z => by
    obtain ⟨kv, h1, h2⟩ := List.any_eq_true.mp z
    exact c (List.mem_map.mpr ⟨kv, h1, of_decide_eq_true h2⟩)
  rw [if_neg this, List.map_append]
  rfl
theorem nmK_snoc (l : List Str) (a : Str) : nmK (l ++ [a]) = putK (nmK l) (.inr a) (.bl true) := by
  unfold nmK
  rw [List.foldl_append]
  rfl
theorem nmK_ok : ∀ (m : Nat) (l : List Str), l.length = m → (nmK l).length ≤ l.length ∧ (∀ a, (Sum.inr a : Key) ∈ (nmK l).map (·.1) ↔ a ∈ l) ∧ ((nmK l).length = l.length ↔ l.Nodup)
  | 0, l, h => by
    have := List.eq_nil_of_length_eq_zero h
    subst this
    refine ⟨Nat.le_refl _, fun a => ?_, ?_⟩
    · simp [nmK]
    · simp [nmK]
  | m + 1, l, h => by
    obtain ⟨r, a, rfl⟩ : ∃ r a, l = r ++ [a] := ⟨l.dropLast, l.getLast (by intro z; rw [z] at h; cases h), (List.dropLast_concat_getLast _).symm⟩
    obtain ⟨h1, h2, h3⟩ := nmK_ok m r (by simpa using h)
    have hl : ∀ x : List (Key × Val), x.length = (x.map (·.1)).length := fun x => by rw [List.length_map]
    rw [nmK_snoc]
    by_cases c : a ∈ r
    · have hk := putK_in (v := .bl true) ((h2 a).mpr c)
      have e1 : (putK (nmK r) (.inr a) (.bl true)).length = (nmK r).length := by rw [hl, hk, ← hl]
      refine ⟨by rw [e1, List.length_append]; omega, fun b => ?_, ?_⟩
      · rw [hk, h2, List.mem_append, List.mem_singleton]
        exact ⟨.inl, fun z => z.elim id fun z => z ▸ c⟩
      · rw [e1, List.length_append]
        constructor
        · intro z
          simp at z
          omega
        · intro z
          exact absurd c fun y => by
            rw [List.nodup_append] at z
            exact z.2.2 a y a (List.mem_singleton.mpr rfl) rfl
    · have hk := putK_out (v := .bl true) (fun z => c ((h2 a).mp z))
      have e1 : (putK (nmK r) (.inr a) (.bl true)).length = (nmK r).length + 1 := by rw [hl, hk, List.length_append, ← hl]; rfl
      refine ⟨by rw [e1, List.length_append]; simp; omega, fun b => ?_, ?_⟩
      · rw [hk, List.mem_append, h2, List.mem_append, List.mem_singleton, List.mem_singleton]
        simp
      · rw [e1, List.length_append]
        show _ + 1 = _ + 1 ↔ _
        rw [Nat.add_right_cancel_iff, h3, List.nodup_append]
        constructor
        · intro z
          exact ⟨z, by simp, fun x hx y hy e => by rw [List.mem_singleton.mp hy] at e; exact c (e ▸ hx)⟩
        · exact fun z => z.1
section
variable {S : List Int} {L : Nat} {n c : Nat} {h : Heap} {Q : RQ Val} {E : RE} {X : List Nat}
theorem c_inorder {v : Val} {xs : List Val} {ds : List PyData} (s : Sv h v xs) (ia : IsAll X h ds xs) (t : ∀ d ∈ ds, Thn d) (hl : ds.length ≤ 1000) (Z : ∀ h', Fr h h' → Q (.bl (rowOk ds)) h') : (calls D gl S (L + 7) 20 [v] h).sat Q E := by
  show (runDef ⟨calls D gl S (L + 6), gl, S, none⟩ d20 [v] h).sat _ _
  unfold runDef startV d20 b20
  obtain ⟨prs, rfl, rfl, hq⟩ := isall_prs ia
  rw [List.length_map] at hl
  have ht : ∀ q ∈ prs, Thn q.2 := fun q m => t _ (List.mem_map_of_mem m)
  obtain ⟨st, z2, o2⟩ := s.srcp
  simp
  rw [z2 _ (Fr.refl _), sat_ok]
  dsimp only
  refine lcF_each (k := fun q : Val × PyData => q.1) (xs := prs) (fun r a h' => ∃ done, prs = done ++ r ∧ a = (done.map fun q => (ocD q.2).isNone).map .bl ∧ Fr h h') ?_ ?_ ?_ ?_ ⟨[], rfl, rfl, Fr.refl _⟩
  · rintro r a h' ⟨_, _, _, F⟩
    exact o2 _ _ F
  · rintro i r a h' ⟨done, he, rfl, F⟩
    have := congrArg List.length he
    simp at this ⊢
    omega
  · rintro q r a h' ⟨done, he, rfl, F⟩
    refine ⟨_, rfl, ?_⟩
    have hm : q ∈ prs := by rw [he]; simp
    simp
    refine c_isvol (L := L + 1) ((hq q hm).fr F) (ht q hm) fun h2 F2 => ?_
    exact ⟨done ++ [q], by rw [he]; simp, by simp, F.trans F2⟩
  · rintro a h1 ⟨done, he, rfl, F1⟩
    rw [List.append_nil] at he
    subst he
    refine sat_new fun p2 h2 e2 el2 l2 F2 => ?_
    rw [pri_all e2]
    have hall : ((prs.map fun q => (ocD q.2).isNone).all id) = (prs.map (·.2)).all (fun d => (ocD d).isNone) := by
      rw [List.all_map, List.all_map]
      rfl
    rw [hall]
    cases c : (prs.map (·.2)).all (fun d => (ocD d).isNone) with
    | false =>
      have hr : rowOk (prs.map (·.2)) = false := by unfold rowOk; rw [c, Bool.false_and]
      rw [hr] at Z
      simp
      exact Z _ (F1.trans F2)
    | true =>
      have hr : rowOk (prs.map (·.2)) = (decide (((prs.map (·.2)).map nmD).Nodup) && chn (prs.map (·.2))) := by unfold rowOk; rw [c, Bool.true_and]
      rw [hr] at Z
      have hg : ∀ q ∈ prs, ∃ a ps s w, GV q.2 a ps s w := fun q m => gv_of (ht q m) (by simpa using List.all_eq_true.mp c q.2 (List.mem_map_of_mem m))
      have F02 := F1.trans F2
      simp
      refine sat_new fun p3 h3 e3 el3 l3 F3 => ?_
      have F03 := F02.trans F3
      try simp
      rw [z2 _ F03, sat_ok]
      dsimp only
      have FA : ∀ h', Fx1 p3 h3 h' → Fr h h' := fun h' F => (F03.fx F).fresh (by have := F02.len; omega)
      refine loopF_each (k := fun q : Val × PyData => q.1) (xs := prs) (fun r σ h' => ∃ done s1, prs = done ++ r ∧ h'[p3]? = some (.dic (nmK (done.map fun q => nmD q.2))) ∧ Fx1 p3 h3 h' ∧ σ = [some v, s1, some (.ref p3), none, none, none]) ?_ ?_ ?_ ⟨[], _, rfl, by simpa [nmK] using e3, Fx1.refl _ _, rfl⟩
      · rintro r σ h' ⟨_, _, _, _, F, _⟩
        exact o2 _ _ (FA _ F)
      · rintro q r _ h' ⟨done, s1, he, ed, F, rfl⟩
        refine ⟨_, rfl, ?_⟩
        have hm : q ∈ prs := by rw [he]; simp
        obtain ⟨a, ps, s, w, g⟩ := hg q hm
        have iq := (hq q hm).fr (FA _ F)
        rw [g.e] at iq
        obtain ⟨pq, zv, eq, _, epq, _⟩ := four_is iq
        simp
        rw [eq, (ix_t0 epq).1]
        simp
        have hlen := congrArg List.length he
        simp at hlen
        have hle := (nmK_ok _ (done.map fun q => nmD q.2) rfl).1
        rw [List.length_map] at hle
        refine sat_setD ed rfl (by show _ < 16777216; omega) fun h4 e4 l4 F4 => ?_
        refine ⟨done ++ [q], by rw [he]; simp, ?_, F.trans F4⟩
        rw [e4, List.map_append, List.map_singleton, nmK_snoc, g.e]
        rfl
      · rintro _ h4 ⟨done, s1, he, ed, F, rfl⟩
        rw [List.append_nil] at he
        subst he
        have F04 := FA _ F
        simp
        rw [z2 _ F04, sat_ok]
        dsimp only
        refine lcF_each (k := fun q : Val × PyData => q.1) (xs := prs) (fun r a h' => ∃ done, prs = done ++ r ∧ IsAll [] h' (done.map fun q => rkOf q.2) a ∧ Fr h4 h') ?_ ?_ ?_ ?_ ⟨[], rfl, isall_nil, Fr.refl _⟩
        · rintro r a h' ⟨_, _, _, F⟩
          exact o2 _ _ (F04.trans F)
        · rintro i r a h' ⟨done, he, ja, F⟩
          have h1 := congrArg List.length he
          have h2 := ja.length
          simp at h1 h2 ⊢
          omega
        · rintro q r a h' ⟨done, he, ja, F⟩
          refine ⟨_, rfl, ?_⟩
          have hm : q ∈ prs := by rw [he]; simp
          obtain ⟨a', ps, s, w, g⟩ := hg q hm
          simp
          refine c_vrank ((hq q hm).fr (F04.trans F)) g fun q5 h5 i5 F5 => ?_
          refine ⟨done ++ [q], by rw [he]; simp, ?_, F.trans F5⟩
          rw [List.map_append]
          exact (ja.fr F5).app (isall_cons i5 isall_nil)
        · rintro a h5 ⟨done, he, ja, F5⟩
          rw [List.append_nil] at he
          subst he
          refine sat_new fun p6 h6 e6 el6 l6 F6 => ?_
          have F46 := F5.trans F6
          have ed6 := F46.at ed
          have F06 := F04.trans F46
          have hnd := (nmK_ok _ (prs.map fun q => nmD q.2) rfl).2.2
          rw [List.length_map] at hnd
          have hnm : (prs.map (·.2)).map nmD = prs.map fun q => nmD q.2 := by rw [List.map_map]; rfl
          rw [hnm] at Z
          have hld : Mi.pri ⟨calls D gl S (L + 6), gl, S, none⟩ .len [.ref p3] h6 = .ok (.int (nmK (prs.map fun q => nmD q.2)).length) h6 := by simp [Mi.pri, lenV, ed6]
          rw [hld, sat_ok, (s.fr F06).len]
          simp
          by_cases cn : (nmK (prs.map fun q => nmD q.2)).length = prs.length
          · have hnd' := hnd.mp cn
            rw [decide_eq_true hnd', Bool.true_and] at Z
            simp [cn]
            have es : slcV (.ref p6) (some 1) none h6 = _ := slc_from (k := 1) e6
            rw [es]
            refine sat_new fun p7 h7 e7 el7 l7 F7 => ?_
            obtain ⟨st3, z3, o3⟩ := (sv_lst (F7.at e6)).zip (sv_lst e7)
            rw [z3 _ (Fr.refl _), sat_ok]
            dsimp only
            obtain ⟨pr2, rfl, hds, hq2⟩ := isall_prs (ja.fr F6)
            have hz : (pr2.map (·.1)).zip ((pr2.map (·.1)).drop 1) = (pr2.zip (pr2.drop 1)).map fun x => (x.1.1, x.2.1) := by
              rw [← List.map_drop, List.zip_map]
              rfl
            rw [hz, List.map_map]
            have hgood : ∀ x ∈ pr2, ∃ (q : Nat) (d : PyData) (a : Str) (ps : List Val) (s w : Int), x.1 = .ref q ∧ x.2 = rkOf d ∧ GV d a ps s w := fun x hx => by
              have : x.2 ∈ prs.map fun q => rkOf q.2 := by rw [hds]; exact List.mem_map_of_mem hx
              obtain ⟨y, hy, hyx⟩ := List.mem_map.mp this
              obtain ⟨a, ps, s, w, g⟩ := hg y hy
              have i2 := hq2 x hx
              rw [← hyx, g.rk] at i2
              obtain ⟨q, _, eq, _⟩ := i2.tup
              exact ⟨q, y.2, a, ps, s, w, eq, hyx.symm, g⟩
            have hlen2 : pr2.length = prs.length := by
              have := congrArg List.length hds
              simpa using this.symm
            refine lcF_pairs (k1 := fun x : (Val × PyData) × (Val × PyData) => x.1.1) (k2 := fun x => x.2.1) (xs := pr2.zip (pr2.drop 1)) (fun r acc h' => ∃ done, pr2.zip (pr2.drop 1) = done ++ r ∧ acc = (done.map fun x => PySem.W.dataLt x.1.2 x.2.2).map .bl ∧ Fr h7 h') ?_ ?_ ?_ ?_ ⟨[], rfl, rfl, Fr.refl _⟩
            · rintro r a h' ⟨_, _, _, F⟩
              exact o3 _ _ F
            · rintro i r a h' ⟨done, he, rfl, F⟩
              have := congrArg List.length he
              rw [List.length_zip] at this
              simp at this ⊢
              omega
            · rintro x r a h8 h9 ⟨done, he, rfl, F⟩ F9 _
              have hx : x ∈ pr2.zip (pr2.drop 1) := by rw [he]; simp
              have m1 : x.1 ∈ pr2 := (List.of_mem_zip (show (x.1, x.2) ∈ _ from hx)).1
              have m2 : x.2 ∈ pr2 := List.mem_of_mem_drop (List.of_mem_zip (show (x.1, x.2) ∈ _ from hx)).2
              obtain ⟨q1, d1, a1, ps1, s1, w1, eq1, er1, g1⟩ := hgood _ m1
              obtain ⟨q2, d2, a2, ps2, s2, w2, eq2, er2, g2⟩ := hgood _ m2
              have F69 := F7.trans (F.trans F9)
              have i1 := (hq2 _ m1).fr F69
              have i2 := (hq2 _ m2).fr F69
              rw [eq1, er1] at i1
              rw [eq2, er2] at i2
              simp [eq1, eq2]
              rw [bop_lt_is i1 i2 g1.okrk g2.okrk (by decide) (by decide) (gv_alike g1 g2) (by rw [g1.rk]; rfl)]
              refine ⟨done ++ [x], ?_, ?_, F.trans F9⟩
              · rw [List.append_assoc]
                rw [← List.drop_one]
                exact he
              · rw [List.map_append]
                show _ = _ ++ [Val.bl (PySem.W.dataLt x.1.2 x.2.2)]
                rw [er1, er2]
            · rintro a h8 ⟨done, he, rfl, F⟩
              rw [List.append_nil] at he
              subst he
              refine sat_new fun p9 h9 e9 el9 l9 F9 => ?_
              rw [pri_all e9]
              have hch : (((pr2.zip (pr2.drop 1)).map fun x => PySem.W.dataLt x.1.2 x.2.2).all id) = chn (prs.map (·.2)) := by
                rw [← chn_zip]
                congr 1
                have e1 : (pr2.zip (pr2.drop 1)).map (fun x => PySem.W.dataLt x.1.2 x.2.2) = ((pr2.map (·.2)).zip ((pr2.map (·.2)).drop 1)).map fun p => PySem.W.dataLt p.1 p.2 := by
                  rw [← List.map_drop, List.zip_map, List.map_map]
                  rfl
                have e2 : pr2.map (·.2) = (prs.map (·.2)).map rkOf := by rw [← hds, List.map_map]; rfl
                rw [e1, e2, ← List.map_drop, List.zip_map, List.map_map]
                rfl
              rw [hch]
              exact Z _ (F06.trans (F7.trans (F.trans F9)))
          · have hnd' : ¬ (prs.map fun q => nmD q.2).Nodup := fun z => cn (hnd.mpr z)
            rw [decide_eq_false hnd', Bool.false_and] at Z
            have cn' : ¬ ((nmK (prs.map fun q => nmD q.2)).length : Int) = prs.length := by omega
            simp [cn']
            exact Z _ F06
end
end Mi


namespace Mi
open PySem (Str PyData)
theorem rks_eqv : ∀ {ps qs : List Val}, (∀ v ∈ ps, GP v) → (∀ v ∈ qs, GP v) → PyData.eqvAll (ps.map rkD) (qs.map rkD) = decide (ps = qs)
  | [], [], _, _ => by simp [PyData.eqvAll]
  | [], q :: qs, _, _ => by simp [PyData.eqvAll]
  | p :: ps, [], _, _ => by simp [PyData.eqvAll]
  | p :: ps, q :: qs, hp, hq => by
    have ih := rks_eqv (ps := ps) (qs := qs) (fun v hv => hp v (List.mem_cons_of_mem _ hv)) (fun v hv => hq v (List.mem_cons_of_mem _ hv))
    have h1 := rk_eqv (hp p List.mem_cons_self) (hq q List.mem_cons_self)
    rw [List.map_cons, List.map_cons, PyData.eqvAll, h1, ih]
    by_cases c : p = q
    · by_cases c2 : ps = qs <;> simp [c, c2]
    · simp [c]
theorem ahead_is {d e : PyData} {a b : Str} {ps qs : List Val} {s t w u : Int} (g : GV d a ps s w) (g' : GV e b qs t u) :
    aheadD d e = if s = t then (if ps = qs then decide (a.cps.toList < b.cps.toList) else plt ps qs) else decide (s < t) := by
  unfold aheadD
  rw [g.rk, g'.rk, PySem.W.dataLt_tuple]
  have al : PySem.W.alike (.list (ps.map rkD)) (.list (qs.map rkD)) = true := by rw [PySem.W.alike]; exact alike_rk g.p.g g'.p.g
  by_cases c1 : s = t
  · rw [if_pos c1, PySem.W.dataLt_all_yes (by simp [PySem.W.alike]) (by simp [PyData.eqv, c1])]
    have he : PyData.eqv (.list (ps.map rkD)) (.list (qs.map rkD)) = decide (ps = qs) := by rw [PyData.eqv]; exact rks_eqv g.p.g g'.p.g
    by_cases c2 : ps = qs
    · rw [if_pos c2, PySem.W.dataLt_all_yes al (by rw [he]; exact decide_eq_true c2)]
      by_cases c3 : a = b
      · subst c3
        rw [PySem.W.dataLt_all_yes (by simp [PySem.W.alike]) (by simp [PyData.eqv])]
        rw [show PyProof.Rows.lexLt PyProof.Rows.itemOrd (PySem.W.keyToksAll []) (PySem.W.keyToksAll []) = false from PyProof.Rows.lex_irrefl _]
        symm
        exact decide_eq_false (List.lt_irrefl _)
      · rw [PySem.W.dataLt_all_no (by simp [PySem.W.alike]) (by simpa [PyData.eqv] using c3), PySem.W.dataLt_str]
    · rw [if_neg c2, PySem.W.dataLt_all_no al (by rw [he]; exact decide_eq_false c2), plt_is g.p.g g'.p.g]
  · rw [if_neg c1, PySem.W.dataLt_all_no (by simp [PySem.W.alike]) (by simpa [PyData.eqv] using c1), PySem.W.dataLt_int]
theorem mk_inj {ps qs : List Val} (P : Pts ps) (R : Pts qs) : mkS (tsOf ps) = mkS (tsOf qs) ↔ ps = qs :=
  ⟨fun e => by rw [← psOf_mk P, e, psOf_mk R], fun e => by rw [e]⟩
/-- what the law finds due -/
def dueD (d : PyData) : PyData := match ocD d with
  | none => .none
  | some (w, f) => .list [.str w, f]
section
variable {S : List Int} {L : Nat} {n c : Nat} {h : Heap} {Q : RQ Val} {E : RE} {X : List Nat}
theorem c_rparts {ps : List Val} (P : Pts ps) (Z : ∀ q h', h'[q]? = some (.lst ps) → Fr h h' → Q (.ref q) h') : (calls D gl S (L + 1) 35 [.str (mkS (tsOf ps))] h).sat Q E := by
  show (runDef ⟨calls D gl S L, gl, S, none⟩ d35 [.str (mkS (tsOf ps))] h).sat _ _
  unfold runDef startV d35 b35
  have pc := P.pc
  have hd : (z2.length == 0) = false := by decide +kernel
  have hle := P.le
  simp
  rw [show met .split (.str (mkS (tsOf ps))) [.str z2] h = new (.lst ((tsOf ps).map .str)) h by
    unfold met
    dsimp only
    rw [if_pos ⟨hd, by have := pc.le; simp; omega⟩, pc.spl]]
  refine sat_new fun p1 h1 e1 el1 l1 F1 => ?_
  have hm : (tsOf ps).map Val.str = ps.map fun v => .str (txt v) := by simp [tsOf]
  rw [hm] at e1
  rw [srcR_lst e1, List.map_map, sat_ok]
  dsimp only
  refine lcF_each (k := fun v => Val.str (txt v)) (xs := ps) (fun r a h' => ∃ done, ps = done ++ r ∧ a = done ∧ h' = h1) ?_ ?_ ?_ ?_ ⟨[], rfl, rfl, rfl⟩
  · rintro r a h' ⟨done, _, _, rfl⟩
    exact ok_lst _ _ rfl e1
  · rintro i r a h' ⟨done, he, rfl, _⟩
    have := congrArg List.length he
    simp at this ⊢
    omega
  · rintro v r a h' ⟨done, he, rfl, rfl⟩
    refine ⟨_, rfl, ?_⟩
    have gv : GP v := P.g v (by rw [he]; simp)
    have htl : (txt v).length ≤ 6 := txt_len gv
    rcases gv with ⟨i, rfl, h0, h1⟩ | ⟨x, rfl, hx⟩
    · have htx : TL.tl (istr i) = TL.numL i.toNat := tl_istr h0
      obtain ⟨c, r', hcr⟩ : ∃ c r', TL.numL i.toNat = c :: r' := List.exists_cons_of_ne_nil (TL.numL_ne _)
      have hdc := TL.numL_digits i.toNat c (by rw [hcr]; simp)
      have htl' : (istr i).length ≤ 6 := htl
      have hix : ∀ g : G, idxV g (.str (istr i)) (.int 0) h' = .ok (.str ⟨#[c]⟩) h' := fun g => by
        have : (istr i).cps.toList = c :: r' := by rw [← hcr]; exact htx
        unfold idxV
        simp [this, L2.atI, L2.ixN, show (istr i).length ≤ 16777216 by omega]
      have hint : PySem.intText? (istr i) = some (i.toNat : Int) := by
        have := TL.int_num (n := i.toNat) (by rw [← htx, ← len_tl]; omega)
        rwa [show Str.ofString (toString ((i.toNat : Nat) : Int)) = istr i from by rw [Int.toNat_of_nonneg h0]; rfl] at this
      have hmem : c ∈ (z5).cps := by
        have := (fig_mem c).mpr (by omega)
        simpa using this
      simp [show txt (.int i) = istr i from rfl, hix, hmem]
      rw [pri_int_str hint (by omega), Int.toNat_of_nonneg h0]
      exact ⟨a ++ [.int i], by rw [he]; simp, rfl, rfl⟩
    · obtain ⟨h1, h2, h3⟩ := lett_is hx
      obtain ⟨c, r', hcr⟩ : ∃ c r', TL.tl x = c :: r' := List.exists_cons_of_ne_nil fun z => by
        rw [len_tl, z] at h1
        simp at h1
      have hc := h3 c (by rw [hcr]; simp)
      have htl' : x.length ≤ 6 := htl
      have hix : ∀ g : G, idxV g (.str x) (.int 0) h' = .ok (.str ⟨#[c]⟩) h' := fun g => by
        have : x.cps.toList = c :: r' := hcr
        unfold idxV
        simp [this, L2.atI, L2.ixN, show x.length ≤ 16777216 by omega]
      have hmem : c ∉ (z5).cps := fun z => by
        have := (fig_mem c).mp (by simpa using z)
        omega
      simp [show txt (.str x) = x from rfl, hix, hmem]
      first | exact he | simpa using he
  · rintro a h2 ⟨done, he, rfl, rfl⟩
    rw [List.append_nil] at he
    subst he
    refine sat_new fun q h3 e3 el3 l3 F3 => ?_
    exact Z _ _ e3 (F1.trans F3)
theorem c_lahead {d e : PyData} {v u : Val} {a b : Str} {ps qs : List Val} {s t w w' : Int} (i : Is X h d v) (j : Is X h e u) (g : GV d a ps s w) (g' : GV e b qs t w') (Z : ∀ h', Fr h h' → Q (.bl (aheadD d e)) h') : (calls D gl S (L + 3) 36 [v, u] h).sat Q E := by
  show (runDef ⟨calls D gl S (L + 2), gl, S, none⟩ d36 [v, u] h).sat _ _
  unfold runDef startV d36 b36
  rw [ahead_is g g'] at Z
  have P := g.p
  have R := g'.p
  rw [g.e] at i
  rw [g'.e] at j
  obtain ⟨p, zv, rfl, _, e1, iz⟩ := four_is i
  obtain rfl := iz.int
  obtain ⟨q, zu, rfl, _, e2, jz⟩ := four_is j
  obtain rfl := jz.int
  simp [(ix_t0 e1).2.2.1, (ix_t0 e2).2.2.1]
  by_cases c1 : s = t
  · rw [if_pos c1] at Z
    simp [c1, (ix_t0 e1).2.1, (ix_t0 e2).2.1, mk_inj P R]
    by_cases c2 : ps = qs
    · rw [if_pos c2] at Z
      simp [c2, (ix_t0 e1).1, (ix_t0 e2).1]
      exact Z _ (Fr.refl _)
    · rw [if_neg c2] at Z
      simp [c2, (ix_t0 e1).2.1]
      refine c_rparts (L := L + 1) P fun q3 h3 e3 F3 => ?_
      simp [(ix_t0 (F3.at e2)).2.1]
      refine c_rparts (L := L + 1) R fun q4 h4 e4 F4 => ?_
      try simp
      refine c_pahead (F4.at e3) e4 P.g R.g fun h5 F5 => ?_
      exact Z _ (F3.trans (F4.trans F5))
  · rw [if_neg c1] at Z
    simp [c1, (ix_t0 e1).2.2.1, (ix_t0 e2).2.2.1]
    exact Z _ (Fr.refl _)
theorem c_due {d : PyData} {v : Val} (ab : Ab X h) (i : Is X h d v) (t : Thn d) (Z : ∀ v' h', Is X h' (dueD d) v' → Fr h h' → Q v' h') : (calls D gl S (L + 1) 39 [v] h).sat Q E := by
  show (runDef ⟨calls D gl S L, gl, S, none⟩ d39 [v] h).sat _ _
  unfold runDef startV d39 b39
  rcases t with ⟨a, b, z, w, rfl, t4⟩ | nv
  · obtain ⟨p, zv, rfl, _, e, iz⟩ := four_is i
    have hoc : dueD (.tuple [.str a, .str b, z, .int w]) = match oc4 a b z w with
      | none => .none
      | some (w, f) => .list [.str w, f] := rfl
    rw [hoc] at Z
    unfold oc4 at Z
    simp [is_a_tup e, okTy, isTy, len_tup e, (ix_t0 e).1]
    by_cases c1 : a = z7
    · rw [if_pos c1] at Z
      simp [c1]
      refine sat_new fun q1 h1 e1 el1 l1 F1 => ?_
      refine Z _ _ (is_lst (ab.no (by omega)) e1 (isall_cons is_str (isall_cons ?_ isall_nil))) F1
      rw [c1]
      exact is_str
    · rw [if_neg c1] at Z
      simp [c1, (ix_t0 e).2.1]
      by_cases c2 : b = z6
      · rw [if_pos c2] at Z
        simp [c2]
        refine sat_new fun q1 h1 e1 el1 l1 F1 => ?_
        refine Z _ _ (is_lst (ab.no (by omega)) e1 (isall_cons is_str (isall_cons ?_ isall_nil))) F1
        rw [c2]
        exact is_str
      · rw [if_neg c2] at Z
        simp [c2, (ix_t0 e).2.2.1]
        have tail : okZ z = true → ((idxV ⟨calls D gl S L, gl, S, none⟩ (.ref p) (.int 3) h).sat (fun a h => (bop .eq a (.int 0) h).sat (fun a h => (truB a h).sat (fun a h => (if a = true then new (.lst [.str z8, .int 0]) h else Res.ok .non h).sat Q E) E) E) E) := by
          intro hz
          rw [if_neg (by rw [hz]; decide)] at Z
          simp [(ix_t0 e).2.2.2]
          by_cases c4 : w = 0
          · rw [if_pos c4] at Z
            simp [c4]
            refine sat_new fun q1 h1 e1 el1 l1 F1 => ?_
            refine Z _ _ (is_lst (ab.no (by omega)) e1 (isall_cons is_str (isall_cons ?_ isall_nil))) F1
            rw [c4]
            exact is_int
          · rw [if_neg c4] at Z
            simp [c4]
            exact Z _ _ is_non (Fr.refl _)
        have bad : okZ z = false → (new (.lst [.str z8, zv]) h).sat Q E := by
          intro hz
          rw [if_pos hz] at Z
          refine sat_new fun q1 h1 e1 el1 l1 F1 => ?_
          exact Z _ _ (is_lst (ab.no (by omega)) e1 (isall_cons is_str (isall_cons (iz.fr F1) isall_nil))) F1
        rcases t4.hz with rfl | rfl | ⟨s, rfl, s1, s9⟩
        · obtain rfl := iz.bl
          simp [(ix_t0 e).2.2.1]
          exact bad rfl
        · obtain rfl := iz.int
          have : bop .is (.int 10) (.bl true) h = .ok (.bl false) h := rfl
          simp [this, (ix_t0 e).2.2.1]
          exact bad rfl
        · obtain rfl := iz.int
          have : bop .is (.int s) (.bl true) h = .ok (.bl false) h := rfl
          have hs : s ≠ 10 := by omega
          simp [this, (ix_t0 e).2.2.1, hs]
          exact tail (by simp [okZ, s1, s9])
  · have hdu : dueD d = .list [.str z11, d] := by unfold dueD; rw [nv_oc nv]
    rw [hdu] at Z
    have fin : (new (.lst [.str z11, v]) h).sat Q E := by
      refine sat_new fun q1 h1 e1 el1 l1 F1 => ?_
      exact Z _ _ (is_lst (ab.no (by omega)) e1 (isall_cons is_str (isall_cons (i.fr F1) isall_nil))) F1
    rcases nv with rfl | rfl | rfl | rfl | ⟨ds, rfl⟩ | ⟨a, b, c, rfl⟩
    · unfold Is at i
      subst i
      simp [okTy, isTy]
      exact fin
    · obtain rfl := i.int
      simp [okTy, isTy]
      exact fin
    · obtain rfl := i.str
      simp [okTy, isTy]
      exact fin
    · unfold Is at i
      obtain ⟨p, xs, rfl, _, e, _⟩ := i
      simp [is_a_dic e, okTy, isTy]
      exact fin
    · obtain ⟨p, xs, rfl, _, e, _⟩ := i.lst
      simp [is_a_lst e, okTy, isTy]
      exact fin
    · obtain ⟨p, xs, rfl, _, e, ia⟩ := i.tup
      have hl := ia.length
      simp [is_a_tup e, okTy, isTy, len_tup e, hl]
      exact fin
end
end Mi


namespace Mi
open PySem (Str PyData)
theorem ix_at {g : G} {h : Heap} {p : Nat} {ps : List Val} {i : Int} {j : Nat} (e : h[p]? = some (.lst ps)) (hi : i = j) (hj : j < ps.length) : idxV g (.ref p) (.int i) h = .ok ps[j] h := by
  subst hi
  exact ix_get e hj
theorem row_no1 {ds : List PyData} {d : PyData} (hm : d ∈ ds) (h : ocD d ≠ none) : rowOk ds = false := by
  have : ds.all (fun d => (ocD d).isNone) = false := by
    rw [List.all_eq_false]
    refine ⟨d, hm, ?_⟩
    cases c : ocD d with
    | none => exact absurd c h
    | some x => simp
  unfold rowOk
  rw [this, Bool.false_and]
theorem row_no2 {ds : List PyData} (h : ¬ (ds.map nmD).Nodup) : rowOk ds = false := by
  unfold rowOk
  rw [decide_eq_false h, Bool.false_and, Bool.and_false]
theorem row_yes {ds : List PyData} (h1 : ∀ d ∈ ds, ocD d = none) (h2 : (ds.map nmD).Nodup) : rowOk ds = chn ds := by
  have : ds.all (fun d => (ocD d).isNone) = true := List.all_eq_true.mpr fun d hd => by rw [h1 d hd]; rfl
  unfold rowOk
  rw [this, decide_eq_true h2, Bool.true_and, Bool.true_and]
def AhK (ds : List PyData) (k : Nat) : Prop := ∀ m, m < k → aheadD (ds.getD m .none) (ds.getD (m + 1) .none) = true
theorem AhK.succ {ds : List PyData} {k : Nat} : AhK ds (k + 1) ↔ AhK ds k ∧ aheadD (ds.getD k .none) (ds.getD (k + 1) .none) = true :=
  ⟨fun z => ⟨fun m hm => z m (Nat.lt_succ_of_lt hm), z k (Nat.lt_succ_self k)⟩, fun z m hm => (Nat.lt_succ_iff_lt_or_eq.mp hm).elim (z.1 m) fun e => e ▸ z.2⟩
theorem chn_ahk {ds : List PyData} : chn ds = true ↔ AhK ds (ds.length - 1) := by
  rw [chn_iff]
  exact ⟨fun z k hk => z k (by omega), fun z k hk => z k (by omega)⟩
/-- done: all volumes, no name twice -/
def DnP (done : List (Val × PyData)) : Prop := (∀ q ∈ done, ocD q.2 = none) ∧ (done.map fun q => nmD q.2).Nodup
theorem any_strs (l : List Str) (a : Str) : ((l.map Val.str).any fun y => eqF y (.str a)) = decide (a ∈ l) := by
  rw [Bool.eq_iff_iff, decide_eq_true_iff, List.any_eq_true]
  constructor
  · rintro ⟨v, hv, he⟩
    obtain ⟨x, hx, rfl⟩ := List.mem_map.mp hv
    have : x = a := by simpa [eqF] using he
    exact this ▸ hx
  · exact fun hm => ⟨_, List.mem_map_of_mem hm, by simp [eqF]⟩
section
variable {S : List Int} {L : Nat} {n c : Nat} {h : Heap} {Q : RQ Val} {E : RE} {X : List Nat}
theorem c_rowdue {p : Nat} {xs : List Val} {ds : List PyData} (ab : Ab X h) (e : h[p]? = some (.lst xs)) (ia : IsAll X h ds xs) (t : ∀ d ∈ ds, Thn d) (hl : ds.length ≤ 200) (Z : ∀ h', Fr h h' → Q (.bl (rowOk ds)) h') : (calls D gl S (L + 4) 42 [.ref p] h).sat Q E := by
  show (runDef ⟨calls D gl S (L + 3), gl, S, none⟩ d42 [.ref p] h).sat _ _
  unfold runDef startV d42 b42
  obtain ⟨prs, rfl, rfl, hq⟩ := isall_prs ia
  rw [List.length_map] at hl
  have ht : ∀ q ∈ prs, Thn q.2 := fun q m => t _ (List.mem_map_of_mem m)
  simp
  refine sat_new fun q1 h1 e1 el1 l1 F1 => ?_
  obtain ⟨st, z2, o2⟩ := (sv_lst e).srcp
  try simp
  rw [z2 _ F1, sat_ok]
  dsimp only
  have FA : ∀ h', Fx1 q1 h1 h' → Fr h h' := fun h' F => (F1.fx F).fresh (by omega)
  refine loopF_each (k := fun q : Val × PyData => q.1) (xs := prs) (fun r σ h' => ∃ done s2, prs = done ++ r ∧ DnP done ∧ h'[q1]? = some (.lst ((done.map fun q => nmD q.2).map .str)) ∧ Fx1 q1 h1 h' ∧ σ = [some (.ref p), some (.ref q1), s2, none]) ?_ ?_ ?_ ⟨[], none, rfl, ⟨by simp, by simp⟩, by simpa using e1, Fx1.refl _ _, rfl⟩
  · rintro r σ h' ⟨_, _, _, _, _, F, _⟩
    exact o2 _ _ (FA _ F)
  · rintro q r _ h2 ⟨done, s2, he, ⟨hn, hnd⟩, eq1, F, rfl⟩
    refine ⟨_, rfl, ?_⟩
    have hm : q ∈ prs := by rw [he]; simp
    have F02 := FA _ F
    have iq := (hq q hm).fr F02
    simp
    refine c_due (L := L + 2) (ab.fr F02) iq (ht q hm) fun v' h3 iv F3 => ?_
    cases ho : ocD q.2 with
    | some wf =>
      have hd : dueD q.2 = .list [.str wf.1, wf.2] := by unfold dueD; rw [ho]
      rw [hd] at iv
      obtain ⟨p3, _, rfl, _⟩ := iv.lst
      simp
      have := Z _ (F02.trans F3)
      rw [row_no1 (List.mem_map_of_mem hm) (by rw [ho]; simp)] at this
      exact this
    | none =>
      have hd : dueD q.2 = .none := by unfold dueD; rw [ho]
      rw [hd] at iv
      have : v' = .non := by unfold Is at iv; exact iv
      subst this
      obtain ⟨a, ps, s, w, g⟩ := gv_of (ht q hm) ho
      have iq3 := iq.fr F3
      have hna : nmD q.2 = a := by rw [g.e]; rfl
      rw [g.e] at iq3
      obtain ⟨pq, zv, eqv, _, epq, _⟩ := four_is iq3
      have eq13 := F3.at eq1
      simp [eqv, (ix_t0 epq).1]
      rw [in_flat eq13 rfl (by rw [List.all_eq_true]; intro y hy; obtain ⟨x, _, rfl⟩ := List.mem_map.mp hy; rfl), any_strs]
      have hlen := congrArg List.length he
      simp at hlen
      by_cases ca : a ∈ done.map fun q => nmD q.2
      · rw [decide_eq_true ca]
        simp
        have := Z _ (F02.trans F3)
        rw [row_no2 (fun z => by
          rw [List.map_map, he, List.map_append, List.nodup_append] at z
          exact z.2.2 a ca a (by show a ∈ nmD q.2 :: _; rw [hna]; simp) rfl)] at this
        exact this
      · rw [decide_eq_false ca]
        simp [rc_app eq13, (ix_t0 epq).1]
        refine sat_app eq13 (by simp; omega) fun h4 e4 l4 F4 => ?_
        refine ⟨done ++ [q], by rw [he]; simp, ⟨fun y hy => ?_, ?_⟩, ?_, F.trans (F3.fx F4)⟩
        · rcases List.mem_append.mp hy with hy | hy
          · exact hn y hy
          · rw [List.mem_singleton.mp hy]; exact ho
        · rw [List.map_append, List.nodup_append]
          refine ⟨hnd, by simp, fun x hx y hy e' => ?_⟩
          rw [List.map_singleton, List.mem_singleton] at hy
          rw [e', hy, hna] at hx
          exact ca hx
        · rw [e4, ← hna]
          simp
  · rintro _ h2 ⟨done, s2, he, ⟨hn, hnd⟩, eq1, F, rfl⟩
    rw [List.append_nil] at he
    subst he
    have F02 := FA _ F
    have hr : rowOk (prs.map (·.2)) = chn (prs.map (·.2)) := row_yes (fun d hd => by obtain ⟨q, hq', rfl⟩ := List.mem_map.mp hd; exact hn q hq') (by rw [List.map_map]; exact hnd)
    rw [hr] at Z
    have e2 := F02.at e
    simp
    rw [len_lst e2, sat_ok, List.length_map, sat_rng2]
    refine ⟨⟨by omega, by omega, by omega, by omega⟩, ?_⟩
    refine lcF_rng (fun (k : Nat) (a : List Val) (h' : Heap) => ∃ ks : List Int, a = ks.map .int ∧ ks.length ≤ k ∧ (∀ x ∈ ks, x.natAbs < 1000) ∧ (ks = [] ↔ AhK (prs.map (·.2)) k) ∧ Fr h2 h') rfl ?_ ?_ ?_ ⟨[], rfl, Nat.le_refl _, by simp, ⟨fun _ m hm => absurd hm (Nat.not_lt_zero _), fun _ => rfl⟩, Fr.refl _⟩
    · rintro k a h' hk ⟨ks, rfl, hkl, _⟩
      simp
      omega
    · rintro k a h3 hk ⟨ks, rfl, hkl, hks, hke, F3⟩
      refine ⟨_, rfl, ?_⟩
      have e3 := F3.at e2
      have F03 := F02.trans F3
      have hk1 : k + 1 < prs.length := by omega
      simp
      rw [ix_at (j := k) e3 (by omega) (by simp; omega)]
      simp
      rw [ix_at (j := k + 1) e3 (by omega) (by simp; omega)]
      simp
      have m1 : prs[k] ∈ prs := List.getElem_mem _
      have m2 : prs[k + 1] ∈ prs := List.getElem_mem _
      obtain ⟨a1, ps1, s1, w1, g1⟩ := gv_of (ht _ m1) (hn _ m1)
      obtain ⟨a2, ps2, s2, w2, g2⟩ := gv_of (ht _ m2) (hn _ m2)
      refine c_lahead ((hq _ m1).fr F03) ((hq _ m2).fr F03) g1 g2 fun h4 F4 => ?_
      have hg1 : (prs.map (·.2)).getD k .none = prs[k].2 := by simp [List.getD, List.getElem?_map, List.getElem?_eq_getElem (show k < prs.length by omega)]
      have hg2 : (prs.map (·.2)).getD (k + 1) .none = prs[k + 1].2 := by simp [List.getD, List.getElem?_map, List.getElem?_eq_getElem hk1]
      cases ca : aheadD prs[k].2 prs[k + 1].2 with
      | true =>
        simp
        refine ⟨ks, rfl, by omega, hks, ?_, F3.trans F4⟩
        rw [hke, AhK.succ, hg1, hg2, ca]
        try simp
      | false =>
        simp
        refine ⟨ks ++ [1 + (k : Int)], by simp, by simp; omega, fun x hx => ?_, ?_, F3.trans F4⟩
        · rcases List.mem_append.mp hx with hx | hx
          · exact hks x hx
          · rw [List.mem_singleton.mp hx]; omega
        · constructor
          · intro z; simp at z
          · intro z
            have := (AhK.succ.mp z).2
            rw [hg1, hg2, ca] at this
            cases this
    · rintro a h3 ⟨ks, rfl, hkl, hks, hke, F3⟩
      refine sat_new fun p5 h5 e5 el5 l5 F5 => ?_
      refine sat_new fun p6 h6 e6 el6 l6 F6 => ?_
      rw [bop_eq_is (X := []) (Y := []) (is_ints (by simp) (F6.at e5)) (is_ints (ns := []) (by simp) e6) (okd_ints (k := 3) (m := 200) (by decide) (by decide) (by omega) fun n hn => by have := hks n hn; simpa using this) (okd_ints (k := 3) (m := 40) (by decide) (by decide) (by simp) (by simp)) (by decide) (by decide), eqv_ints]
      have hc : decide (ks = []) = chn (prs.map (·.2)) := by
        rw [Bool.eq_iff_iff, decide_eq_true_iff, hke, chn_ahk, List.length_map]
        try rw [show ((prs.length : Int) - 1).toNat = prs.length - 1 by omega]
      rw [hc]
      exact Z _ (F02.trans (F3.trans (F5.trans F6)))
end
end Mi


namespace Mi
open PySem (Str PyData)
theorem mk_okt {ps : List Val} (P : Pts ps) : Okt (mkS (tsOf ps)) := by
  intro c hc
  unfold mkS at hc
  rw [TL.join_eq, TL.tl_join, dot_tl] at hc
  have key : ∀ (l : List (List Nat)), (∀ p ∈ l, ∀ c ∈ p, c < 200) → ∀ c ∈ TL.joinL [46] l, c < 200 := by
    intro l
    induction l with
    | nil => intro _ c hc; simp [TL.joinL] at hc
    | cons p l ih =>
      intro hl c hc
      cases l with
      | nil => exact hl p List.mem_cons_self c (by simpa [TL.joinL] using hc)
      | cons q l =>
        have hc : c ∈ p ++ ([46] ++ TL.joinL [46] (q :: l)) := hc
        rcases List.mem_append.mp hc with hc | hc
        · exact hl p List.mem_cons_self c hc
        · rcases List.mem_append.mp hc with hc | hc
          · rw [List.mem_singleton.mp hc]; decide
          · exact ih (fun r hr => hl r (List.mem_cons_of_mem _ hr)) c hc
  refine Nat.lt_of_lt_of_le (key _ (fun p hp d hd => ?_) c hc) (by decide)
  obtain ⟨t, ht, rfl⟩ := List.mem_map.mp hp
  obtain ⟨v, hv, rfl⟩ := List.mem_map.mp ht
  rcases P.g v hv with ⟨i, rfl, h0, h1⟩ | ⟨x, rfl, hx⟩
  · rw [show txt (.int i) = istr i from rfl, tl_istr h0] at hd
    have := TL.numL_digits i.toNat d hd
    omega
  · have := (lett_is hx).2.2 d hd
    omega
theorem mk_le {ps : List Val} (P : Pts ps) : (mkS (tsOf ps)).length ≤ 28 := by
  have h1 := mk_len (ts := tsOf ps) (k := 6) fun t ht => by obtain ⟨v, hv, rfl⟩ := List.mem_map.mp ht; exact txt_len (P.g v hv)
  have h2 : (tsOf ps).length = ps.length := by simp [tsOf]
  have := P.le
  rw [h2] at h1
  omega
structure ThO (d : PyData) : Prop where
  t : Thn d
  o : Okr d 2 2000
theorem GV.okd {d : PyData} {a : Str} {ps : List Val} {s w : Int} (g : GV d a ps s w) : Okd (.str a) 0 300 ∧ Okd (.str (mkS (tsOf ps))) 0 300 ∧ Okd (.int s) 0 300 ∧ Okd (.int w) 0 300 := by
  have h1 := g.s1
  have h2 := g.w1
  refine ⟨(okd_txt (k := 8) (lett_okt g.a) (by have := (lett_is g.a).2.1; omega)).up (by decide) (by decide), ?_, (okd_int (k := 2) (by decide) (by omega) (by decide)).up (by decide) (by decide), (okd_int (k := 2) (by decide) (by omega) (by decide)).up (by decide) (by decide)⟩
  refine (okd_txt (k := 28) ?_ ?_).up (by decide) (by decide)
  · exact mk_okt g.p
  · exact mk_le g.p
theorem okd_four {a b c d : PyData} (x : Okd a 0 300) (y : Okd b 0 300) (z : Okd c 0 300) (u : Okd d 0 300) : Okd (.tuple [a, b, c, d]) 1 2000 := (okd_tuple (ds := [a, b, c, d]) (n := 0) (w := 300) fun e he => by
  simp at he
  rcases he with rfl | rfl | rfl | rfl <;> assumption).up (Nat.le_refl _) (by simp)
theorem GV.tho {d : PyData} {a : Str} {ps : List Val} {s w : Int} (g : GV d a ps s w) : ThO d := by
  obtain ⟨o1, o2, o3, o4⟩ := g.okd
  refine ⟨g.th, ?_⟩
  rw [g.e]
  exact (okd_four o1 o2 o3 o4).r.up (by decide) (Nat.le_refl _)
theorem oc_okr {d f : PyData} {w : Str} (t : ThO d) (h : ocD d = some (w, f)) : Okr f 2 2000 ∧ Okd (.str w) 0 100 := by
  have ow : ∀ x : Str, x = z11 ∨ x = z10 ∨ x = z9 ∨ x = z8 → Okd (.str x) 0 100 := by
    rintro x (rfl | rfl | rfl | rfl) <;> exact ⟨by decide +kernel, by decide +kernel, by decide, by decide +kernel⟩
  rcases t.t with ⟨a, b, z, w', rfl, t4⟩ | nv
  · have h : oc4 a b z w' = some (w, f) := h
    unfold oc4 at h
    by_cases c1 : a = z7
    · rw [if_pos c1] at h
      cases h
      rw [c1]
      exact ⟨⟨by decide +kernel, by decide +kernel, by decide +kernel⟩, ow _ (.inr (.inl rfl))⟩
    rw [if_neg c1] at h
    by_cases c2 : b = z6
    · rw [if_pos c2] at h
      cases h
      rw [c2]
      exact ⟨⟨by decide +kernel, by decide +kernel, by decide +kernel⟩, ow _ (.inr (.inr (.inl rfl)))⟩
    rw [if_neg c2] at h
    by_cases c3 : okZ z = false
    · rw [if_pos c3] at h
      cases h
      refine ⟨?_, ow _ (.inr (.inr (.inr rfl)))⟩
      rcases t4.hz with rfl | rfl | ⟨s, rfl, s1, s9⟩
      · exact ⟨by decide +kernel, by decide +kernel, by decide +kernel⟩
      · exact ⟨by decide +kernel, by decide +kernel, by decide +kernel⟩
      · simp [okZ, s1, s9] at c3
    rw [if_neg c3] at h
    by_cases c4 : w' = 0
    · rw [if_pos c4] at h
      cases h
      rw [c4]
      exact ⟨⟨by decide +kernel, by decide +kernel, by decide +kernel⟩, ow _ (.inr (.inr (.inr rfl)))⟩
    rw [if_neg c4] at h
    cases h
  · rw [nv_oc nv] at h
    cases h
    exact ⟨t.o, ow _ (.inl rfl)⟩
theorem okr_wf {w : Str} {f : PyData} (h : Okr f 2 2000 ∧ Okd (.str w) 0 100) : Okr (.list [.str w, f]) 3 5000 := (okr_list (ds := [.str w, f]) (n := 2) (w := 2000) fun d hd => by
  simp at hd
  rcases hd with rfl | rfl
  · exact h.2.r.up (by decide) (by decide)
  · exact h.1).up (Nat.le_refl _) (by simp)
theorem due_okr {d : PyData} (t : ThO d) : Okr (dueD d) 3 5000 := by
  unfold dueD
  cases c : ocD d with
  | none => exact okd_non.r.up (by decide) (by decide)
  | some wf => exact okr_wf (oc_okr t c)
theorem to_okr {d e : PyData} (t : ThO d) (t' : ThO e) : Okr (toD d e) 3 5000 := by
  unfold toD
  cases c : ocD d with
  | some wf => exact okr_wf (oc_okr t c)
  | none =>
    cases c' : ocD e with
    | some wf => exact okr_wf (oc_okr t' c')
    | none => exact okr_wf ⟨(okd_bl _).r.up (by decide) (by decide), ⟨by decide +kernel, by decide +kernel, by decide, by decide +kernel⟩⟩
section
variable {S : List Int} {L : Nat} {n c : Nat} {h : Heap} {Q : RQ Val} {E : RE} {X : List Nat}
theorem c_pairs {p : Nat} {xs : List Val} {ds : List PyData} (ab : Ab X h) (e : h[p]? = some (.lst xs)) (ia : IsAll X h ds xs) (hg : ∀ d ∈ ds, ∃ a ps s w, GV d a ps s w) (Z : ∀ h', Fr h h' → Q (.bl true) h') : (calls D gl S (L + 9) 41 [.ref p] h).sat Q E := by
  show (runDef ⟨calls D gl S (L + 8), gl, S, none⟩ d41 [.ref p] h).sat _ _
  unfold runDef startV d41 b41
  obtain ⟨prs, rfl, rfl, hq⟩ := isall_prs ia
  have hg' : ∀ q ∈ prs, ∃ a ps s w, GV q.2 a ps s w := fun q m => hg _ (List.mem_map_of_mem m)
  obtain ⟨st, z2, o2⟩ := (sv_lst e).srcp
  simp
  rw [z2 _ (Fr.refl _), sat_ok]
  dsimp only
  obtain ⟨I, hI⟩ : ∃ I : List (Val × PyData) → Sl → Heap → Prop, I = fun r σ h' => (∃ s1 s2, σ = [some (.ref p), s1, s2]) ∧ (∀ q ∈ r, q ∈ prs) ∧ Fr h h' := ⟨_, rfl⟩
  refine loopF_each (k := fun q : Val × PyData => q.1) (xs := prs) I ?_ ?_ ?_ ?_
  · rintro r σ h' z
    rw [hI] at z
    exact o2 _ _ z.2.2
  · rintro q r _ h1 z
    rw [hI] at z
    obtain ⟨⟨s1, s2, rfl⟩, hm, F1⟩ := z
    refine ⟨_, rfl, ?_⟩
    have hmq := hm q List.mem_cons_self
    simp
    rw [z2 _ F1, sat_ok]
    dsimp only
    obtain ⟨J, hJ⟩ : ∃ J : List (Val × PyData) → Sl → Heap → Prop, J = fun r σ h' => (∃ s2, σ = [some (.ref p), some q.1, s2]) ∧ (∀ q ∈ r, q ∈ prs) ∧ Fr h h' := ⟨_, rfl⟩
    refine loopF_each (k := fun q : Val × PyData => q.1) (xs := prs) J ?_ ?_ ?_ ?_
    · rintro r σ h' z
      rw [hJ] at z
      exact o2 _ _ z.2.2
    · rintro q2 r2 _ h2 z
      rw [hJ] at z
      obtain ⟨⟨s2, rfl⟩, hm2, F2⟩ := z
      refine ⟨_, rfl, ?_⟩
      have hmq2 := hm2 q2 List.mem_cons_self
      obtain ⟨a1, ps1, s1', w1, g1⟩ := hg' q hmq
      obtain ⟨a2, ps2, s2', w2, g2⟩ := hg' q2 hmq2
      have hto : toD q.2 q2.2 = .list [.str z12, .bool (aheadD q.2 q2.2)] := by unfold toD; rw [g1.oc, g2.oc]
      have ok := to_okr g1.tho g2.tho
      simp
      refine c_told (ab.fr F2) ((hq _ hmq).fr F2) ((hq _ hmq2).fr F2) g1.th g2.th fun v3 h3 i3 F3 => ?_
      rw [hto] at i3 ok
      rw [sat_reprR i3 ok (by decide) (by decide)]
      simp
      have F23 := F2.trans F3
      refine c_lahead (L := L + 5) ((hq _ hmq).fr F23) ((hq _ hmq2).fr F23) g1 g2 fun h4 F4 => ?_
      try simp
      refine sat_new fun p5 h5 e5 el5 l5 F5 => ?_
      rw [sat_reprR (X := []) (is_lst (by simp) e5 (isall_cons is_str (isall_cons is_bl isall_nil))) ok (by decide) (by decide)]
      simp
      rw [hJ]
      exact ⟨⟨_, rfl⟩, fun y hy => hm2 y (List.mem_cons_of_mem _ hy), F23.trans (F4.trans F5)⟩
    · rintro _ h2 z
      rw [hJ] at z
      obtain ⟨⟨s2, rfl⟩, hm2, F2⟩ := z
      simp
      rw [hI]
      exact ⟨⟨_, _, rfl⟩, fun y hy => hm y (List.mem_cons_of_mem _ hy), F2⟩
    · rw [hJ]
      exact ⟨⟨_, rfl⟩, fun _ z => z, F1⟩
  · rintro _ h1 z
    rw [hI] at z
    obtain ⟨⟨s1, s2, rfl⟩, hm, F1⟩ := z
    simp
    exact Z _ F1
  · rw [hI]
    exact ⟨⟨_, _, rfl⟩, fun _ z => z, Fr.refl _⟩
def PB (d : PyData) : Prop := ThO d ∧ ocD d ≠ none
theorem nv_pb {d : PyData} (h : NV d) (o : Okr d 2 2000) : PB d := ⟨⟨.inr h, o⟩, by rw [nv_oc h]; simp⟩
theorem c_bad {d : PyData} {v : Val} {a : Str} {ps : List Val} {s w : Int} (abX : Ab X h) (hnX : n ∈ X) (B : Bx n c h) (hc : c < 80000000) (i : Is X h d v) (g : GV d a ps s w) (Z : ∀ d' v' h', ThO d' → ocD d' ≠ none → Is X h' d' v' → Bx n (c + 1) h' → Fx1 n h h' → Q v' h') : (calls D gl S (L + 2) 38 [.ref n, v] h).sat Q E := by
  show (runDef ⟨calls D gl S (L + 1), gl, S, none⟩ d38 [.ref n, v] h).sat _ _
  unfold runDef startV d38 b38
  obtain ⟨o1, o2, o3, o4⟩ := g.okd
  have ga := g.a
  have P := g.p
  have hs := g.s1
  have hw := g.w1
  rw [g.e] at i
  obtain ⟨p, zv, rfl, hpn, e, iz⟩ := four_is i
  obtain rfl := iz.int
  simp
  rw [set_four e]
  simp
  have nA : a ≠ z7 := fun z => by rw [z, bad_A] at ga; cases ga
  have nB := mk_ne P
  have b4 : ∀ (a' b' : Str) (z' : PyData) (w' : Int), T4 a' b' z' w' → oc4 a' b' z' w' ≠ none → Okd (.str a') 0 300 → Okd (.str b') 0 300 → Okd z' 0 300 → Okd (.int w') 0 300 → PB (.tuple [.str a', .str b', z', .int w']) :=
    fun a' b' z' w' t4 hn p1 p2 p3 p4 => ⟨⟨.inl ⟨_, _, _, _, rfl, t4⟩, (okd_four p1 p2 p3 p4).r.up (by decide) (Nat.le_refl _)⟩, hn⟩
  have oA : Okd (.str z7) 0 300 := ⟨by decide +kernel, by decide +kernel, by decide, by decide +kernel⟩
  have oB : Okd (.str z6) 0 300 := ⟨by decide +kernel, by decide +kernel, by decide, by decide +kernel⟩
  have o10 : Okd (.int 10) 0 300 := (okd_int (k := 2) (by decide) (by decide) (by decide)).up (by decide) (by decide)
  have o0 : Okd (.int 0) 0 300 := (okd_int (k := 2) (by decide) (by decide) (by decide)).up (by decide) (by decide)
  have oT : Okd (.bool true) 0 300 := (okd_bl true).up (by decide) (by decide)
  have tb : ∃ ps', Pts ps' ∧ mkS (tsOf ps) = mkS (tsOf ps') := ⟨ps, P, rfl⟩
  have zs : (.int s : PyData) = .bool true ∨ (.int s : PyData) = .int 10 ∨ ∃ s' : Int, (.int s : PyData) = .int s' ∧ 1 ≤ s' ∧ s' ≤ 9 := .inr (.inr ⟨s, rfl, hs⟩)
  have hz : okZ (.int s) = true := by simp [okZ, hs.1, hs.2]
  have t1 := b4 z7 (mkS (tsOf ps)) (.int s) w ⟨.inl rfl, .inr tb, zs, by omega⟩ (by unfold oc4; rw [if_pos rfl]; simp) oA o2 o3 o4
  have t2 := b4 a z6 (.int s) w ⟨.inr ga, .inl rfl, zs, by omega⟩ (by unfold oc4; rw [if_neg nA, if_pos rfl]; simp) o1 oB o3 o4
  have t3 := b4 a (mkS (tsOf ps)) (.int 10) w ⟨.inr ga, .inr tb, .inr (.inl rfl), by omega⟩ (by unfold oc4; rw [if_neg nA, if_neg nB, if_pos (by decide)]; simp) o1 o2 o10 o4
  have t5 := b4 a (mkS (tsOf ps)) (.int s) 0 ⟨.inr ga, .inr tb, zs, by omega⟩ (by unfold oc4; rw [if_neg nA, if_neg nB, if_neg (by rw [hz]; decide), if_pos rfl]; simp) o1 o2 o3 o0
  have t6 := b4 a (mkS (tsOf ps)) (.bool true) w ⟨.inr ga, .inr tb, .inl rfl, by omega⟩ (by unfold oc4; rw [if_neg nA, if_neg nB, if_pos (by decide)]; simp) o1 o2 oT o4
  have abL : ∀ {h' : Heap}, h.length ≤ h'.length → Ab X h' := fun le m hm => by have := abX m hm; omega
  have n0 := B.lt
  have no : ∀ {i : Nat}, h.length ≤ i → i ∉ X := fun {i} q m => by
    have := abX _ m
    omega
  have el : Mi.pri ⟨calls D gl S (L + 1), gl, S, none⟩ .list [.ref p] h = new (.lst [.str a, .str (mkS (tsOf ps)), .int s, .int w]) h := by simp [Mi.pri, seqO, e]
  rw [el]
  refine sat_new fun q1 h1 e1 el1 l1 F1 => ?_
  have es : slcV (.ref p) none (some 3) h1 = new (.tup [.str a, .str (mkS (tsOf ps)), .int s]) h1 := by
    unfold slcV
    simp only [F1.at e]
    rfl
  rw [es]
  refine sat_new fun q2 h2 e2 el2 l2 F2 => ?_
  refine sat_new fun q3 h3 e3 el3 l3 F3 => ?_
  refine sat_new fun q4 h4 e4 el4 l4 F4 => ?_
  have F14 := F1.trans (F2.trans (F3.trans F4))
  have B4 := B.fr F14
  refine lo_new (P := PB) (abL (by omega)) (fun x hx => ?_) fun p5 h5 l5' e5 el5 F5 => ?_
  · simp only [List.mem_cons, List.not_mem_nil, or_false] at hx
    rcases hx with rfl | rfl | rfl | rfl | rfl
    · exact ⟨_, nv_pb (.inl rfl) (okd_non.r.up (by decide) (by decide)), is_non⟩
    · exact ⟨.list [.str a, .str (mkS (tsOf ps)), .int s, .int w], nv_pb (.inr (.inr (.inr (.inr (.inl ⟨_, rfl⟩))))) ((okd_list (ds := [.str a, .str (mkS (tsOf ps)), .int s, .int w]) (n := 0) (w := 300) fun e he => by
        simp at he
        rcases he with rfl | rfl | rfl | rfl <;> assumption).r.up (by decide) (by simp)), is_lst (no (by omega)) ((F2.trans (F3.trans F4)).at e1) (isall_cons is_str (isall_cons is_str (isall_cons is_int (isall_cons is_int isall_nil))))⟩
    · exact ⟨.tuple [.str a, .str (mkS (tsOf ps)), .int s], nv_pb (.inr (.inr (.inr (.inr (.inr ⟨_, _, _, rfl⟩))))) ((okd_tuple (ds := [.str a, .str (mkS (tsOf ps)), .int s]) (n := 0) (w := 300) fun e he => by
        simp at he
        rcases he with rfl | rfl | rfl <;> assumption).r.up (by decide) (by simp)), is_tup (no (by omega)) ((F3.trans F4).at e2) (isall_cons is_str (isall_cons is_str (isall_cons is_int isall_nil)))⟩
    · exact ⟨_, t1, is_tup (no (by omega)) (F4.at e3) (isall_cons is_str (isall_cons is_str (isall_cons is_int (isall_cons is_int isall_nil))))⟩
    · exact ⟨_, t2, is_tup (no (by omega)) e4 (isall_cons is_str (isall_cons is_str (isall_cons is_int (isall_cons is_int isall_nil))))⟩
  have B5 := B4.fr F5
  have u5 := F5.len
  try simp
  refine sat_new fun q6 h6 e6 el6 l6 F6 => ?_
  refine sat_new fun q7 h7 e7 el7 l7 F7 => ?_
  refine sat_new fun q8 h8 e8 el8 l8 F8 => ?_
  have F58 := F6.trans (F7.trans F8)
  have B8 := B5.fr F58
  refine lo_new (P := PB) (abL (by omega)) (fun x hx => ?_) fun p9 h9 l9' e9 el9 F9 => ?_
  · simp only [List.mem_cons, List.not_mem_nil, or_false] at hx
    rcases hx with rfl | rfl | rfl
    · exact ⟨_, t3, is_tup (no (by omega)) ((F7.trans F8).at e6) (isall_cons is_str (isall_cons is_str (isall_cons is_int (isall_cons is_int isall_nil))))⟩
    · exact ⟨_, t5, is_tup (no (by omega)) (F8.at e7) (isall_cons is_str (isall_cons is_str (isall_cons is_int (isall_cons is_int isall_nil))))⟩
    · exact ⟨_, t6, is_tup (no (by omega)) e8 (isall_cons is_str (isall_cons is_str (isall_cons is_bl (isall_cons is_int isall_nil))))⟩
  have B9 := B8.fr F9
  have u9 := F9.len
  refine Lo.add (abL (by omega)) (l5'.fr (F58.trans F9)) l9' (by simp) fun v10 h10 l10 F10 => ?_
  have B10 := B9.fr F10
  have u10 := F10.len
  try simp
  refine sat_new fun q11 h11 e11 el11 l11 F11 => ?_
  have B11 := B10.fr F11
  have u11 := F11.len
  refine lo_new (P := PB) (abL (by omega)) (fun x hx => ?_) fun p12 h12 l12' e12 el12 F12 => ?_
  · simp only [List.mem_cons, List.not_mem_nil, or_false] at hx
    rcases hx with rfl | rfl | rfl
    · exact ⟨_, nv_pb (.inr (.inl rfl)) ((okd_int (k := 2) (by decide) (by decide) (by decide)).r.up (by decide) (by decide)), is_int⟩
    · exact ⟨_, nv_pb (.inr (.inr (.inl rfl))) ⟨by decide +kernel, by decide +kernel, by decide +kernel⟩, is_str⟩
    · refine ⟨.dict [], nv_pb (.inr (.inr (.inr (.inl rfl)))) (okr_dnew.up (by decide) (by decide)), ?_⟩
      unfold Is
      exact ⟨q11, [], rfl, no (by omega), e11, by unfold IsKv; rfl⟩
  have B12 := B11.fr F12
  have u12 := F12.len
  refine Lo.add (abL (by omega)) (l10.fr (F11.trans F12)) l12' (by simp) fun v13 h13 l13 F13 => ?_
  have B13 := B12.fr F13
  refine c_take (L := L) B13 (by omega) (by decide) fun y h14 hy0 hy1 B14 F14' l14 => ?_
  have F013 : Fr h h13 := F14.trans (F5.trans (F58.trans (F9.trans (F10.trans (F11.trans (F12.trans F13))))))
  refine (l13.fo (Fo.one F14' hnX)).ix hy0 (by simpa using hy1) fun x d' _ _ pd id => ?_
  exact Z d' x h14 pd.1 pd.2 id B14 (F013.fx F14')
end
end Mi


namespace Mi
open PySem (Str PyData)
/-! ## names -/
def prL (first step : Int) (k : Nat) : List Nat := [97 + ((first + step * k) % 26).toNat, 97 + ((first + (k : Int) / 26) % 26).toNat]
def lnL (first step : Int) (k : Nat) : Nat := 97 + ((first + step * ((k : Int) / 8)) % 26).toNat
def nmL (way : Nat) (first step : Int) (at_ : Nat) (stem : List Nat) (k : Nat) : List Nat :=
  match way with
  | 0 => stem.take at_ ++ prL first step k ++ (stem.drop at_).take (6 - at_)
  | 1 => prL first step k ++ stem.take at_
  | 2 => lnL first step k :: stem.take (k % 8)
  | _ => stem.take at_ ++ prL first step k ++ (stem.drop at_).take (k % (7 - at_))
def okStep (step : Int) : Prop := step ∈ ([1, 3, 5, 7, 9, 11, 15, 17, 19, 21, 23, 25] : List Int)
theorem pr_inj {first step : Int} {k m : Nat} (hs : okStep step) (hk : k < 100) (hm : m < 100) (h : prL first step k = prL first step m) : k = m := by
  have h1 : 97 + ((first + step * k) % 26).toNat = 97 + ((first + step * m) % 26).toNat := (List.cons.inj h).1
  have h2 : 97 + ((first + (k : Int) / 26) % 26).toNat = 97 + ((first + (m : Int) / 26) % 26).toNat := (List.cons.inj (List.cons.inj h).2).1
  have e2 : (k : Int) / 26 = m / 26 := by omega
  unfold okStep at hs
  simp only [List.mem_cons, List.not_mem_nil, or_false] at hs
  rcases hs with rfl | rfl | rfl | rfl | rfl | rfl | rfl | rfl | rfl | rfl | rfl | rfl <;> omega
theorem ln_inj {first step : Int} {k m : Nat} (hs : okStep step) (hk : k < 100) (hm : m < 100) (h : lnL first step k = lnL first step m) : k / 8 = m / 8 := by
  unfold lnL at h
  unfold okStep at hs
  simp only [List.mem_cons, List.not_mem_nil, or_false] at hs
  rcases hs with rfl | rfl | rfl | rfl | rfl | rfl | rfl | rfl | rfl | rfl | rfl | rfl <;> omega
theorem nm_inj {way at_ : Nat} {first step : Int} {stem : List Nat} {k m : Nat} (hs : okStep step) (hst : stem.length = 7) (hk : k < 100) (hm : m < 100) (h : nmL way first step at_ stem k = nmL way first step at_ stem m) : k = m := by
  have cut : ∀ (r r' : List Nat), prL first step k ++ r = prL first step m ++ r' → k = m := fun r r' e => pr_inj hs hk hm (List.append_inj_left e (by simp [prL]))
  match way with
  | 0 =>
    have h : stem.take at_ ++ prL first step k ++ (stem.drop at_).take (6 - at_) = stem.take at_ ++ prL first step m ++ (stem.drop at_).take (6 - at_) := h
    rw [List.append_assoc, List.append_assoc] at h
    exact cut _ _ (List.append_cancel_left h)
  | 1 => exact cut _ _ h
  | 2 =>
    have h : lnL first step k :: stem.take (k % 8) = lnL first step m :: stem.take (m % 8) := h
    have h1 := ln_inj hs hk hm (List.cons.inj h).1
    have h2 := congrArg List.length (List.cons.inj h).2
    rw [List.length_take, List.length_take] at h2
    omega
  | w + 3 =>
    have h : stem.take at_ ++ prL first step k ++ (stem.drop at_).take (k % (7 - at_)) = stem.take at_ ++ prL first step m ++ (stem.drop at_).take (m % (7 - at_)) := h
    rw [List.append_assoc, List.append_assoc] at h
    exact cut _ _ (List.append_cancel_left h)
theorem nm_ok {way at_ : Nat} {first step : Int} {stem : List Nat} {k : Nat} (hst : stem.length = 7) (hl : ∀ c ∈ stem, c ∈ lets.cps.toList) (ha : at_ < 7) : 1 ≤ (nmL way first step at_ stem k).length ∧ (nmL way first step at_ stem k).length ≤ 8 ∧ ∀ c ∈ nmL way first step at_ stem k, c ∈ lets.cps.toList := by
  have hall : ∀ i : Nat, i < 26 → 97 + i ∈ lets.cps.toList := by
    have : ((List.range 26).all fun i => decide (97 + i ∈ lets.cps.toList)) = true := by decide +kernel
    intro i hi
    simpa using List.all_eq_true.mp this i (List.mem_range.mpr hi)
  have hp : ∀ c ∈ prL first step k, c ∈ lets.cps.toList := by
    intro c hc
    simp only [prL, List.mem_cons, List.not_mem_nil, or_false] at hc
    rcases hc with rfl | rfl <;> exact hall _ (by omega)
  have ht : ∀ j c, c ∈ stem.take j → c ∈ lets.cps.toList := fun j c hc => hl c (List.mem_of_mem_take hc)
  have hd : ∀ i j c, c ∈ (stem.drop i).take j → c ∈ lets.cps.toList := fun i j c hc => hl c (List.mem_of_mem_drop (List.mem_of_mem_take hc))
  have hpl : (prL first step k).length = 2 := rfl
  match way with
  | 0 =>
    refine ⟨?_, ?_, fun c hc => ?_⟩
    · simp [nmL, hpl]; omega
    · simp [nmL, hpl]; omega
    · unfold nmL at hc
      rcases List.mem_append.mp hc with hc | hc
      · rcases List.mem_append.mp hc with hc | hc
        · exact ht _ c hc
        · exact hp c hc
      · exact hd _ _ c hc
  | 1 =>
    refine ⟨?_, ?_, fun c hc => ?_⟩
    · simp [nmL, hpl]; omega
    · simp [nmL, hpl]; omega
    · rcases List.mem_append.mp (show c ∈ prL first step k ++ stem.take at_ from hc) with hc | hc
      · exact hp c hc
      · exact ht _ c hc
  | 2 =>
    refine ⟨?_, ?_, fun c hc => ?_⟩
    · simp [nmL]
    · simp [nmL]; omega
    · rcases List.mem_cons.mp (show c ∈ lnL first step k :: stem.take (k % 8) from hc) with rfl | hc
      · exact hall _ (by omega)
      · exact ht _ c hc
  | w + 3 =>
    have hmod : k % (7 - at_) < 7 - at_ := Nat.mod_lt _ (by omega)
    refine ⟨?_, ?_, fun c hc => ?_⟩
    · simp [nmL, hpl]; omega
    · simp [nmL, hpl]; omega
    · rcases List.mem_append.mp (show c ∈ stem.take at_ ++ prL first step k ++ (stem.drop at_).take (k % (7 - at_)) from hc) with hc | hc
      · rcases List.mem_append.mp hc with hc | hc
        · exact ht _ c hc
        · exact hp c hc
      · exact hd _ _ c hc
end Mi


namespace Mi
open PySem (Str PyData)
theorem lets_get {g : G} {h : Heap} {i : Int} (h0 : 0 ≤ i) (h1 : i < 26) : idxV g (.str lets) (.int i) h = .ok (.str ⟨#[97 + i.toNat]⟩) h := by
  obtain ⟨n, rfl⟩ := Int.eq_ofNat_of_zero_le h0
  have : ∀ n : Nat, n < 26 → L2.atI lets.cps.toList (n : Int) = some (97 + n) := by
    have : ((List.range 26).all fun n => decide (L2.atI lets.cps.toList (n : Int) = some (97 + n))) = true := by decide +kernel
    intro n hn
    simpa using List.all_eq_true.mp this n (List.mem_range.mpr hn)
  have e := this n (by omega)
  unfold idxV
  dsimp only
  rw [if_pos (by decide +kernel), e]
  rfl
theorem tl_cutl {z : Str} {lo hi : Option Int} : TL.tl (L2.cutS z lo hi) = (z.cps.toList.drop (HT.sIx z.length 0 lo)).take (HT.sIx z.length z.length hi - HT.sIx z.length 0 lo) := rfl
def Stem (sx : Str) (step : Int) : Prop := okStep step ∧ sx.length = 7 ∧ ∀ c ∈ TL.tl sx, c ∈ lets.cps.toList
def dropS : Nat → Sts → Sts
  | 0, s => s
  | _ + 1, .nil => .nil
  | n + 1, .cons _ r => dropS n r
theorem cut_to {z : Str} {j : Nat} (hj : j ≤ z.length) : TL.tl (L2.cutS z none (some (j : Int))) = (TL.tl z).take j := by
  rw [tl_cutl, six_nat, show HT.sIx z.length 0 none = 0 from rfl, List.drop_zero, Nat.sub_zero, Nat.min_eq_left hj]
theorem cut_ft {z : Str} {i j : Nat} (hi : i ≤ z.length) (hj : j ≤ z.length) : TL.tl (L2.cutS z (some (i : Int)) (some (j : Int))) = ((TL.tl z).drop i).take (j - i) := by
  rw [tl_cutl, six_nat, six_nat, Nat.min_eq_left hj, Nat.min_eq_left hi]
section
variable {S : List Int} {L : Nat} {n c : Nat} {h : Heap} {Q : RQ Val} {E : RE}
theorem c_names {many : Int} (hm0 : 0 ≤ many) (hm : many ≤ 100) (B : Bx n c h) (hc : c < 50000000) (Z : ∀ (p : Nat) (nms : List Str) (h' : Heap), h'[p]? = some (.lst (nms.map .str)) → (nms.length : Int) = many → nms.Nodup → (∀ x ∈ nms, lettS x 8 = true) → h.length ≤ p → Bx n (c + 20) h' → Fx1 n h h' → Q (.ref p) h') : (calls D gl S (L + 2) 31 [.ref n, .int many] h).sat Q E := by
  show (runDef ⟨calls D gl S (L + 1), gl, S, none⟩ d31 [.ref n, .int many] h).sat _ _
  unfold runDef startV d31 b31
  try simp [-exes_cons]
  rw [exes_cons]
  try simp [-exes_cons]
  try simp [-exes_cons]
  rw [exes_cons]
  try simp [-exes_cons]
  refine c_take B (by omega) (by decide) fun way h1 way0 way1 B1 F1 l1 => ?_
  try simp [-exes_cons]
  rw [exes_cons]
  try simp [-exes_cons]
  refine c_take B1 (by omega) (by decide) fun first h2 first0 first1 B2 F2 l2 => ?_
  try simp [-exes_cons]
  rw [exes_cons]
  try simp [-exes_cons]
  refine sat_new fun p3 h3 e3 el3 l3 F3 => ?_
  refine c_take (B2.fr F3) (by omega) (by decide) fun y4 h4 y40 y41 B4 F4 l4 => ?_
  have n2 := B2.lt
  refine sat_atI (F4.at e3 (by omega)) y40 (by simpa using y41) rfl fun step hstep => ?_
  have hst : okStep step := by
    simp at hstep
    unfold okStep
    simpa using hstep
  try simp [-exes_cons]
  rw [exes_cons]
  try simp [-exes_cons]
  refine c_take B4 (by omega) (by decide) fun at_ h5 at0 at1 B5 F5 l5 => ?_
  try simp [-exes_cons]
  obtain ⟨at_, rfl⟩ := Int.eq_ofNat_of_zero_le at0
  obtain ⟨way, rfl⟩ := Int.eq_ofNat_of_zero_le way0
  have G5 : Fx1 n h h5 := ((F1.trans F2).fr F3).trans (F4.trans F5)
  rw [exes_cons, sat_bind]
  refine Res.sat.imp (E := nox) (Q := fun f h' => ∃ (sx : Str), f = .nx [some (.ref n), some (.int many), some (.str lets), some (.int way), some (.int first), some (.int step), some (.int at_), some (.str sx), none, none, none, none, none] ∧ Stem sx step ∧ Bx n (c + 11) h' ∧ Fx1 n h h') ?_ (fun f h7 z => ?_) (fun _ _ _ z => z.elim)
  · simp
    refine lcF_rng (fun k a h' => ∃ cs : List Nat, a = cs.map (fun c => .str ⟨#[c]⟩) ∧ cs.length = k ∧ (∀ c ∈ cs, c ∈ lets.cps.toList) ∧ Bx n (c + 4 + k) h' ∧ Fx1 n h h') rfl ?_ ?_ ?_ ⟨[], rfl, rfl, by simp, B5, G5⟩
    · rintro k a h' hk ⟨cs, rfl, hl, _⟩
      rw [List.length_map]
      show _ < 16777216
      omega
    · rintro k a h' hk ⟨cs, rfl, hl, hcs, B6, F6⟩
      refine ⟨_, rfl, ?_⟩
      simp
      refine c_take B6 (by omega) (by decide) fun y7 h7 hy70 hy7 B7 F7 l7 => ?_
      rw [lets_get hy70 hy7]
      have hin : 97 + y7.toNat ∈ lets.cps.toList := by
        have : ((List.range 26).all fun i => decide (97 + i ∈ lets.cps.toList)) = true := by decide +kernel
        simpa using List.all_eq_true.mp this y7.toNat (List.mem_range.mpr (by omega))
      exact ⟨cs ++ [97 + y7.toNat], by simp, by simp; omega, fun d hd => by
        rcases List.mem_append.mp hd with hd | hd
        · simpa using hcs d hd
        · rw [List.mem_singleton.mp hd]; simpa using hin, B7, F6.trans F7⟩
    · rintro a h6 ⟨stem, rfl, hl, hcs, B6, F6⟩
      have hl7 : stem.length = 7 := by simpa using hl
      refine sat_new fun p7 h7 e7 el7 l7 F7 => ?_
      have e7' : h7[p7]? = some (.lst ((stem.map fun c => (⟨#[c]⟩ : Str)).map .str)) := by rw [e7, List.map_map]; rfl
      rw [met_join e7' (by rw [sum_ones, List.length_map, show (z1 : Str).length = 0 from by decide +kernel]; simp; omega)]
      have htl : TL.tl (PySem.Txt.join z1 (stem.map fun c => (⟨#[c]⟩ : Str))) = stem := by rw [tl_join0 (by decide +kernel), flat_ones]
      exact ⟨_, rfl, ⟨hst, by rw [len_tl, htl, hl7], by rw [htl]; exact hcs⟩, (B6.fr F7).up (by omega), F6.fr F7⟩
  · obtain ⟨sx, ef, hst7, B7, F7⟩ := z
    rw [ef, Fl.go_nx]
    obtain ⟨hst, hlen, hcs⟩ := hst7
    have n0 := B.lt
    have n7 := B7.lt
    rw [exes_cons]
    simp [-exes_cons]
    refine sat_new fun q8 h8 e8 el8 l8 F8 => ?_
    try simp [-exes_cons]
    rw [exes_cons]
    try simp [-exes_cons]
    have B8 := B7.fr F8
    refine ⟨by omega, ?_⟩
    have hn8 : h.length ≤ q8 := by have := F7.len; omega
    obtain ⟨I, hI⟩ : ∃ I : Nat → Sl → Heap → Prop, I = fun k σ h' => (∃ s8 s10 s11 s12, σ = [some (.ref n), some (.int many), some (.str lets), some (.int way), some (.int first), some (.int step), some (.int at_), some (.str sx), s8, some (.ref q8), s10, s11, s12]) ∧ (∃ nms : List Str, h'[q8]? = some (.lst (nms.map .str)) ∧ nms.map TL.tl = (List.range k).map (nmL way first step at_ (TL.tl sx))) ∧ Fx1 q8 h8 h' := ⟨_, rfl⟩
    refine loopF_rng I rfl ?_ ?_ ?_
    · rintro k _ h9 hk z
      rw [hI] at z
      obtain ⟨⟨s8, s10, s11, s12, rfl⟩, ⟨nms, en, hnm⟩, F9⟩ := z
      refine ⟨_, rfl, ?_⟩
      have hk100 : k < 100 := by omega
      have rg : ∀ i : Int, 0 ≤ i % 26 ∧ i % 26 < 26 := fun i => by omega
      simp
      refine ⟨.inl (by unfold okStep at hst; simp at hst; omega), ?_⟩
      rw [lets_get (rg _).1 (rg _).2]
      simp
      rw [lets_get (rg _).1 (rg _).2]
      simp
      refine ⟨.inl (by unfold okStep at hst; simp at hst; omega), ?_⟩
      rw [lets_get (rg _).1 (rg _).2]
      simp [len_cat, hlen]
      have lc : ∀ lo hi, (L2.cutS sx lo hi).length ≤ 7 := fun lo hi => by have := len_cut sx lo hi; omega
      have c1 := lc none (some (at_ : Int))
      have c2 := lc (some (at_ : Int)) (some 6)
      have c3 := lc none (some ((k : Int) % 8))
      have c4 := lc (some (at_ : Int)) (some ((at_ : Int) + (k : Int) % (7 - (at_ : Int))))
      refine ⟨by omega, by omega, by omega, ?_⟩
      refine sat_new fun q10 h10 e10 el10 l10 F10 => ?_
      refine ⟨rc_app e10, by omega, ?_⟩
      refine sat_app e10 (by simp) fun h11 e11 l11 F11 => ?_
      refine ⟨rc_app e11, by omega, by omega, by omega, ?_⟩
      refine sat_app e11 (by simp) fun h12 e12 l12 F12 => ?_
      have l9 := F9.len
      have en12 := F12.at (F11.at (F10.at en) (by omega)) (by omega)
      have hw4 : way = 0 ∨ way = 1 ∨ way = 2 ∨ way = 3 := by omega
      have ha7 : at_ ≤ 6 := by omega
      have t1 := cut_to (z := sx) (j := at_) (by omega)
      have t2 : TL.tl (L2.cutS sx (some (at_ : Int)) (some 6)) = ((TL.tl sx).drop at_).take (6 - at_) := cut_ft (z := sx) (i := at_) (j := 6) (by omega) (by omega)
      have t3 : TL.tl (L2.cutS sx none (some ((k : Int) % 8))) = (TL.tl sx).take (k % 8) := by
        have := cut_to (z := sx) (j := k % 8) (by omega)
        rwa [show ((k % 8 : Nat) : Int) = (k : Int) % 8 by omega] at this
      have hmod : k % (7 - at_) < 7 - at_ := Nat.mod_lt _ (by omega)
      have t4 : TL.tl (L2.cutS sx (some (at_ : Int)) (some ((at_ : Int) + (k : Int) % (7 - (at_ : Int))))) = ((TL.tl sx).drop at_).take (k % (7 - at_)) := by
        have := cut_ft (z := sx) (i := at_) (j := at_ + k % (7 - at_)) (by omega) (by omega)
        rw [show ((at_ + k % (7 - at_) : Nat) : Int) = (at_ : Int) + (k : Int) % (7 - (at_ : Int)) by
          rw [Int.natCast_add, Int.natCast_emod, Int.natCast_sub (by omega)]; rfl] at this
        rw [this]
        congr 1
        omega
      have key : ∃ x : Str, (∀ g : G, idxV g (.ref q10) (.int (way : Int)) h12 = .ok (.str x) h12) ∧ TL.tl x = nmL way first step at_ (TL.tl sx) k := by
        rcases hw4 with rfl | rfl | rfl | rfl
        · exact ⟨_, fun g => by rw [ix_lst e12]; rfl, by rw [TL.tl_append, TL.tl_append, TL.tl_append, t1, t2]; rfl⟩
        · exact ⟨_, fun g => by rw [ix_lst e12]; rfl, by rw [TL.tl_append, TL.tl_append, t1]; rfl⟩
        · exact ⟨_, fun g => by rw [ix_lst e12]; rfl, by rw [TL.tl_append, t3]; rfl⟩
        · exact ⟨_, fun g => by rw [ix_lst e12]; rfl, by rw [TL.tl_append, TL.tl_append, TL.tl_append, t1, t4]; rfl⟩
      obtain ⟨x, hx, htx⟩ := key
      refine ⟨rc_app en12, ?_⟩
      rw [hx]
      have hnl : nms.length = k := by simpa using congrArg List.length hnm
      refine sat_app en12 (by simp; omega) fun h13 e13 l13 F13 => ?_
      rw [hI]
      have F813 : Fx1 q8 h8 h13 := (F9.trans ((((F10.fx (F11.trans F12)).fresh (by omega))).one q8)).trans F13
      refine ⟨⟨_, _, _, _, rfl⟩, ⟨nms ++ [x], by rw [e13]; simp, ?_⟩, F813⟩
      rw [List.map_append, hnm, List.range_succ, List.map_append]
      show _ ++ [TL.tl x] = _ ++ [nmL way first step at_ (TL.tl sx) k]
      rw [htx]
    · rintro _ h9 z
      rw [hI] at z
      obtain ⟨⟨s8, s10, s11, s12, rfl⟩, ⟨nms, en, hnm⟩, F9⟩ := z
      simp
      have hlm : (nms.length : Int) = many := by
        have : nms.length = many.toNat := by simpa using congrArg List.length hnm
        omega
      have F09 : Fx1 n h7 h9 := ((F8.fx F9).fresh (by omega)).one n
      have Bn : Bx n (c + 11) h9 := by
        obtain ⟨x, y, z, ez, r⟩ := B8
        exact ⟨x, y, z, F9.at ez (by omega), r⟩
      have hl7 : (TL.tl sx).length = 7 := by rw [← len_tl]; exact hlen
      refine Z q8 nms h9 en hlm ?_ ?_ hn8 (Bn.up (by omega)) (F7.trans F09)
      · have : (nms.map TL.tl).Nodup := by
          rw [hnm]
          rw [List.nodup_iff_pairwise_ne, List.pairwise_map]
          refine List.Pairwise.imp_of_mem (R := fun a b => a < b) (fun {a b} ha hb hab e => ?_) List.pairwise_lt_range
          rw [List.mem_range] at ha hb
          have := nm_inj hst hl7 (by omega) (by omega) e
          omega
        rw [List.nodup_iff_pairwise_ne, List.pairwise_map] at this
        rw [List.nodup_iff_pairwise_ne]
        exact this.imp fun {a b} h e => h (by rw [e])
      · intro x hx
        have hm : TL.tl x ∈ (List.range many.toNat).map (nmL way first step at_ (TL.tl sx)) := by rw [← hnm]; exact List.mem_map_of_mem hx
        obtain ⟨k, _, ek⟩ := List.mem_map.mp hm
        obtain ⟨h1, h2, h3⟩ := nm_ok (way := way) (first := first) (step := step) (k := k) hl7 hcs (show at_ < 7 by omega)
        rw [ek] at h1 h2 h3
        have hxl : x.length = (TL.tl x).length := len_tl x
        unfold lettS
        simp only [Bool.and_eq_true, decide_eq_true_eq, List.all_eq_true]
        exact ⟨⟨by omega, by omega⟩, h3⟩
    · rw [hI]
      exact ⟨⟨_, _, _, _, rfl⟩, ⟨[], e8, rfl⟩, Fx1.refl _ _⟩
end
end Mi


namespace Mi
open PySem (Str PyData)
def PP (d : PyData) : Prop := ∃ ps, Pts ps ∧ d = .list (ps.map vD)
theorem pp_okd {d : PyData} (h : PP d) : Okd d 1 7202 := by
  obtain ⟨ps, P, rfl⟩ := h
  exact okd_vd P.g (by have := P.le; omega)
def MkI (n q : Nat) (h : Heap) (prs : List (Nat × List Val)) : Prop := h[q]? = some (.lst (prs.map fun r => .ref r.1)) ∧ ∀ r ∈ prs, r.1 ≠ n ∧ r.1 ≠ q ∧ h[r.1]? = some (.lst r.2) ∧ Pts r.2
theorem MkI.fx {n q : Nat} {h h' : Heap} {prs : List (Nat × List Val)} (m : MkI n q h prs) (F : Fx1 n h h') (hn : q ≠ n) : MkI n q h' prs :=
  ⟨F.at m.1 hn, fun r hr => by obtain ⟨a, b, e, p⟩ := m.2 r hr; exact ⟨a, b, F.at e a, p⟩⟩
theorem MkI.lo {n q : Nat} {h : Heap} {prs : List (Nat × List Val)} (m : MkI n q h prs) : Lo [] h PP (.ref q) (prs.map fun r => .ref r.1) :=
  ⟨q, rfl, by simp, m.1, fun x hx => by
    obtain ⟨r, hr, rfl⟩ := List.mem_map.mp hx
    obtain ⟨_, _, e, p⟩ := m.2 r hr
    exact ⟨_, ⟨r.2, p, rfl⟩, is_lst (by simp) e (isall_vd p.g)⟩⟩
theorem MkI.app {n q p : Nat} {h h' : Heap} {prs : List (Nat × List Val)} {ps : List Val} (m : MkI n q h prs) (e : h[p]? = some (.lst ps)) (P : Pts ps) (pn : p ≠ n) (pq : p ≠ q) (e' : h'[q]? = some (.lst ((prs.map fun r => .ref r.1) ++ [.ref p]))) (F : Fx1 q h h') : MkI n q h' (prs ++ [(p, ps)]) :=
  ⟨by rw [e']; simp, fun r hr => by
    rcases List.mem_append.mp hr with hr | hr
    · obtain ⟨a, b, e, p⟩ := m.2 r hr
      exact ⟨a, b, F.at e b, p⟩
    · rw [List.mem_singleton.mp hr]
      exact ⟨pn, pq, F.at e pq, P⟩⟩
section
variable {S : List Int} {L : Nat} {n c : Nat} {h : Heap} {Q : RQ Val} {E : RE}
theorem Bx.fxo {n m c : Nat} {h h' : Heap} (b : Bx n c h) (f : Fx1 m h h') (hm : n ≠ m) : Bx n c h' := by
  obtain ⟨x, y, z, e, r⟩ := b
  exact ⟨x, y, z, f.at e hm, r⟩
theorem c_marks {many : Int} (hm0 : 0 ≤ many) (hm : many ≤ 100) (B : Bx n c h) (hc : c < 40000000) (Z : ∀ (p : Nat) (pss : List (List Val)) (h' : Heap), h'[p]? = some (.lst (pss.map fun ps => .str (mkS (tsOf ps)))) → (pss.length : Int) = many → (∀ ps ∈ pss, Pts ps) → h.length ≤ p → Bx n (c + 10000) h' → Fx1 n h h' → Q (.ref p) h') : (calls D gl S (L + 5) 32 [.ref n, .int many] h).sat Q E := by
  show (runDef ⟨calls D gl S (L + 4), gl, S, none⟩ d32 [.ref n, .int many] h).sat _ _
  unfold runDef startV d32 b32
  have n0 := B.lt
  simp
  refine sat_new fun q h1 e1 el1 l1 F1 => ?_
  try simp
  refine ⟨by omega, ?_⟩
  have qn : q ≠ n := by omega
  obtain ⟨I, hI⟩ : ∃ I : Nat → Sl → Heap → Prop, I = fun k σ h' => (∃ s3, σ = [some (.ref n), some (.int many), some (.ref q), s3, none]) ∧ (∃ prs, prs.length = k ∧ MkI n q h' prs) ∧ Bx n (c + 60 * k) h' ∧ Fo [n, q] h1 h' := ⟨_, rfl⟩
  refine loopF_rng I rfl ?_ ?_ ?_
  · rintro k _ h2 hk z
    rw [hI] at z
    obtain ⟨⟨s3, rfl⟩, ⟨prs, hpl, mi⟩, B2, F2⟩ := z
    refine ⟨_, rfl, ?_⟩
    have hk100 : k < 100 := by omega
    have l12 := F2.len
    simp
    refine sat_new fun q3 h3 e3 el3 l3 F3 => ?_
    have mi3 := mi.fx (F3.one n) qn
    rw [mi3.lo.isnil (fun d hd => pp_okd hd) (by decide) e3]
    have B3 := B2.fr F3
    have app : ∀ {m : Nat} p ps h4 h5, Fx1 n h3 h4 → h4[p]? = some (.lst ps) → Pts ps → h3.length ≤ p → Bx n m h4 → m ≤ c + 60 * (k + 1) → h5[q]? = some (.lst ((prs.map fun r => .ref r.1) ++ [.ref p])) → Fx1 q h4 h5 → (∃ prs, prs.length = k + 1 ∧ MkI n q h5 prs) ∧ Bx n (c + 60 * (k + 1)) h5 ∧ Fo [n, q] h1 h5 := by
      intro m p ps h4 h5 F4 e4 P hp Bm hmm e5 F5
      have mi4 := mi3.fx F4 qn
      have hn3 := B3.lt
      exact ⟨⟨prs ++ [(p, ps)], by simp [hpl], mi4.app e4 P (by omega) (by omega) e5 F5⟩, (Bm.fxo F5 (Ne.symm qn)).up hmm, F2.trans ((Fo.of F3).trans ((Fo.one F4 (by simp)).trans (Fo.one F5 (by simp))))⟩
    have addp : ∀ {m : Nat} h4, Fx1 n h3 h4 → Bx n m h4 → m ≤ c + 60 * k + 1 → (calls D gl S (L + 4) 26 [.ref n] h4).sat (fun a h => (met .append (.ref q) [a] h).sat (fun _ h' => I (k + 1) [some (.ref n), some (.int many), some (.ref q), some (.int k), none] h') E) E := by
      intro m h4 F4 Bm hmm
      refine c_parts Bm (by omega) fun p ps h5 e5 P hp B5 F5 => ?_
      have mi5 := mi3.fx (F4.trans F5) qn
      refine sat_app mi5.1 (by simp; omega) fun h6 e6 l6 F6 => ?_
      have := F4.len
      obtain ⟨x, y, z⟩ := app p ps h5 h6 (F4.trans F5) e5 P (by omega) B5 (by omega) e6 F6
      rw [hI]
      exact ⟨⟨_, rfl⟩, x, y, z⟩
    cases hE : (prs.map fun r => Val.ref r.1).isEmpty with
    | true =>
      simp [rc_app mi3.1]
      exact addp h3 (Fx1.refl _ _) B3 (by omega)
    | false =>
      have hpos : 0 < prs.length := by
        cases prs with
        | nil => cases hE
        | cons => simp
      simp
      refine c_take (L := L + 3) B3 (by omega) (by decide) fun y4 h4 y40 y41 B4 F4 l4 => ?_
      have mi4 := mi3.fx F4 qn
      simp
      by_cases c4 : y4 = 0
      · simp [c4, rc_app mi4.1]
        exact addp h4 F4 B4 (by omega)
      · simp [c4, rc_app mi4.1, len_lst mi4.1]
        refine c_take (L := L + 3) B4 (by omega) (by omega) fun y5 h5 y50 y51 B5 F5 l5 => ?_
        have mi5 := mi4.fx F5 qn
        refine sat_atL mi5.1 y50 (by simpa using y51) fun v hv _ => ?_
        obtain ⟨r, hr, rfl⟩ := List.mem_map.mp hv
        obtain ⟨rn, rq, er, Pr⟩ := mi5.2 r hr
        refine c_near B5 (by omega) er rn Pr fun p ps h6 e6 P hp B6 F6 => ?_
        have F36 := F4.trans (F5.trans F6)
        have mi6 := mi3.fx F36 qn
        refine sat_app mi6.1 (by simp; omega) fun h7 e7 l7 F7 => ?_
        obtain ⟨x, y, z⟩ := app p ps h6 h7 F36 e6 P (by omega) B6 (by omega) e7 F7
        rw [hI]
        exact ⟨⟨_, rfl⟩, x, y, z⟩
  · rintro _ h2 z
    rw [hI] at z
    obtain ⟨⟨s3, rfl⟩, ⟨prs, hpl, mi⟩, B2, F2⟩ := z
    simp
    rw [srcR_lst mi.1, List.map_map, sat_ok]
    dsimp only
    have l12 := F2.len
    refine lcF_each (k := fun r : Nat × List Val => Val.ref r.1) (xs := prs) (fun r a h' => ∃ done, prs = done ++ r ∧ a = done.map (fun r => .str (mkS (tsOf r.2))) ∧ Fr h2 h') ?_ ?_ ?_ ?_ ⟨[], rfl, rfl, Fr.refl _⟩
    · rintro r a h' ⟨_, _, _, F⟩
      exact ok_lst _ _ rfl (F.at mi.1)
    · rintro i r a h' ⟨done, he, rfl, F⟩
      have := congrArg List.length he
      simp at this ⊢
      omega
    · rintro x r a h' ⟨done, he, rfl, F⟩
      refine ⟨_, rfl, ?_⟩
      simp
      obtain ⟨_, _, ex, P⟩ := mi.2 x (by rw [he]; simp)
      refine c_mark (L := L + 3) (F.at ex) P fun h4 F4 => ?_
      exact ⟨done ++ [x], by rw [he]; simp, by simp, F.trans F4⟩
    · rintro a h3 ⟨done, he, rfl, F⟩
      rw [List.append_nil] at he
      subst he
      refine sat_new fun p4 h4 e4 el4 l4 F4 => ?_
      have F24 := F.trans F4
      have l24 := F.len
      refine Z p4 (prs.map (·.2)) h4 (by rw [e4, List.map_map]; rfl) (by rw [List.length_map]; omega) (fun ps hps => ?_) (by omega) ((B2.fr F24).up (by omega)) ?_
      · obtain ⟨r, hr, rfl⟩ := List.mem_map.mp hps
        exact (mi.2 r hr).2.2.2
      · have G : Fo [q, n] h h4 := ((Fo.of F1).trans ((F2.sub (by simp)).trans (Fo.of F24)))
        exact (G.drop (by omega)).fx
  · rw [hI]
    exact ⟨⟨_, rfl⟩, ⟨[], rfl, e1, by simp⟩, (B.fr F1).up (by omega), Fo.refl _ _⟩
end
end Mi


namespace Mi
open PySem (Str PyData)
def IsGV (d : PyData) : Prop := ∃ a ps s w, GV d a ps s w
def DrI (n q : Nat) (h : Heap) (nms : List Str) (prs : List (Val × PyData)) : Prop := h[q]? = some (.lst (prs.map (·.1))) ∧ (∀ r ∈ prs, Is [n, q] h r.2 r.1 ∧ IsGV r.2) ∧ prs.map (fun r => nmD r.2) = nms.take prs.length
section
variable {S : List Int} {L : Nat} {n c : Nat} {h : Heap} {Q : RQ Val} {E : RE}
theorem c_width (B : Bx n c h) (hc : c < 80000000) (Z : ∀ (w : Int) (h' : Heap), 1 ≤ w → w ≤ 99 → Bx n (c + 4) h' → Fx1 n h h' → Q (.int w) h') : (calls D gl S (L + 2) 33 [.ref n] h).sat Q E := by
  show (runDef ⟨calls D gl S (L + 1), gl, S, none⟩ d33 [.ref n] h).sat _ _
  unfold runDef startV d33 b33
  simp
  refine c_take B (by omega) (by decide) fun y1 h1 y10 y11 B1 F1 l1 => ?_
  try simp
  refine c_take B1 (by omega) (by decide) fun y2 h2 y20 y21 B2 F2 l2 => ?_
  try simp
  refine c_take B2 (by omega) (by decide) fun y3 h3 y30 y31 B3 F3 l3 => ?_
  try simp
  refine sat_new fun p4 h4 e4 el4 l4 F4 => ?_
  have n3 := B3.lt
  refine c_take (B3.fr F4) (by omega) (by decide) fun y5 h5 y50 y51 B5 F5 l5 => ?_
  refine sat_atI (F5.at e4 (by omega)) y50 (by simpa using y51) rfl fun m hm => ?_
  simp at hm
  exact Z _ _ (by omega) (by omega) B5 ((F1.trans (F2.trans (F3.fr F4))).trans F5)
theorem c_drawn {many : Int} (hm0 : 0 ≤ many) (hm : many ≤ 100) (B : Bx n c h) (hc : c < 30000000) (Z : ∀ (p : Nat) (xs : List Val) (ds : List PyData) (h' : Heap), h'[p]? = some (.lst xs) → IsAll [n] h' ds xs → (∀ d ∈ ds, IsGV d) → (ds.length : Int) = many → (ds.map nmD).Nodup → h.length ≤ p → Bx n (c + 12000) h' → Fx1 n h h' → Q (.ref p) h') : (calls D gl S (L + 6) 34 [.ref n, .int many] h).sat Q E := by
  show (runDef ⟨calls D gl S (L + 5), gl, S, none⟩ d34 [.ref n, .int many] h).sat _ _
  unfold runDef startV d34 b34
  have n0 := B.lt
  simp
  refine c_names (L := L + 3) hm0 hm B (by omega) fun pn nms h1 e1 hnl hnd hne hpn B1 F1 => ?_
  try simp
  refine c_marks hm0 hm B1 (by omega) fun pm pss h2 e2 hpl hpp hpm B2 F2 => ?_
  try simp
  refine c_take (L := L + 4) B2 (by omega) (by decide) fun y3 h3 y30 y31 B3 F3 l3 => ?_
  try simp
  refine sat_new fun q h4 e4 el4 l4 F4 => ?_
  try simp
  refine ⟨by omega, ?_⟩
  have G3 := F1.trans (F2.trans F3)
  have l03 := G3.len
  have l1' := F1.len
  have l2' := F2.len
  have qn : q ≠ n := by omega
  have pnn : pn ≠ n := by omega
  have pmn : pm ≠ n := by omega
  have lpn := lt_of_get e1
  have lpm := lt_of_get e2
  have e14 := F4.at (F3.at (F2.at e1 pnn) pnn)
  have e24 := F4.at (F3.at e2 pmn)
  obtain ⟨I, hI⟩ : ∃ I : Nat → Sl → Heap → Prop, I = fun k σ h' => (∃ s6 s7, σ = [some (.ref n), some (.int many), some (.ref pn), some (.ref pm), some (.int (1 + y3)), some (.ref q), s6, s7]) ∧ (∃ prs, prs.length = k ∧ DrI n q h' nms prs) ∧ Bx n (c + 11000 + 6 * k) h' ∧ Fo [n, q] h4 h' := ⟨_, rfl⟩
  refine loopF_rng I rfl ?_ ?_ ?_
  · rintro k _ h5 hk z
    rw [hI] at z
    obtain ⟨⟨s6, s7, rfl⟩, ⟨prs, hprl, dr⟩, B5, F5⟩ := z
    refine ⟨_, rfl, ?_⟩
    have l45 := F5.len
    have hkn : k < nms.length := by omega
    have hkp : k < pss.length := by omega
    simp
    refine c_take (L := L + 4) B5 (by omega) (by decide) fun y6 h6 y60 y61 B6 F6 l6 => ?_
    try simp
    refine sat_new fun p7 h7 e7 el7 l7 F7 => ?_
    have n6 := B6.lt
    refine c_take (L := L + 4) (B6.fr F7) (by omega) (by decide) fun y8 h8 y80 y81 B8 F8 l8 => ?_
    refine sat_atI (F8.at e7 (by omega)) y80 (by simpa using y81) rfl fun m hm8 => ?_
    simp at hm8
    have F58 := (F6.fr F7).trans F8
    have F48 : Fo [n, q] h4 h8 := F5.trans (Fo.one F58 (by simp))
    have e18 := F48.at e14 (by simp; omega)
    have e28 := F48.at e24 (by simp; omega)
    have dq8 := F58.at dr.1 qn
    simp [rc_app dq8]
    rw [ix_at (j := k) e18 rfl (by simpa using hkn)]
    simp
    rw [ix_at (j := k) e28 rfl (by simpa using hkp)]
    simp
    refine c_width (L := L + 3) B8 (by omega) fun w h9 w1 w99 B9 F9 => ?_
    try simp
    refine sat_new fun pt h10 e10 el10 l10 F10 => ?_
    have F510 := (F58.trans F9).fr F10
    have dq10 := F510.at dr.1 qn
    have l59 := (F58.trans F9).len
    refine sat_app dq10 (by simp; omega) fun h11 e11 l11 F11 => ?_
    have hP : Pts pss[k] := hpp _ (List.getElem_mem _)
    have ha : lettS nms[k] 8 = true := hne _ (List.getElem_mem _)
    rw [hI]
    refine ⟨⟨_, _, rfl⟩, ⟨prs ++ [(.ref pt, .tuple [.str nms[k], .str (mkS (tsOf pss[k])), .int m, .int w])], by simp [hprl], ?_, fun r hr => ?_, ?_⟩, ?_, F5.trans ((Fo.one F510 (by simp)).trans (Fo.one F11 (by simp)))⟩
    · rw [e11]; simp
    · rcases List.mem_append.mp hr with hr | hr
      · obtain ⟨a, b⟩ := dr.2.1 r hr
        exact ⟨(a.fo (Fo.one F510 (by simp))).fo (Fo.one F11 (by simp)), b⟩
      · rw [List.mem_singleton.mp hr]
        have lq := lt_of_get dr.1
        exact ⟨is_tup (by simp; omega) (F11.at e10 (by omega)) (isall_cons is_str (isall_cons is_str (isall_cons is_int (isall_cons is_int isall_nil)))), ⟨_, _, _, _, rfl, ha, hP, by omega, by omega⟩⟩
    · rw [List.map_append, dr.2.2, List.length_append, hprl]
      show nms.take k ++ [nms[k]] = nms.take (k + 1)
      rw [List.take_succ, List.getElem?_eq_getElem hkn]
      rfl
    · exact (((B9.fr F10).fxo F11 (Ne.symm qn))).up (by omega)
  · rintro _ h5 z
    rw [hI] at z
    obtain ⟨⟨s6, s7, rfl⟩, ⟨prs, hprl, dr⟩, B5, F5⟩ := z
    simp
    have hia : IsAll [n] h5 (prs.map (·.2)) (prs.map (·.1)) := by
      have : ∀ l : List (Val × PyData), (∀ r ∈ l, Is [n, q] h5 r.2 r.1 ∧ IsGV r.2) → IsAll [n] h5 (l.map (·.2)) (l.map (·.1)) := by
        intro l
        induction l with
        | nil => intro _; exact isall_nil
        | cons r l ih => intro hl; exact isall_cons ((hl r List.mem_cons_self).1.sub (by simp)) (ih fun x hx => hl x (List.mem_cons_of_mem _ hx))
      exact this prs dr.2.1
    have l45 := F5.len
    refine Z q _ _ h5 dr.1 hia (fun d hd => ?_) (by rw [List.length_map]; omega) ?_ (by omega) (B5.up (by omega)) ?_
    · obtain ⟨r, hr, rfl⟩ := List.mem_map.mp hd
      exact (dr.2.1 r hr).2
    · rw [List.map_map]
      show (prs.map fun r => nmD r.2).Nodup
      rw [dr.2.2]
      exact hnd.sublist (List.take_sublist _ _)
    · have G : Fo [q, n] h h5 := ((Fo.one (G3.fr F4) (by simp)).trans (F5.sub (by simp)))
      exact (G.drop (by omega)).fx
  · rw [hI]
    exact ⟨⟨_, _, rfl⟩, ⟨[], rfl, e4, by simp, rfl⟩, (B3.fr F4).up (by omega), Fo.refl _ _⟩
end
end Mi


namespace Mi
open PySem (Str PyData)
theorem ah_trans {d e f : PyData} (h1 : aheadD d e = true) (h2 : aheadD e f = true) : aheadD d f = true := PyProof.Rows.lex_trans _ _ _ h1 h2
theorem ah_irr (d : PyData) : aheadD d d = false := PyProof.Rows.lex_irrefl _
theorem ah_asym {d e : PyData} (h1 : aheadD d e = true) : aheadD e d = false := by
  cases c : aheadD e d with
  | false => rfl
  | true =>
    have := ah_trans h1 c
    rw [ah_irr] at this
    cases this
theorem gv_toks {d : PyData} {a : Str} {ps : List Val} {s w : Int} (g : GV d a ps s w) : ∃ P, PySem.W.keyToks (rkOf d) = P ++ [Sum.inr a.cps.toList, Sum.inl 0] := by
  rw [g.rk]
  refine ⟨Sum.inl 1 :: ([Sum.inl s] ++ (Sum.inl 1 :: (PySem.W.keyToksAll (ps.map rkD) ++ [Sum.inl 1]))), ?_⟩
  simp [PySem.W.keyToks, PySem.W.keyToksAll]
theorem ah_total {d e : PyData} (hd : IsGV d) (he : IsGV e) (hn : nmD d ≠ nmD e) : aheadD d e = true ∨ aheadD e d = true := by
  obtain ⟨a, ps, s, w, g⟩ := hd
  obtain ⟨b, qs, t, u, g'⟩ := he
  cases c1 : aheadD d e with
  | true => exact .inl rfl
  | false =>
    cases c2 : aheadD e d with
    | true => exact .inr rfl
    | false =>
      exfalso
      have ht : PySem.W.keyToks (rkOf d) = PySem.W.keyToks (rkOf e) := PyProof.Rows.lex_total _ _ c1 c2
      obtain ⟨P, hP⟩ := gv_toks g
      obtain ⟨P', hP'⟩ := gv_toks g'
      rw [hP, hP'] at ht
      have := List.append_inj_right' ht rfl
      have : a.cps.toList = b.cps.toList := by simpa using this
      have hab : a = b := TL.ext_tl this
      apply hn
      rw [g.e, g'.e]
      exact hab
abbrev VP := Val × PyData
def insP (f : List VP) (r : VP) : List VP := f.take (f.filter fun o => aheadD o.2 r.2).length ++ [r] ++ f.drop (f.filter fun o => aheadD o.2 r.2).length
def sortP (prs : List VP) : List VP := prs.foldl insP []
theorem insP_perm (f : List VP) (r : VP) : (insP f r).Perm (r :: f) := by
  unfold insP
  generalize (f.filter fun o => aheadD o.2 r.2).length = k
  have h1 : (f.take k ++ [r] ++ f.drop k).Perm (r :: (f.take k ++ f.drop k)) := by
    rw [List.append_assoc]
    exact List.perm_middle
  rwa [List.take_append_drop] at h1
theorem fold_perm : ∀ (prs acc : List VP), (prs.foldl insP acc).Perm (prs ++ acc)
  | [], acc => List.Perm.refl _
  | r :: prs, acc => by
    have h1 := fold_perm prs (insP acc r)
    refine h1.trans ?_
    refine (List.Perm.append_left prs (insP_perm acc r)).trans ?_
    exact List.perm_middle
theorem sortP_perm (prs : List VP) : (sortP prs).Perm prs := by
  have := fold_perm prs []
  rwa [List.append_nil] at this
def Srt (f : List VP) : Prop := f.Pairwise fun a b => aheadD a.2 b.2 = true
theorem no_later {o r : VP} {t : List VP} (h : ∀ x ∈ t, aheadD o.2 x.2 = true) (ho : aheadD o.2 r.2 = false) : (t.filter fun x => aheadD x.2 r.2) = [] := by
  rw [List.filter_eq_nil_iff]
  intro x hx c
  have := ah_trans (h x hx) c
  rw [ho] at this
  cases this
theorem insP_srt : ∀ {f : List VP} {r : VP}, Srt f → (∀ o ∈ f, aheadD o.2 r.2 = true ∨ aheadD r.2 o.2 = true) → Srt (insP f r)
  | [], r, _, _ => by simp [insP, Srt]
  | o :: t, r, hs, ht => by
    obtain ⟨h1, h2⟩ := List.pairwise_cons.mp hs
    by_cases c : aheadD o.2 r.2 = true
    · have ih := insP_srt (f := t) (r := r) h2 fun x hx => ht x (List.mem_cons_of_mem _ hx)
      have e : insP (o :: t) r = o :: insP t r := by
        unfold insP
        rw [List.filter_cons_of_pos (by simpa using c), List.length_cons, List.take_succ_cons, List.drop_succ_cons]
        rfl
      rw [e]
      refine List.pairwise_cons.mpr ⟨fun x hx => ?_, ih⟩
      rcases List.mem_cons.mp ((insP_perm t r).mem_iff.mp hx) with rfl | hx
      · exact c
      · exact h1 x hx
    · have c' : aheadD o.2 r.2 = false := by simpa using c
      have e : insP (o :: t) r = r :: o :: t := by
        unfold insP
        rw [List.filter_cons_of_neg (by simpa using c'), no_later h1 c']
        rfl
      rw [e]
      have hro : aheadD r.2 o.2 = true := (ht o List.mem_cons_self).resolve_left c
      refine List.pairwise_cons.mpr ⟨fun x hx => ?_, hs⟩
      rcases List.mem_cons.mp hx with rfl | hx
      · exact hro
      · exact ah_trans hro (h1 x hx)
theorem fold_srt : ∀ (prs acc : List VP), Srt acc → (∀ r ∈ prs ++ acc, IsGV r.2) → ((prs ++ acc).map fun r => nmD r.2).Nodup → Srt (prs.foldl insP acc)
  | [], acc, h, _, _ => h
  | r :: prs, acc, h, hg, hn => by
    have hperm : (prs ++ insP acc r).Perm (r :: prs ++ acc) := (List.Perm.append_left prs (insP_perm acc r)).trans List.perm_middle
    refine fold_srt prs (insP acc r) (insP_srt h fun o ho => ?_) (fun x hx => hg x (hperm.mem_iff.mp hx)) ?_
    · refine ah_total (hg o (by simp [ho])) (hg r (by simp)) fun e => ?_
      rw [List.cons_append, List.map_cons, List.nodup_cons] at hn
      exact hn.1 (List.mem_map.mpr ⟨o, by simp [ho], e⟩)
    · exact ((hperm.map fun r => nmD r.2).nodup_iff).mpr hn
theorem sortP_srt {prs : List VP} (hg : ∀ r ∈ prs, IsGV r.2) (hn : (prs.map fun r => nmD r.2).Nodup) : Srt (sortP prs) :=
  fold_srt prs [] List.Pairwise.nil (by simpa using hg) (by simpa using hn)
theorem srt_chn : ∀ {f : List VP}, Srt f → chn (f.map (·.2)) = true
  | [], _ => rfl
  | [a], _ => rfl
  | a :: b :: t, h => by
    obtain ⟨h1, h2⟩ := List.pairwise_cons.mp h
    show (aheadD a.2 b.2 && chn ((b :: t).map (·.2))) = true
    rw [h1 b List.mem_cons_self, srt_chn h2]
    rfl
theorem sat_insN {h : Heap} {n k : Nat} {xs : List Val} {v : Val} {Q : RQ Val} {E : RE} (hn : h[n]? = some (.lst xs)) (hl : xs.length < SL) (hk : (k : Int) < 2 ^ 63)
    (hp : ∀ h', h'[n]? = some (.lst (xs.take k ++ [v] ++ xs.drop k)) → h'.length = h.length → Fx1 n h h' → Q .non h') : (met .insert (.ref n) [.int (k : Int), v] h).sat Q E := by
  unfold met
  dsimp only
  rw [hn]
  dsimp only
  rw [if_pos ⟨hl, by omega, hk⟩]
  exact hp _ (by simp [lt_of_get hn]) (by simp) (Fx1.put h n _)
section
variable {S : List Int} {L : Nat} {n c : Nat} {h : Heap} {Q : RQ Val} {E : RE} {X : List Nat}
theorem c_sorted {p : Nat} {prs : List VP} (e : h[p]? = some (.lst (prs.map (·.1)))) (hq : ∀ r ∈ prs, Is X h r.2 r.1) (hg : ∀ r ∈ prs, IsGV r.2) (hl : prs.length ≤ 200) (Z : ∀ (q : Nat) (h' : Heap), h'[q]? = some (.lst ((sortP prs).map (·.1))) → h.length ≤ q → Fr h h' → Q (.ref q) h') : (calls D gl S (L + 4) 37 [.ref p] h).sat Q E := by
  show (runDef ⟨calls D gl S (L + 3), gl, S, none⟩ d37 [.ref p] h).sat _ _
  unfold runDef startV d37 b37
  simp
  refine sat_new fun q h1 e1 el1 l1 F1 => ?_
  obtain ⟨st, z2, o2⟩ := (sv_lst e).srcp
  try simp
  rw [z2 _ F1, sat_ok]
  dsimp only
  have FA : ∀ h', Fx1 q h1 h' → Fr h h' := fun h' F => (F1.fx F).fresh (by omega)
  obtain ⟨I, hI⟩ : ∃ I : List VP → Sl → Heap → Prop, I = fun r σ h' => (∃ s2 s3, σ = [some (.ref p), some (.ref q), s2, s3, none]) ∧ (∃ done, prs = done ++ r ∧ h'[q]? = some (.lst ((sortP done).map (·.1)))) ∧ Fx1 q h1 h' := ⟨_, rfl⟩
  refine loopF_each (k := fun q : VP => q.1) (xs := prs) I ?_ ?_ ?_ ?_
  · rintro r σ h' z
    rw [hI] at z
    exact o2 _ _ (FA _ z.2.2)
  · rintro x r _ h2 z
    rw [hI] at z
    obtain ⟨⟨s2, s3, rfl⟩, ⟨done, he, eq⟩, F2⟩ := z
    refine ⟨_, rfl, ?_⟩
    have F02 := FA _ F2
    have hx : x ∈ prs := by rw [he]; simp
    have hmem : ∀ o ∈ sortP done, o ∈ prs := fun o ho => by rw [he]; exact List.mem_append_left _ ((sortP_perm done).mem_iff.mp ho)
    have hdl : done.length < prs.length := by rw [he]; simp
    have hsl : (sortP done).length = done.length := (sortP_perm done).length_eq
    simp
    rw [srcR_lst eq, List.map_map, sat_ok]
    dsimp only
    refine lcF_each (k := fun o : VP => o.1) (xs := sortP done) (fun r a h' => ∃ dn, sortP done = dn ++ r ∧ a.length = (dn.filter fun o => aheadD o.2 x.2).length ∧ Fr h2 h') ?_ ?_ ?_ ?_ ⟨[], rfl, rfl, Fr.refl _⟩
    · rintro r a h' ⟨_, _, _, F⟩
      exact ok_lst _ _ rfl (F.at eq)
    · rintro i r a h' ⟨dn, hd, ha, F⟩
      have h1 := congrArg List.length hd
      have h2 := List.length_filter_le (fun o : VP => aheadD o.2 x.2) dn
      rw [List.length_append, List.length_cons] at h1
      show _ < 16777216
      omega
    · rintro o r a h3 ⟨dn, hd, ha, F⟩
      refine ⟨_, rfl, ?_⟩
      have ho : o ∈ prs := hmem o (by rw [hd]; simp)
      obtain ⟨a1, ps1, s1, w1, g1⟩ := hg o ho
      obtain ⟨a2, ps2, s2', w2, g2⟩ := hg x hx
      simp
      refine c_lahead ((hq o ho).fr (F02.trans F)) ((hq x hx).fr (F02.trans F)) g1 g2 fun h4 F4 => ?_
      cases ca : aheadD o.2 x.2 with
      | true =>
        simp
        exact ⟨dn ++ [o], by rw [hd]; simp, by simp [ca, ha], F.trans F4⟩
      | false =>
        simp
        exact ⟨dn ++ [o], by rw [hd]; simp, by simp [ca, ha], F.trans F4⟩
    · rintro a h3 ⟨dn, hd, ha, F⟩
      rw [List.append_nil] at hd
      subst hd
      refine sat_new fun p4 h4 e4 el4 l4 F4 => ?_
      have F24 := F.trans F4
      have eq4 := F24.at eq
      rw [len_lst e4, ha]
      simp only [sat_ok]
      try simp
      refine ⟨rc_ins eq4, ?_⟩
      have hfl := List.length_filter_le (fun o : VP => aheadD o.2 x.2) (sortP done)
      refine sat_insN eq4 (by rw [List.length_map]; show _ < 16777216; omega) (by omega) fun h5 e5 l5 F5 => ?_
      rw [hI]
      refine ⟨⟨_, _, rfl⟩, ⟨done ++ [x], by rw [he]; simp, ?_⟩, F2.trans (F24.fx F5)⟩
      rw [e5]
      have hs : sortP (done ++ [x]) = insP (sortP done) x := by unfold sortP; rw [List.foldl_append]; rfl
      rw [hs]
      unfold insP
      rw [List.map_append, List.map_append, List.map_take, List.map_drop]
      rfl
  · rintro _ h2 z
    rw [hI] at z
    obtain ⟨⟨s2, s3, rfl⟩, ⟨done, he, eq⟩, F2⟩ := z
    rw [List.append_nil] at he
    subst he
    simp
    exact Z _ _ eq (by omega) (FA _ F2)
  · rw [hI]
    exact ⟨⟨_, _, rfl⟩, ⟨[], rfl, e1⟩, Fx1.refl _ _⟩
end
end Mi


namespace Mi
open PySem (Str PyData)
theorem slc_mid {h : Heap} {p : Nat} {ps : List Val} {i j : Nat} (e : h[p]? = some (.lst ps)) (hi : i ≤ ps.length) : slcV (.ref p) (some (i : Int)) (some (j : Int)) h = new (.lst ((ps.drop i).take (min j ps.length - i))) h := by
  unfold slcV
  simp only [e]
  rw [six_nat, six_nat, Nat.min_eq_left hi]
theorem rev_lst {h : Heap} {p : Nat} {ps : List Val} (e : h[p]? = some (.lst ps)) : revV (.ref p) h = new (.lst ps.reverse) h := by simp [revV, lstO, e]
theorem add_tup {m n : Nat} {xs ys : List Val} {h : Heap} (e : h[m]? = some (.tup xs)) (e2 : h[n]? = some (.tup ys)) (hx : xs ≠ []) (hy : ys ≠ []) (hl : xs.length + ys.length ≤ SL) : bop .add (.ref m) (.ref n) h = new (.tup (xs ++ ys)) h := by
  show addV (.ref m) (.ref n) h = _
  unfold addV
  simp only [e, e2]
  rw [if_pos hl, if_neg hx, if_neg hy]
def RwS (n q : Nat) (h : Heap) (rs : List VP) : Prop := q ≠ n ∧ h[q]? = some (.lst (rs.map (·.1))) ∧ (∀ r ∈ rs, Is [q, n] h r.2 r.1 ∧ ThO r.2) ∧ 1 ≤ rs.length
theorem RwS.fx {n q : Nat} {h h' : Heap} {rs : List VP} (r : RwS n q h rs) (F : Fx1 n h h') : RwS n q h' rs :=
  ⟨r.1, F.at r.2.1 r.1, fun x hx => ⟨(r.2.2.1 x hx).1.fo (Fo.one F (by simp)), (r.2.2.1 x hx).2⟩, r.2.2.2⟩
theorem rw_new {n q : Nat} {h h' : Heap} {rs : List VP} (hn : n < h.length) (hI : ∀ r ∈ rs, Is [n] h r.2 r.1 ∧ ThO r.2) (hl : 1 ≤ rs.length) (e : h'[q]? = some (.lst (rs.map (·.1)))) (eq : q = h.length) (F : Fr h h') : RwS n q h' rs :=
  ⟨by omega, e, fun x hx => ⟨((hI x hx).1.more (by omega)).fr F, (hI x hx).2⟩, hl⟩
theorem RwS.it {n q : Nat} {h : Heap} {rs : List VP} (r : RwS n q h rs) : ∀ x ∈ rs, Is [n] h x.2 x.1 ∧ ThO x.2 := fun x hx => ⟨(r.2.2.1 x hx).1.sub (by simp), (r.2.2.1 x hx).2⟩
theorem RwS.set {n q j : Nat} {h h' : Heap} {rs : List VP} {d : PyData} {v : Val} (r : RwS n q h rs) (e : h'[q]? = some (.lst ((rs.map (·.1)).set j v))) (F : Fx1 q h h') (i : Is [q, n] h d v) (t : ThO d) : RwS n q h' (rs.set j (v, d)) := by
  refine ⟨r.1, by rw [e, List.map_set], fun x hx => ?_, by rw [List.length_set]; exact r.2.2.2⟩
  rcases List.mem_or_eq_of_mem_set hx with hx | rfl
  · exact ⟨(r.2.2.1 x hx).1.fo (Fo.one F (by simp)), (r.2.2.1 x hx).2⟩
  · exact ⟨i.fo (Fo.one F (by simp)), t⟩
theorem due_dec {X : List Nat} {h : Heap} {d : PyData} {v : Val} (i : Is X h (dueD d) v) : v = .non ↔ ocD d = none := by
  unfold dueD at i
  cases c : ocD d with
  | none =>
    rw [c] at i
    have : v = .non := by unfold Is at i; exact i
    simp [this]
  | some wf =>
    rw [c] at i
    obtain ⟨p, _, rfl, _⟩ := i.lst
    simp
theorem slc_t1 {h : Heap} {p : Nat} {x y z u : Val} (e : h[p]? = some (.tup [x, y, z, u])) : slcV (.ref p) (some 1) none h = new (.tup [y, z, u]) h := by
  unfold slcV
  simp only [e]
  rfl
theorem isall_vp {X : List Nat} {h : Heap} : ∀ {rs : List VP}, (∀ r ∈ rs, Is X h r.2 r.1) → IsAll X h (rs.map (·.2)) (rs.map (·.1))
  | [], _ => isall_nil
  | r :: rs, hr => isall_cons (hr r List.mem_cons_self) (isall_vp fun x hx => hr x (List.mem_cons_of_mem _ hx))
section
variable {S : List Int} {L : Nat} {n c : Nat} {h : Heap} {Q : RQ Val} {E : RE}
theorem c_rowright {p : Nat} {prs : List VP} (B : Bx n c h) (hc : c < 20000000) (e : h[p]? = some (.lst (prs.map (·.1)))) (hpn : p ≠ n) (hq : ∀ r ∈ prs, Is [n] h r.2 r.1) (hg : ∀ r ∈ prs, IsGV r.2) (hl : prs.length ≤ 8) (hl1 : 1 ≤ prs.length) (Z : ∀ h', Bx n (c + 100) h' → Fx1 n h h' → Q (.bl true) h') : (calls D gl S (L + 8) 43 [.ref n, .ref p] h).sat Q E := by
  show (runDef ⟨calls D gl S (L + 7), gl, S, none⟩ d43 [.ref n, .ref p] h).sat _ _
  unfold runDef startV d43 b43
  have n0 := B.lt
  simp
  refine c_sorted (L := L + 3) e hq hg (by omega) fun q h1 e1 hq1 F1 => ?_
  try simp
  have hsp := sortP_perm prs
  have hsl := hsp.length_eq
  refine c_take (L := L + 6) (B.fr F1) (by omega) (by decide) fun turns h2 t0 t1 B2 F2 l2 => ?_
  simp
  refine ⟨by omega, ?_⟩
  have l01 := F1.len
  have rw2 : RwS n q h2 (sortP prs) := by
    refine RwS.fx (h := h1) ⟨by omega, e1, fun x hx => ?_, by omega⟩ F2
    have hm := hsp.mem_iff.mp hx
    obtain ⟨a, ps, s, w, g⟩ := hg x hm
    exact ⟨((hq x hm).more hq1).fr F1, g.tho⟩
  obtain ⟨I, hI⟩ : ∃ I : Nat → Sl → Heap → Prop, I = fun k σ h' => ∃ (q : Nat) (rs : List VP) (s3 s4 s5 : Option Val), σ = [some (.ref n), some (.ref p), some (.ref q), s3, s4, s5, none, none] ∧ RwS n q h' rs ∧ rs.length ≤ 8 + k ∧ h.length ≤ q ∧ Bx n (c + 1 + 4 * k) h' ∧ Fx1 n h h' := ⟨_, rfl⟩
  refine loopF_rng I rfl ?_ ?_ ?_
  · rintro k _ h3 hk z
    rw [hI] at z
    obtain ⟨q, rs, s3, s4, s5, rfl, r3, hrl, hq0, B3, F3⟩ := z
    refine ⟨_, rfl, ?_⟩
    have hk2 : k < 3 := by omega
    simp
    refine c_take (L := L + 6) B3 (by omega) (by decide) fun way h4 w0 w1 B4 F4 l4 => ?_
    have r4 := r3.fx F4
    simp [len_lst r4.2.1]
    refine c_take (L := L + 6) B4 (by omega) (by have := r4.2.2.2; omega) fun at_ h5 a0 a1 B5 F5 l5 => ?_
    have r5 := r4.fx F5
    obtain ⟨at_, rfl⟩ := Int.eq_ofNat_of_zero_le a0
    have ha : at_ < rs.length := by omega
    have F05 := F3.trans (F4.trans F5)
    have e5 := r5.2.1
    have n5 := B5.lt
    have hml : (rs.map (·.1)).length = rs.length := List.length_map _
    simp
    have fin : ∀ (w : Int) (q' : Nat) (rs' : List VP) (h6 h7 : Heap), Fr h5 h6 → h7[q']? = some (.lst (rs'.map (·.1))) → q' = h6.length → Fr h6 h7 → (∀ x ∈ rs', x ∈ rs) → 1 ≤ rs'.length → rs'.length ≤ rs.length + 1 → I (k + 1) [some (.ref n), some (.ref p), some (.ref q'), some (.int k), some (.int w), some (.int at_), none, none] h7 := by
      intro w q' rs' h6 h7 F6 e7 hq' F7 hs h1' h2'
      rw [hI]
      have l56 := F6.len
      refine ⟨q', rs', _, _, _, rfl, rw_new (h := h6) (by omega) (fun x hx => ?_) h1' e7 hq' F7, by omega, by have := F05.len; omega, (B5.fr (F6.trans F7)).up (by omega), F05.fr (F6.trans F7)⟩
      obtain ⟨i, t⟩ := r5.it x (hs x hx)
      exact ⟨i.fr F6, t⟩
    have same : ∀ (w : Int) (h7 : Heap), Fr h5 h7 → I (k + 1) [some (.ref n), some (.ref p), some (.ref q), some (.int k), some (.int w), some (.int at_), none, none] h7 := by
      intro w h7 F7
      rw [hI]
      exact ⟨q, rs, _, _, _, rfl, r5.fx (F7.one n), by omega, hq0, (B5.fr F7).up (by omega), F05.fr F7⟩
    by_cases c0 : way = 0
    · simp [c0]
      rw [slc_take e5]
      refine sat_new fun q6 h6 e6 el6 l6 F6 => ?_
      rw [show ((at_ : Int) + 2) = ((at_ + 2 : Nat) : Int) by omega, slc_mid (F6.at e5) (by omega)]
      refine sat_new fun q7 h7 e7 el7 l7 F7 => ?_
      rw [rev_lst e7]
      refine sat_new fun q8 h8 e8 el8 l8 F8 => ?_
      rw [add_lst ((F7.trans F8).at e6) e8, if_pos (by simp; omega)]
      refine sat_new fun q9 h9 e9 el9 l9 F9 => ?_
      have F59 := F6.trans (F7.trans (F8.trans F9))
      rw [slc_from (F59.at e5)]
      refine sat_new fun q10 h10 e10 el10 l10 F10 => ?_
      rw [add_lst (F10.at e9) e10, if_pos (by simp; omega)]
      refine sat_new fun q11 h11 e11 el11 l11 F11 => ?_
      refine fin _ q11 (rs.take at_ ++ ((rs.drop at_).take (min (at_ + 2) rs.length - at_)).reverse ++ rs.drop (at_ + 2)) h10 h11 (F59.trans F10) ?_ el11 F11 (fun x hx => ?_) ?_ ?_
      · rw [e11, hml]
        simp only [List.map_append, List.map_take, List.map_drop, List.map_reverse]
      · rcases List.mem_append.mp hx with hx | hx
        · rcases List.mem_append.mp hx with hx | hx
          · exact List.mem_of_mem_take hx
          · exact List.mem_of_mem_drop (List.mem_of_mem_take (List.mem_reverse.mp hx))
        · exact List.mem_of_mem_drop hx
      · simp only [List.length_append, List.length_take, List.length_drop, List.length_reverse]
        omega
      · simp only [List.length_append, List.length_take, List.length_drop, List.length_reverse]
        omega
    · simp [c0]
      by_cases c1 : way = 1
      · simp [c1]
        rw [show ((at_ : Int) + 1) = ((at_ + 1 : Nat) : Int) by omega, slc_take e5]
        refine sat_new fun q6 h6 e6 el6 l6 F6 => ?_
        rw [slc_from (F6.at e5)]
        refine sat_new fun q7 h7 e7 el7 l7 F7 => ?_
        rw [add_lst (F7.at e6) e7, if_pos (by simp; omega)]
        refine sat_new fun q8 h8 e8 el8 l8 F8 => ?_
        refine fin _ q8 (rs.take (at_ + 1) ++ rs.drop at_) h7 h8 (F6.trans F7) ?_ el8 F8 (fun x hx => ?_) ?_ ?_
        · rw [e8]
          simp only [List.map_append, List.map_take, List.map_drop]
        · rcases List.mem_append.mp hx with hx | hx
          · exact List.mem_of_mem_take hx
          · exact List.mem_of_mem_drop hx
        · simp only [List.length_append, List.length_take, List.length_drop]
          omega
        · simp only [List.length_append, List.length_take, List.length_drop]
          omega
      · simp [c1]
        have abq : ∀ {h' : Heap}, h5.length ≤ h'.length → Ab [q, n] h' := fun le m hm => by
          have := lt_of_get e5
          simp at hm
          rcases hm with rfl | rfl <;> omega
        have m0 : rs[0] ∈ rs := List.getElem_mem _
        have ma : rs[at_] ∈ rs := List.getElem_mem _
        by_cases c2 : way = 2
        · simp [c2]
          have x0 : ∀ (g : G) (h' : Heap), Fr h5 h' → idxV g (.ref q) (.int 0) h' = .ok rs[0].1 h' := fun g h' F => by
            rw [ix_at (i := 0) (j := 0) (F.at e5) (by simp) (by rw [hml]; omega), List.getElem_map]
          have xa : ∀ (g : G) (h' : Heap), Fr h5 h' → idxV g (.ref q) (.int (at_ : Int)) h' = .ok rs[at_].1 h' := fun g h' F => by
            rw [ix_at (j := at_) (F.at e5) rfl (by rw [hml]; omega), List.getElem_map]
          rw [x0 _ _ (Fr.refl _)]
          simp
          refine c_due (L := L + 6) (abq (Nat.le_refl _)) (r5.2.2.1 _ m0).1 (r5.2.2.1 _ m0).2.t fun v6 h6 i6 F6 => ?_
          by_cases d6 : v6 = .non
          · simp [d6]
            rw [xa _ _ F6]
            simp
            refine c_due (L := L + 6) (abq F6.len) ((r5.2.2.1 _ ma).1.fr F6) (r5.2.2.1 _ ma).2.t fun v7 h7 i7 F7 => ?_
            have F57 := F6.trans F7
            by_cases d7 : v7 = .non
            · simp [d7]
              obtain ⟨a0', ps0, s0, w0', g0⟩ := gv_of (r5.2.2.1 _ m0).2.t ((due_dec i6).mp d6)
              obtain ⟨a1', ps1, s1, w1', g1⟩ := gv_of (r5.2.2.1 _ ma).2.t ((due_dec i7).mp d7)
              have i0 := (r5.2.2.1 _ m0).1.fr F57
              have i1 := (r5.2.2.1 _ ma).1.fr F57
              rw [g0.e] at i0
              rw [g1.e] at i1
              obtain ⟨t0', z0', et0, _, ee0, iz0⟩ := four_is i0
              obtain ⟨t1', z1', et1, _, ee1, iz1⟩ := four_is i1
              obtain rfl := iz1.int
              rw [x0 _ _ F57]
              simp
              rw [et0, (ix_t0 ee0).1]
              simp
              refine sat_new fun q8 h8 e8 el8 l8 F8 => ?_
              rw [xa _ _ (F57.trans F8)]
              simp
              rw [et1, slc_t1 (F8.at ee1)]
              refine sat_new fun q9 h9 e9 el9 l9 F9 => ?_
              rw [add_tup (F9.at e8) e9 (by simp) (by simp) (by simp)]
              refine sat_new fun q10 h10 e10 el10 l10 F10 => ?_
              have F510 := F57.trans (F8.trans (F9.trans F10))
              have lq := lt_of_get e5
              have l57 := F57.len
              refine sat_set (j := at_) (F510.at e5) (by unfold L2.ixN; rw [if_pos (by omega), hml, if_pos (by omega)]; simp) fun h11 e11 l11 F11 => ?_
              have gv : GV (.tuple [.str a0', .str (mkS (tsOf ps1)), .int s1, .int w1']) a0' ps1 s1 w1' := ⟨rfl, g0.a, g1.p, g1.s1, g1.w1⟩
              have r11 := (r5.fx (F510.one n)).set e11 F11 (is_tup (by simp; omega) e10 (isall_cons is_str (isall_cons is_str (isall_cons is_int (isall_cons is_int isall_nil))))) gv.tho
              rw [hI]
              refine ⟨q, _, _, _, _, rfl, r11, by rw [List.length_set]; omega, hq0, ((B5.fr F510).fxo F11 (Ne.symm r5.1)).up (by omega), ?_⟩
              have G : Fo [q, n] h h11 := (Fo.one (F05.fr F510) (by simp)).trans (Fo.one F11 (by simp))
              exact (G.drop hq0).fx
            · simp [d7]
              exact same _ _ F57
          · simp [d6]
            exact same _ _ F6
        · simp [c2]
          by_cases c3 : way = 3
          · simp [c3]
            have xa : ∀ (g : G) (h' : Heap), Fr h5 h' → idxV g (.ref q) (.int (at_ : Int)) h' = .ok rs[at_].1 h' := fun g h' F => by
              rw [ix_at (j := at_) (F.at e5) rfl (by rw [hml]; omega), List.getElem_map]
            rw [xa _ _ (Fr.refl _)]
            simp
            refine c_due (L := L + 6) (abq (Nat.le_refl _)) (r5.2.2.1 _ ma).1 (r5.2.2.1 _ ma).2.t fun v6 h6 i6 F6 => ?_
            by_cases d6 : v6 = .non
            · simp [d6]
              obtain ⟨a1', ps1, s1, w1', g1⟩ := gv_of (r5.2.2.1 _ ma).2.t ((due_dec i6).mp d6)
              rw [xa _ _ F6]
              simp
              refine c_bad (L := L + 5) (abq F6.len) (by simp) (B5.fr F6) (by omega) ((r5.2.2.1 _ ma).1.fr F6) g1 fun d' v' h7 th _ id B7 F7 => ?_
              have r7 := (r5.fx (F6.one n)).fx F7
              refine sat_set (j := at_) r7.2.1 (by unfold L2.ixN; rw [if_pos (by omega), hml, if_pos (by omega)]; simp) fun h8 e8 l8 F8 => ?_
              rw [hI]
              refine ⟨q, _, _, _, _, rfl, r7.set e8 F8 id th, by rw [List.length_set]; omega, hq0, (B7.fxo F8 (Ne.symm r5.1)).up (by omega), ?_⟩
              have G : Fo [q, n] h h8 := (Fo.one (F05.fr F6) (by simp)).trans ((Fo.one F7 (by simp)).trans (Fo.one F8 (by simp)))
              exact (G.drop hq0).fx
            · simp [d6]
              exact same _ _ F6
          · simp [c3]
            exact same _ _ (Fr.refl _)
  · rintro _ h3 z
    rw [hI] at z
    obtain ⟨q, rs, s3, s4, s5, rfl, r3, hrl, hq0, B3, F3⟩ := z
    simp
    have e3 := r3.2.1
    have n3 := B3.lt
    have hrl12 : rs.length ≤ 20 := by omega
    have ia : IsAll [n] h3 (rs.map (·.2)) (rs.map (·.1)) := isall_vp fun r hr => (r3.it r hr).1
    have ht : ∀ d ∈ rs.map (·.2), Thn d := fun d hd => by obtain ⟨r, hr, rfl⟩ := List.mem_map.mp hd; exact (r3.it r hr).2.t
    have hml : (rs.map (·.2)).length = rs.length := List.length_map _
    have okR : Okr (.list (rs.map (·.2))) 3 50000 := (okr_list (n := 2) (w := 2000) fun d hd => by obtain ⟨r, hr, rfl⟩ := List.mem_map.mp hd; exact (r3.it r hr).2.o).up (Nat.le_refl _) (by rw [hml]; omega)
    have isR : ∀ h', Fr h3 h' → Is [] h' (.list (rs.map (·.2))) (.ref q) := fun h' F => (is_lst (by simp) e3 (ia.sub (by simp))).fr F
    rw [sat_reprR (isR _ (Fr.refl _)) okR (by decide) (by decide)]
    simp
    refine lst_tuple e3 fun pt h4 e4 el4 l4 F4 => ?_
    refine sat_new fun pl h5 e5 el5 l5 F5 => ?_
    have F35 := F4.trans F5
    rw [srcR_lst e5, sat_ok]
    dsimp only
    obtain ⟨J, hJ⟩ : ∃ J : List Val → Sl → Heap → Prop, J = fun r σ h' => (∃ s7, σ = [some (.ref n), some (.ref p), some (.ref q), s3, s4, s5, some (.str (PyData.list (rs.map (·.2))).shown), s7]) ∧ (∀ v ∈ r, v = .ref q ∨ v = .ref pt) ∧ Fr h5 h' := ⟨_, rfl⟩
    refine loopF_each (k := fun v => v) (xs := [.ref q, .ref pt, .ref q]) J ?_ ?_ ?_ ?_
    · rintro r σ h' z
      rw [hJ] at z
      exact ok_lst _ _ rfl (z.2.2.at e5)
    · rintro v r _ h6 z
      rw [hJ] at z
      obtain ⟨⟨s7, rfl⟩, hv, F6⟩ := z
      refine ⟨_, rfl, ?_⟩
      have F36 := F35.trans F6
      have sv : Sv h6 v (rs.map (·.1)) := by
        rcases hv v List.mem_cons_self with rfl | rfl
        · exact sv_lst (F36.at e3)
        · exact sv_tup ((F5.trans F6).at e4)
      have ab6 : Ab [n] h6 := fun m hm => by have := F36.len; simp at hm; omega
      simp
      refine c_inorder (L := L) sv (ia.fr F36) ht (by rw [hml]; omega) fun h7 F7 => ?_
      try simp
      refine c_rowdue (L := L + 3) (ab6.fr F7) ((F36.trans F7).at e3) (ia.fr (F36.trans F7)) ht (by rw [hml]; omega) fun h8 F8 => ?_
      simp
      rw [hJ]
      exact ⟨⟨_, rfl⟩, fun v hv' => hv v (List.mem_cons_of_mem _ hv'), F6.trans (F7.trans F8)⟩
    · rintro _ h6 z
      rw [hJ] at z
      obtain ⟨⟨s7, rfl⟩, hv, F6⟩ := z
      have F36 := F35.trans F6
      simp
      rw [sat_reprR (isR _ F36) okR (by decide) (by decide)]
      simp
      exact Z _ ((B3.fr F36).up (by omega)) (F3.fr F36)
    · rw [hJ]
      exact ⟨⟨_, rfl⟩, by simp, Fr.refl _⟩
  · rw [hI]
    exact ⟨q, _, _, _, _, rfl, rw2, by omega, by omega, B2.up (by omega), (F1.fx F2)⟩
end
end Mi


namespace Mi
open PySem (Str PyData)
theorem ix_m1 {g : G} {h : Heap} {p : Nat} {ps : List Val} (e : h[p]? = some (.lst ps)) (hl : 0 < ps.length) : idxV g (.ref p) (.int (-1)) h = .ok ps[ps.length - 1] h := by
  rw [ix_lst e]
  unfold lstAt L2.atI L2.ixN
  rw [if_neg (by decide), if_pos (by omega)]
  have h1 : ((-1 : Int) + (ps.length : Int)).toNat = ps.length - 1 := by omega
  simp only [h1, Option.bind_some, List.getElem?_eq_getElem (show ps.length - 1 < ps.length by omega)]
theorem to_due {d e : PyData} (h : ocD d ≠ none) : toD d e = dueD d := by
  unfold toD dueD
  cases c : ocD d with
  | none => exact absurd c h
  | some wf => rfl
theorem to_due2 {d e : PyData} (h : ocD d = none) (h' : ocD e ≠ none) : toD d e = dueD e := by
  unfold toD dueD
  rw [h]
  cases c : ocD e with
  | none => exact absurd c h'
  | some wf => rfl
theorem big_yes {prs : List VP} (hg : ∀ r ∈ prs, IsGV r.2) (hn : (prs.map fun r => nmD r.2).Nodup) : rowOk ((sortP prs).map (·.2)) = true := by
  have hp := sortP_perm prs
  rw [row_yes, srt_chn (sortP_srt hg hn)]
  · intro d hd
    obtain ⟨r, hr, rfl⟩ := List.mem_map.mp hd
    obtain ⟨a, ps, s, w, g⟩ := hg r (hp.mem_iff.mp hr)
    exact g.oc
  · rw [List.map_map]
    exact ((hp.map fun r => nmD r.2).nodup_iff).mpr hn
theorem big_no {f : List VP} (hs : Srt f) {k : Nat} (hk : k + 1 < f.length) : rowOk ((f.take k ++ ((f.drop k).take 2).reverse ++ f.drop (k + 2)).map (·.2)) = false := by
  have hc : chn ((f.take k ++ ((f.drop k).take 2).reverse ++ f.drop (k + 2)).map (·.2)) = false := by
    cases c : chn ((f.take k ++ ((f.drop k).take 2).reverse ++ f.drop (k + 2)).map (·.2)) with
    | false => rfl
    | true =>
      exfalso
      have hd : f.drop k = f[k] :: f[k + 1] :: f.drop (k + 2) := by
        rw [List.drop_eq_getElem_cons (by omega), List.drop_eq_getElem_cons (by omega)]
      have h2 : ((f.drop k).take 2).reverse = [f[k + 1], f[k]] := by rw [hd]; rfl
      rw [h2] at c
      have hlk : (f.take k).length = k := by rw [List.length_take]; omega
      have := chn_iff.mp c k (by simp; omega)
      have e1 : ((f.take k ++ [f[k + 1], f[k]] ++ f.drop (k + 2)).map (·.2)).getD k .none = f[k + 1].2 := by
        rw [List.map_append, List.map_append, List.append_assoc]
        simp only [List.getD]
        rw [List.getElem?_append_right (by rw [List.length_map, hlk]; omega), List.length_map, hlk, Nat.sub_self]
        rfl
      have e2 : ((f.take k ++ [f[k + 1], f[k]] ++ f.drop (k + 2)).map (·.2)).getD (k + 1) .none = f[k].2 := by
        rw [List.map_append, List.map_append, List.append_assoc]
        simp only [List.getD]
        rw [List.getElem?_append_right (by rw [List.length_map, hlk]; omega), List.length_map, hlk, show k + 1 - k = 1 by omega]
        rfl
      rw [e1, e2] at this
      have h3 : aheadD f[k].2 f[k + 1].2 = true := (List.pairwise_iff_getElem.mp hs) k (k + 1) (by omega) hk (by omega)
      rw [ah_asym h3] at this
      cases this
  unfold rowOk
  rw [hc, Bool.and_false, Bool.and_false]
def inS : Sts → Sts
  | .cons (.frr _ _ _ b) _ => b
  | s => s
section
variable {S : List Int} {L : Nat} {n c : Nat} {h : Heap} {Q : RQ Val} {E : RE}
theorem law_tail {ns : List Int} {p k : Nat} {prs : List VP} {s4 s5 s6 s7 s8 s9 s10 : Option Val} {Qf : RQ Fl} (B : Bx n c h) (hc : c < 10000000) (e : h[p]? = some (.lst (prs.map (·.1)))) (hpn : p ≠ n) (hq : ∀ r ∈ prs, Is [n] h r.2 r.1) (hg : ∀ r ∈ prs, IsGV r.2) (hl : prs.length ≤ 8) (hl2 : 2 ≤ prs.length)
    (Z : ∀ s4 s5 s6 s7 s8 s9 s10 h', Qf (.nx [some .scr, some (.int (k : Int)), some (.ref n), some (.ref p), s4, s5, s6, s7, s8, s9, s10]) h') :
    (exes ⟨calls D gl ns 11, gl, ns, none⟩ (dropS 3 (inS b44)) [some .scr, some (.int (k : Int)), some (.ref n), some (.ref p), s4, s5, s6, s7, s8, s9, s10] h).sat Qf nox := by
  unfold b44 inS dropS dropS dropS dropS
  have n0 := B.lt
  have hml : (prs.map (·.1)).length = prs.length := List.length_map _
  have ab : ∀ {h' : Heap}, h.length ≤ h'.length → Ab [n] h' := fun le m hm => by simp at hm; omega
  have m0 : prs[0] ∈ prs := List.getElem_mem _
  have m1 : prs[1] ∈ prs := List.getElem_mem _
  have ml : prs[prs.length - 1] ∈ prs := List.getElem_mem _
  obtain ⟨a0, ps0, s0, w0, g0⟩ := hg _ m0
  obtain ⟨a1, ps1, s1, w1, g1⟩ := hg _ m1
  obtain ⟨al, psl, sl, wl, gl'⟩ := hg _ ml
  simp
  rw [ix_at (i := 0) (j := 0) e (by simp) (by rw [hml]; omega), List.getElem_map]
  simp
  refine c_bad (L := 9) (ab (Nat.le_refl _)) (by simp) B (by omega) (hq _ m0) g0 fun d1 v1 h1 t1 o1 i1 B1 F1 => ?_
  have e1 := F1.at e hpn
  rw [ix_m1 e1 (by rw [hml]; omega)]
  simp
  refine c_bad (L := 9) (ab F1.len) (by simp) B1 (by omega) (by simpa [hml] using (hq _ ml).fx F1) gl' fun d2 v2 h2 t2 o2 i2 B2 F2 => ?_
  have i12 := i1.fx F2
  have F02 := F1.trans F2
  simp [setP, setAll]
  have i0 : ∀ {h' : Heap}, Fx1 n h h' → ∀ r ∈ prs, Is [n] h' r.2 r.1 := fun F r hr => (hq r hr).fx F
  have e2 := F02.at e hpn
  have hia : IsAll [n] h2 (prs.map (·.2)) (prs.map (·.1)) := isall_vp (i0 F02)
  refine c_pairs (L := 2) (ab F02.len) e2 hia (fun d hd => by obtain ⟨r, hr, rfl⟩ := List.mem_map.mp hd; exact hg r hr) fun h3 F3 => ?_
  simp
  have F03 := F02.fr F3
  refine c_rowright (L := 3) (B2.fr F3) (by omega) (F3.at e2) hpn (i0 F03) hg hl (by omega) fun h4 B4 F4 => ?_
  simp
  have F04 := F03.trans F4
  refine sat_new fun q5 h5 e5 el5 l5 F5 => ?_
  refine c_inorder (L := 4) (X := [n]) (xs := []) (ds := []) (sv_lst e5) isall_nil (by simp) (by simp) fun h6 F6 => ?_
  have hro : rowOk [] = true := by decide
  rw [hro]
  simp
  have F06 := F04.fr (F5.trans F6)
  have F26 := (F4.fr (F5.trans F6))
  have j1 : Is [n] h6 d1 v1 := (i12.fr F3).fx F26
  have j2 : Is [n] h6 d2 v2 := (i2.fr F3).fx F26
  have e6 := F06.at e hpn
  have x0 : ∀ (g : G) (h' : Heap), Fr h6 h' → idxV g (.ref p) (.int 0) h' = .ok prs[0].1 h' := fun g h' F => by
    rw [ix_at (i := 0) (j := 0) (F.at e6) (by simp) (by rw [hml]; omega), List.getElem_map]
  have x1 : ∀ (g : G) (h' : Heap), Fr h6 h' → idxV g (.ref p) (.int 1) h' = .ok prs[1].1 h' := fun g h' F => by
    rw [ix_at (i := 1) (j := 1) (F.at e6) (by simp) (by rw [hml]; omega), List.getElem_map]
  rw [x0 _ _ (Fr.refl _)]
  simp
  refine sat_new fun u1 h7 f1 fl1 m1' F7 => ?_
  refine sat_new fun u2 h8 f2 fl2 m2' F8 => ?_
  refine sat_new fun u3 h9 f3 fl3 m3' F9 => ?_
  have F69 := F7.trans (F8.trans F9)
  have f19 := F9.at (F8.at f1)
  have f29 := F9.at f2
  rw [srcR_lst f3, sat_ok]
  dsimp only
  obtain ⟨J, hJ⟩ : ∃ J : List Val → Sl → Heap → Prop, J = fun r σ h' => (∃ s9 s10, σ = [some .scr, some (.int (k : Int)), some (.ref n), some (.ref p), s4, s5, s6, some v1, some v2, s9, s10]) ∧ (∀ v ∈ r, v = .ref u1 ∨ v = .ref u2) ∧ Fr h9 h' := ⟨_, rfl⟩
  have l06 := F06.len
  refine loopF_each (k := fun v => v) (xs := [.ref u1, .ref u2]) J ?_ ?_ ?_ ?_
  · rintro r σ h' z
    rw [hJ] at z
    exact ok_lst _ _ rfl (z.2.2.at f3)
  · rintro v r _ ha z
    rw [hJ] at z
    obtain ⟨⟨s9, s10, rfl⟩, hv, Fa⟩ := z
    have F6a := F69.trans Fa
    have la := F6a.len
    obtain ⟨t, d, w, rfl, et, jd, td⟩ : ∃ (t : Nat) (d : PyData) (w : Val), v = .ref t ∧ ha[t]? = some (.tup [v1, w]) ∧ Is [n] ha d w ∧ ThO d := by
      rcases hv v List.mem_cons_self with rfl | rfl
      · exact ⟨u1, _, _, rfl, Fa.at f19, (i0 (F06.fr F6a)) _ m0, g0.tho⟩
      · exact ⟨u2, _, _, rfl, Fa.at f29, j2.fr F6a, t2⟩
    refine ⟨_, tg_pair et, ?_⟩
    simp
    refine c_told (L := 3) (ab (by omega)) (j1.fr F6a) jd t1.t td.t fun w1 hb ib Fb => ?_
    rw [to_due o1] at ib
    rw [sat_reprR ib (due_okr t1) (by decide) (by decide)]
    simp
    have lb := Fb.len
    refine c_due (L := 10) (ab (by omega)) (j1.fr (F6a.trans Fb)) t1.t fun w2 hc' ic Fc => ?_
    try simp
    rw [sat_reprR ic (due_okr t1) (by decide) (by decide)]
    simp
    rw [hJ]
    exact ⟨⟨_, _, rfl⟩, fun v hv' => hv v (List.mem_cons_of_mem _ hv'), Fa.trans (Fb.trans Fc)⟩
  · rintro _ ha z
    rw [hJ] at z
    obtain ⟨⟨s9, s10, rfl⟩, hv, Fa⟩ := z
    have F6a := F69.trans Fa
    have la := F6a.len
    simp
    rw [x1 _ _ F6a]
    simp
    refine c_told (L := 3) (ab (by omega)) ((i0 (F06.fr F6a)) _ m1) (j2.fr F6a) g1.th t2.t fun w1 hb ib Fb => ?_
    rw [to_due2 g1.oc o2] at ib
    rw [sat_reprR ib (due_okr t2) (by decide) (by decide)]
    simp
    have lb := Fb.len
    refine c_due (L := 10) (ab (by omega)) (j2.fr (F6a.trans Fb)) t2.t fun w2 hc' ic Fc => ?_
    try simp
    rw [sat_reprR ic (due_okr t2) (by decide) (by decide)]
    simp
    exact Z _ _ _ _ _ _ _ _
  · rw [hJ]
    exact ⟨⟨_, _, rfl⟩, by simp, Fr.refl _⟩
theorem law_ok (ns : List Int) (hn : ns.length ≤ 63) : ∃ h', mOf D gl ns 12 d44 [.scr] [] = .ok (.bl true) h' := by
  refine law_of ?_
  show (runDef ⟨calls D gl ns 11, gl, ns, none⟩ d44 [.scr] []).sat _ _
  unfold runDef startV d44 b44
  simp
  refine ⟨by omega, ?_⟩
  refine loopF_rng (fun _ σ h => ∃ s1 s2 s3 s4 s5 s6 s7 s8 s9 s10, σ = [some .scr, s1, s2, s3, s4, s5, s6, s7, s8, s9, s10]) rfl ?_ ?_ ⟨_, _, _, _, _, _, _, _, _, _, rfl⟩
  · rintro k _ h hk ⟨s1, s2, s3, s4, s5, s6, s7, s8, s9, s10, rfl⟩
    refine ⟨_, rfl, ?_⟩
    simp
    refine c_cell (L := 10) (by omega) (by omega) fun c => ?_
    refine c_box (L := 10) fun n h1 el1 B1 F1 l1 => ?_
    try simp
    refine c_take (L := 10) B1 (by omega) (by decide) fun y2 h2 y20 y21 B2 F2 l2 => ?_
    try simp
    refine c_drawn (L := 5) (many := 2 + y2) (by omega) (by omega) B2 (by omega) fun p xs ds h3 e3 ia3 hg3 hl3 hn3 hp3 B3 F3 => ?_
    obtain ⟨prs, rfl, rfl, hq3⟩ := isall_prs ia3
    have hg : ∀ r ∈ prs, IsGV r.2 := fun r hr => hg3 _ (List.mem_map_of_mem hr)
    rw [List.length_map] at hl3
    have n2 := B2.lt
    have hpn : p ≠ n := by omega
    try simp
    refine c_take (L := 10) B3 (by omega) (by decide) fun y4 h4 y40 y41 B4 F4 l4 => ?_
    try simp
    have e4 := F4.at e3 hpn
    have hq4 : ∀ r ∈ prs, Is [n] h4 r.2 r.1 := fun r hr => (hq3 r hr).fx F4
    have tl : ∀ {m : Nat} {h5 : Heap}, Fx1 n h4 h5 → Bx n m h5 → m < 10000000 → h5[p]? = some (.lst (prs.map (·.1))) ∧ (∀ r ∈ prs, Is [n] h5 r.2 r.1) := fun F _ _ => ⟨F.at e4 hpn, fun r hr => (hq4 r hr).fx F⟩
    have n3 := B3.lt
    by_cases c4 : y4 = 0
    · by_cases ck : k = 0
      · subst ck
        simp [c4]
        refine c_drawn (L := 5) (many := 100) (by decide) (by decide) B4 (by omega) fun p5 xs5 ds5 h5 e5 ia5 hg5 hl5 hn5 hp5 B5 F5 => ?_
        obtain ⟨pr5, rfl, rfl, hq5⟩ := isall_prs ia5
        have hgb : ∀ r ∈ pr5, IsGV r.2 := fun r hr => hg5 _ (List.mem_map_of_mem hr)
        rw [List.length_map] at hl5
        have hl100 : pr5.length = 100 := by omega
        rw [List.map_map] at hn5
        have hnb : (pr5.map fun r => nmD r.2).Nodup := hn5
        try simp
        refine c_sorted (L := 7) e5 hq5 hgb (by omega) fun q h6 e6 hq6 F6 => ?_
        have hsp := sortP_perm pr5
        have hsl : (sortP pr5).length = 100 := by rw [hsp.length_eq, hl100]
        have hsrt := sortP_srt hgb hnb
        have hml : ((sortP pr5).map (·.1)).length = 100 := by rw [List.length_map, hsl]
        try simp
        have n5 := B5.lt
        refine c_take (L := 10) (B5.fr F6) (by omega) (by decide) fun at_ h7 a0 a1 B7 F7 l7 => ?_
        obtain ⟨at_, rfl⟩ := Int.eq_ofNat_of_zero_le a0
        have l56 := F6.len
        have e7 := F7.at e6 (by omega)
        simp
        rw [slc_take e7]
        refine sat_new fun q8 h8 e8 el8 l8 F8 => ?_
        rw [show ((at_ : Int) + 2) = ((at_ + 2 : Nat) : Int) by omega, slc_mid (F8.at e7) (by omega), hml, show min (at_ + 2) 100 - at_ = 2 by omega]
        refine sat_new fun q9 h9 e9 el9 l9 F9 => ?_
        rw [rev_lst e9]
        refine sat_new fun q10 h10 e10 el10 l10 F10 => ?_
        rw [add_lst ((F9.trans F10).at e8) e10, if_pos (by simp; omega)]
        refine sat_new fun q11 h11 e11 el11 l11 F11 => ?_
        have F711 := F8.trans (F9.trans (F10.trans F11))
        rw [slc_from (F711.at e7)]
        refine sat_new fun q12 h12 e12 el12 l12 F12 => ?_
        rw [add_lst (F12.at e11) e12, if_pos (by simp; omega)]
        refine sat_new fun q13 h13 e13 el13 l13 F13 => ?_
        have F713 := F711.trans (F12.trans F13)
        have ebent : h13[q13]? = some (.lst (((sortP pr5).take at_ ++ (((sortP pr5).drop at_).take 2).reverse ++ (sortP pr5).drop (at_ + 2)).map (·.1))) := by
          rw [e13]
          simp only [List.map_append, List.map_take, List.map_drop, List.map_reverse]
        have it13 : ∀ r ∈ pr5, Is [n] h13 r.2 r.1 := fun r hr => (((hq5 r hr).fr F6).fx F7).fr F713
        have thn : ∀ r ∈ pr5, Thn r.2 := fun r hr => by
          obtain ⟨a, ps, s, w, g⟩ := hgb r hr
          exact g.th
        have ms : ∀ r ∈ sortP pr5, r ∈ pr5 := fun r hr => hsp.mem_iff.mp hr
        have mb : ∀ r ∈ (sortP pr5).take at_ ++ (((sortP pr5).drop at_).take 2).reverse ++ (sortP pr5).drop (at_ + 2), r ∈ pr5 := fun r hr => by
          rcases List.mem_append.mp hr with hr | hr
          · rcases List.mem_append.mp hr with hr | hr
            · exact ms r (List.mem_of_mem_take hr)
            · exact ms r (List.mem_of_mem_drop (List.mem_of_mem_take (List.mem_reverse.mp hr)))
          · exact ms r (List.mem_of_mem_drop hr)
        try simp
        refine c_inorder (L := 4) (X := [n]) (ds := (sortP pr5).map (·.2)) (sv_lst (F713.at e7)) (isall_vp fun r hr => it13 r (ms r hr)) (fun d hd => by obtain ⟨r, hr, rfl⟩ := List.mem_map.mp hd; exact thn r (ms r hr)) (by rw [List.length_map]; omega) fun h14 F14 => ?_
        rw [big_yes hgb hnb]
        simp
        have ebent14 := F14.at ebent
        have hno := big_no hsrt (k := at_) (by omega)
        have hbl : ((sortP pr5).take at_ ++ (((sortP pr5).drop at_).take 2).reverse ++ (sortP pr5).drop (at_ + 2)).length ≤ 200 := by simp; omega
        generalize (sortP pr5).take at_ ++ (((sortP pr5).drop at_).take 2).reverse ++ (sortP pr5).drop (at_ + 2) = bent at *
        refine lst_tuple ebent14 fun pt h15 e15 el15 l15 F15 => ?_
        try simp
        have F1315 := F14.trans F15
        refine c_inorder (L := 4) (X := [n]) (ds := bent.map (·.2)) (sv_tup e15) (isall_vp fun r hr => (it13 r (mb r hr)).fr F1315) (fun d hd => by obtain ⟨r, hr, rfl⟩ := List.mem_map.mp hd; exact thn r (mb r hr)) (by rw [List.length_map]; omega) fun h16 F16 => ?_
        rw [hno]
        simp [-exes_cons]
        have F416 : Fx1 n h4 h16 := ((F5.fr F6).trans F7).fr (F713.trans (F1315.trans F16))
        have B16 := B7.fr (F713.trans (F1315.trans F16))
        obtain ⟨x1, x2⟩ := tl F416 B16 (by omega)
        exact law_tail (k := 0) B16 (by omega) x1 hpn x2 hg (by omega) (by omega) fun _ _ _ _ _ _ _ _ => ⟨_, _, _, _, _, _, _, _, _, _, rfl⟩
      · simp [c4, ck, -exes_cons]
        exact law_tail (k := k) B4 (by omega) e4 hpn hq4 hg (by omega) (by omega) fun _ _ _ _ _ _ _ _ => ⟨_, _, _, _, _, _, _, _, _, _, rfl⟩
    · simp [c4, -exes_cons]
      exact law_tail (k := k) B4 (by omega) e4 hpn hq4 hg (by omega) (by omega) fun _ _ _ _ _ _ _ _ => ⟨_, _, _, _, _, _, _, _, _, _, rfl⟩
  · rintro σ h ⟨s1, s2, s3, s4, s5, s6, s7, s8, s9, s10, rfl⟩
    simp
end
end Mi


namespace Mi
open PySem PySem.Spec PyProof.Rows L2
theorem lw_mk {P : Program} {w : World} {K : PySem.W.Frag} {h : PySem.Heap} {mg : Str → Option Value} {fa : Addr} (X : K.In h) (G : h.Ns mainGlobals mg) (hfa : mg "law" = some (.ref fa))
    {f0 : Addr} {oc0 kV0 doc0 pm0 cd0 ct0 : Value} {od0 an0 : Option Addr} {sl0 : Array (Option Value)}
    {f1 : Addr} {oc1 kV1 doc1 pm1 cd1 ct1 : Value} {od1 an1 : Option Addr} {sl1 : Array (Option Value)}
    {f2 : Addr} {oc2 kV2 doc2 pm2 cd2 ct2 : Value} {od2 an2 : Option Addr} {sl2 : Array (Option Value)}
    {f3 : Addr} {oc3 kV3 doc3 pm3 cd3 ct3 : Value} {od3 an3 : Option Addr} {sl3 : Array (Option Value)}
    {f4 : Addr} {oc4 kV4 doc4 pm4 cd4 ct4 : Value} {od4 an4 : Option Addr} {sl4 : Array (Option Value)}
    {f5 : Addr} {oc5 kV5 doc5 pm5 cd5 ct5 : Value} {od5 an5 : Option Addr} {sl5 : Array (Option Value)}
    {f6 : Addr} {oc6 kV6 doc6 pm6 cd6 ct6 : Value} {od6 an6 : Option Addr} {sl6 : Array (Option Value)}
    {f7 : Addr} {oc7 kV7 doc7 pm7 cd7 ct7 : Value} {od7 an7 : Option Addr} {sl7 : Array (Option Value)}
    {f8 : Addr} {oc8 kV8 doc8 pm8 cd8 ct8 : Value} {od8 an8 : Option Addr} {sl8 : Array (Option Value)}
    {f9 : Addr} {oc9 kV9 doc9 pm9 cd9 ct9 : Value} {od9 an9 : Option Addr} {sl9 : Array (Option Value)}
    {f10 : Addr} {oc10 kV10 doc10 pm10 cd10 ct10 : Value} {od10 an10 : Option Addr} {sl10 : Array (Option Value)}
    {f11 : Addr} {oc11 kV11 doc11 pm11 cd11 ct11 : Value} {od11 an11 : Option Addr} {sl11 : Array (Option Value)}
    {f12 : Addr} {oc12 kV12 doc12 pm12 cd12 ct12 : Value} {od12 an12 : Option Addr} {sl12 : Array (Option Value)}
    {f13 : Addr} {oc13 kV13 doc13 pm13 cd13 ct13 : Value} {od13 an13 : Option Addr} {sl13 : Array (Option Value)}
    {f14 : Addr} {oc14 kV14 doc14 pm14 cd14 ct14 : Value} {od14 an14 : Option Addr} {sl14 : Array (Option Value)}
    {f15 : Addr} {oc15 kV15 doc15 pm15 cd15 ct15 : Value} {od15 an15 : Option Addr} {sl15 : Array (Option Value)}
    {f16 : Addr} {oc16 kV16 doc16 pm16 cd16 ct16 : Value} {od16 an16 : Option Addr} {sl16 : Array (Option Value)}
    {f17 : Addr} {oc17 kV17 doc17 pm17 cd17 ct17 : Value} {od17 an17 : Option Addr} {sl17 : Array (Option Value)}
    {f18 : Addr} {oc18 kV18 doc18 pm18 cd18 ct18 : Value} {od18 an18 : Option Addr} {sl18 : Array (Option Value)}
    {f19 : Addr} {oc19 kV19 doc19 pm19 cd19 ct19 : Value} {od19 an19 : Option Addr} {sl19 : Array (Option Value)}
    {f20 : Addr} {oc20 kV20 doc20 pm20 cd20 ct20 : Value} {od20 an20 : Option Addr} {sl20 : Array (Option Value)}
    {f21 : Addr} {oc21 kV21 doc21 pm21 cd21 ct21 : Value} {od21 an21 : Option Addr} {sl21 : Array (Option Value)}
    {f22 : Addr} {oc22 kV22 doc22 pm22 cd22 ct22 : Value} {od22 an22 : Option Addr} {sl22 : Array (Option Value)}
    {f23 : Addr} {oc23 kV23 doc23 pm23 cd23 ct23 : Value} {od23 an23 : Option Addr} {sl23 : Array (Option Value)}
    {f24 : Addr} {oc24 kV24 doc24 pm24 cd24 ct24 : Value} {od24 an24 : Option Addr} {sl24 : Array (Option Value)}
    {f25 : Addr} {oc25 kV25 doc25 pm25 cd25 ct25 : Value} {od25 an25 : Option Addr} {sl25 : Array (Option Value)}
    {f26 : Addr} {oc26 kV26 doc26 pm26 cd26 ct26 : Value} {od26 an26 : Option Addr} {sl26 : Array (Option Value)}
    {f27 : Addr} {oc27 kV27 doc27 pm27 cd27 ct27 : Value} {od27 an27 : Option Addr} {sl27 : Array (Option Value)}
    {f28 : Addr} {oc28 kV28 doc28 pm28 cd28 ct28 : Value} {od28 an28 : Option Addr} {sl28 : Array (Option Value)}
    {f29 : Addr} {oc29 kV29 doc29 pm29 cd29 ct29 : Value} {od29 an29 : Option Addr} {sl29 : Array (Option Value)}
    {f30 : Addr} {oc30 kV30 doc30 pm30 cd30 ct30 : Value} {od30 an30 : Option Addr} {sl30 : Array (Option Value)}
    {f31 : Addr} {oc31 kV31 doc31 pm31 cd31 ct31 : Value} {od31 an31 : Option Addr} {sl31 : Array (Option Value)}
    {f32 : Addr} {oc32 kV32 doc32 pm32 cd32 ct32 : Value} {od32 an32 : Option Addr} {sl32 : Array (Option Value)}
    {f33 : Addr} {oc33 kV33 doc33 pm33 cd33 ct33 : Value} {od33 an33 : Option Addr} {sl33 : Array (Option Value)}
    {f34 : Addr} {oc34 kV34 doc34 pm34 cd34 ct34 : Value} {od34 an34 : Option Addr} {sl34 : Array (Option Value)}
    {f35 : Addr} {oc35 kV35 doc35 pm35 cd35 ct35 : Value} {od35 an35 : Option Addr} {sl35 : Array (Option Value)}
    {f36 : Addr} {oc36 kV36 doc36 pm36 cd36 ct36 : Value} {od36 an36 : Option Addr} {sl36 : Array (Option Value)}
    {f37 : Addr} {oc37 kV37 doc37 pm37 cd37 ct37 : Value} {od37 an37 : Option Addr} {sl37 : Array (Option Value)}
    {f38 : Addr} {oc38 kV38 doc38 pm38 cd38 ct38 : Value} {od38 an38 : Option Addr} {sl38 : Array (Option Value)}
    {f39 : Addr} {oc39 kV39 doc39 pm39 cd39 ct39 : Value} {od39 an39 : Option Addr} {sl39 : Array (Option Value)}
    {f40 : Addr} {oc40 kV40 doc40 pm40 cd40 ct40 : Value} {od40 an40 : Option Addr} {sl40 : Array (Option Value)}
    {f41 : Addr} {oc41 kV41 doc41 pm41 cd41 ct41 : Value} {od41 an41 : Option Addr} {sl41 : Array (Option Value)}
    {f42 : Addr} {oc42 kV42 doc42 pm42 cd42 ct42 : Value} {od42 an42 : Option Addr} {sl42 : Array (Option Value)}
    {f43 : Addr} {oc43 kV43 doc43 pm43 cd43 ct43 : Value} {od43 an43 : Option Addr} {sl43 : Array (Option Value)}
    {f44 : Addr} {oc44 kV44 doc44 pm44 cd44 ct44 : Value} {od44 an44 : Option Addr} {sl44 : Array (Option Value)}
    {tk_FIGURES : Tok}
    {tk_LETTERS : Tok}
    {tk_MOST_LETTERS : Tok}
    {tk_MOST_NUMBER : Tok}
    {tk_MOST_PARTS : Tok}
    {tk_MOST_SIGNS : Tok}
    {tk_MOST_SIZE : Tok}
    {tk_MOST_WIDTH : Tok}
    {CR fR : Addr} {odR anR : Option Addr} {slR : Array (Option Value)} {ocR dcR pmR cdR ctR kwR : Value}
    {C_NoMark fI_NoMark N_NoMark : Addr} {nm_NoMark q_NoMark : Str} {bs_NoMark : List Value} {sn_NoMark : List Str} {sub_NoMark : List Value} {ab_NoMark : Bool} {col_NoMark : Option Bool} {dd_NoMark : Option Addr} {m0_NoMark m1_NoMark m2_NoMark m3_NoMark m5_NoMark : Option Value} {od_NoMark an_NoMark : Option Addr} {sl_NoMark : Array (Option Value)} {oc_NoMark dc_NoMark pm_NoMark cd_NoMark ct_NoMark kw_NoMark : Value}
    {C_NoName fI_NoName N_NoName : Addr} {nm_NoName q_NoName : Str} {bs_NoName : List Value} {sn_NoName : List Str} {sub_NoName : List Value} {ab_NoName : Bool} {col_NoName : Option Bool} {dd_NoName : Option Addr} {m0_NoName m1_NoName m2_NoName m3_NoName m5_NoName : Option Value} {od_NoName an_NoName : Option Addr} {sl_NoName : Array (Option Value)} {oc_NoName dc_NoName pm_NoName cd_NoName ct_NoName kw_NoName : Value}
    {C_NoNumber fI_NoNumber N_NoNumber : Addr} {nm_NoNumber q_NoNumber : Str} {bs_NoNumber : List Value} {sn_NoNumber : List Str} {sub_NoNumber : List Value} {ab_NoNumber : Bool} {col_NoNumber : Option Bool} {dd_NoNumber : Option Addr} {m0_NoNumber m1_NoNumber m2_NoNumber m3_NoNumber m5_NoNumber : Option Value} {od_NoNumber an_NoNumber : Option Addr} {sl_NoNumber : Array (Option Value)} {oc_NoNumber dc_NoNumber pm_NoNumber cd_NoNumber ct_NoNumber kw_NoNumber : Value}
    {C_NoVolume fI_NoVolume N_NoVolume : Addr} {nm_NoVolume q_NoVolume : Str} {bs_NoVolume : List Value} {sn_NoVolume : List Str} {sub_NoVolume : List Value} {ab_NoVolume : Bool} {col_NoVolume : Option Bool} {dd_NoVolume : Option Addr} {m0_NoVolume m1_NoVolume m2_NoVolume m3_NoVolume m5_NoVolume : Option Value} {od_NoVolume an_NoVolume : Option Addr} {sl_NoVolume : Array (Option Value)} {oc_NoVolume dc_NoVolume pm_NoVolume cd_NoVolume ct_NoVolume kw_NoVolume : Value}
    (a0 : PySem.W.nsIn K mainGlobals "is_whole" = some (some (.ref f0))) (l0 : K.lookup f0 = some ⟨oc0, od0, .func (PySem.W.fnOf "is_whole" "is_whole" (defArgs s0) (defBody s0) (defScope s0) .none kV0 doc0 pm0 an0 cd0 ct0), sl0⟩) (c0 : PySem.W.codeIn K cd0 "is_whole" = true) (k0 : PySem.W.keepIn K (.ref f0) = true)
    (a1 : PySem.W.nsIn K mainGlobals "is_letters" = some (some (.ref f1))) (l1 : K.lookup f1 = some ⟨oc1, od1, .func (PySem.W.fnOf "is_letters" "is_letters" (defArgs s1) (defBody s1) (defScope s1) .none kV1 doc1 pm1 an1 cd1 ct1), sl1⟩) (c1 : PySem.W.codeIn K cd1 "is_letters" = true) (k1 : PySem.W.keepIn K (.ref f1) = true)
    (a2 : PySem.W.nsIn K mainGlobals "is_name" = some (some (.ref f2))) (l2 : K.lookup f2 = some ⟨oc2, od2, .func (PySem.W.fnOf "is_name" "is_name" (defArgs s2) (defBody s2) (defScope s2) .none kV2 doc2 pm2 an2 cd2 ct2), sl2⟩) (c2 : PySem.W.codeIn K cd2 "is_name" = true) (k2 : PySem.W.keepIn K (.ref f2) = true)
    (a3 : PySem.W.nsIn K mainGlobals "whole_in" = some (some (.ref f3))) (l3 : K.lookup f3 = some ⟨oc3, od3, .func (PySem.W.fnOf "whole_in" "whole_in" (defArgs s3) (defBody s3) (defScope s3) .none kV3 doc3 pm3 an3 cd3 ct3), sl3⟩) (c3 : PySem.W.codeIn K cd3 "whole_in" = true) (k3 : PySem.W.keepIn K (.ref f3) = true)
    (a4 : PySem.W.nsIn K mainGlobals "part_in" = some (some (.ref f4))) (l4 : K.lookup f4 = some ⟨oc4, od4, .func (PySem.W.fnOf "part_in" "part_in" (defArgs s4) (defBody s4) (defScope s4) .none kV4 doc4 pm4 an4 cd4 ct4), sl4⟩) (c4 : PySem.W.codeIn K cd4 "part_in" = true) (k4 : PySem.W.keepIn K (.ref f4) = true)
    (a5 : PySem.W.nsIn K mainGlobals "parts_in" = some (some (.ref f5))) (l5 : K.lookup f5 = some ⟨oc5, od5, .func (PySem.W.fnOf "parts_in" "parts_in" (defArgs s5) (defBody s5) (defScope s5) .none kV5 doc5 pm5 an5 cd5 ct5), sl5⟩) (c5 : PySem.W.codeIn K cd5 "parts_in" = true) (k5 : PySem.W.keepIn K (.ref f5) = true)
    (a6 : PySem.W.nsIn K mainGlobals "is_mark" = some (some (.ref f6))) (l6 : K.lookup f6 = some ⟨oc6, od6, .func (PySem.W.fnOf "is_mark" "is_mark" (defArgs s6) (defBody s6) (defScope s6) .none kV6 doc6 pm6 an6 cd6 ct6), sl6⟩) (c6 : PySem.W.codeIn K cd6 "is_mark" = true) (k6 : PySem.W.keepIn K (.ref f6) = true)
    (a7 : PySem.W.nsIn K mainGlobals "mark_parts" = some (some (.ref f7))) (l7 : K.lookup f7 = some ⟨oc7, od7, .func (PySem.W.fnOf "mark_parts" "mark_parts" (defArgs s7) (defBody s7) (defScope s7) .none kV7 doc7 pm7 an7 cd7 ct7), sl7⟩) (c7 : PySem.W.codeIn K cd7 "mark_parts" = true) (k7 : PySem.W.keepIn K (.ref f7) = true)
    (a8 : PySem.W.nsIn K mainGlobals "part_rank" = some (some (.ref f8))) (l8 : K.lookup f8 = some ⟨oc8, od8, .func (PySem.W.fnOf "part_rank" "part_rank" (defArgs s8) (defBody s8) (defScope s8) .none kV8 doc8 pm8 an8 cd8 ct8), sl8⟩) (c8 : PySem.W.codeIn K cd8 "part_rank" = true) (k8 : PySem.W.keepIn K (.ref f8) = true)
    (a9 : PySem.W.nsIn K mainGlobals "mark_rank" = some (some (.ref f9))) (l9 : K.lookup f9 = some ⟨oc9, od9, .func (PySem.W.fnOf "mark_rank" "mark_rank" (defArgs s9) (defBody s9) (defScope s9) .none kV9 doc9 pm9 an9 cd9 ct9), sl9⟩) (c9 : PySem.W.codeIn K cd9 "mark_rank" = true) (k9 : PySem.W.keepIn K (.ref f9) = true)
    (a10 : PySem.W.nsIn K mainGlobals "is_size" = some (some (.ref f10))) (l10 : K.lookup f10 = some ⟨oc10, od10, .func (PySem.W.fnOf "is_size" "is_size" (defArgs s10) (defBody s10) (defScope s10) .none kV10 doc10 pm10 an10 cd10 ct10), sl10⟩) (c10 : PySem.W.codeIn K cd10 "is_size" = true) (k10 : PySem.W.keepIn K (.ref f10) = true)
    (a11 : PySem.W.nsIn K mainGlobals "is_width" = some (some (.ref f11))) (l11 : K.lookup f11 = some ⟨oc11, od11, .func (PySem.W.fnOf "is_width" "is_width" (defArgs s11) (defBody s11) (defScope s11) .none kV11 doc11 pm11 an11 cd11 ct11), sl11⟩) (c11 : PySem.W.codeIn K cd11 "is_width" = true) (k11 : PySem.W.keepIn K (.ref f11) = true)
    (a12 : PySem.W.nsIn K mainGlobals "need_name" = some (some (.ref f12))) (l12 : K.lookup f12 = some ⟨oc12, od12, .func (PySem.W.fnOf "need_name" "need_name" (defArgs s12) (defBody s12) (defScope s12) .none kV12 doc12 pm12 an12 cd12 ct12), sl12⟩) (c12 : PySem.W.codeIn K cd12 "need_name" = true) (k12 : PySem.W.keepIn K (.ref f12) = true)
    (a13 : PySem.W.nsIn K mainGlobals "need_mark" = some (some (.ref f13))) (l13 : K.lookup f13 = some ⟨oc13, od13, .func (PySem.W.fnOf "need_mark" "need_mark" (defArgs s13) (defBody s13) (defScope s13) .none kV13 doc13 pm13 an13 cd13 ct13), sl13⟩) (c13 : PySem.W.codeIn K cd13 "need_mark" = true) (k13 : PySem.W.keepIn K (.ref f13) = true)
    (a14 : PySem.W.nsIn K mainGlobals "need_size" = some (some (.ref f14))) (l14 : K.lookup f14 = some ⟨oc14, od14, .func (PySem.W.fnOf "need_size" "need_size" (defArgs s14) (defBody s14) (defScope s14) .none kV14 doc14 pm14 an14 cd14 ct14), sl14⟩) (c14 : PySem.W.codeIn K cd14 "need_size" = true) (k14 : PySem.W.keepIn K (.ref f14) = true)
    (a15 : PySem.W.nsIn K mainGlobals "need_width" = some (some (.ref f15))) (l15 : K.lookup f15 = some ⟨oc15, od15, .func (PySem.W.fnOf "need_width" "need_width" (defArgs s15) (defBody s15) (defScope s15) .none kV15 doc15 pm15 an15 cd15 ct15), sl15⟩) (c15 : PySem.W.codeIn K cd15 "need_width" = true) (k15 : PySem.W.keepIn K (.ref f15) = true)
    (a16 : PySem.W.nsIn K mainGlobals "need_volume" = some (some (.ref f16))) (l16 : K.lookup f16 = some ⟨oc16, od16, .func (PySem.W.fnOf "need_volume" "need_volume" (defArgs s16) (defBody s16) (defScope s16) .none kV16 doc16 pm16 an16 cd16 ct16), sl16⟩) (c16 : PySem.W.codeIn K cd16 "need_volume" = true) (k16 : PySem.W.keepIn K (.ref f16) = true)
    (a17 : PySem.W.nsIn K mainGlobals "is_volume" = some (some (.ref f17))) (l17 : K.lookup f17 = some ⟨oc17, od17, .func (PySem.W.fnOf "is_volume" "is_volume" (defArgs s17) (defBody s17) (defScope s17) .none kV17 doc17 pm17 an17 cd17 ct17), sl17⟩) (c17 : PySem.W.codeIn K cd17 "is_volume" = true) (k17 : PySem.W.keepIn K (.ref f17) = true)
    (a18 : PySem.W.nsIn K mainGlobals "volume_rank" = some (some (.ref f18))) (l18 : K.lookup f18 = some ⟨oc18, od18, .func (PySem.W.fnOf "volume_rank" "volume_rank" (defArgs s18) (defBody s18) (defScope s18) .none kV18 doc18 pm18 an18 cd18 ct18), sl18⟩) (c18 : PySem.W.codeIn K cd18 "volume_rank" = true) (k18 : PySem.W.keepIn K (.ref f18) = true)
    (a19 : PySem.W.nsIn K mainGlobals "volume_ahead" = some (some (.ref f19))) (l19 : K.lookup f19 = some ⟨oc19, od19, .func (PySem.W.fnOf "volume_ahead" "volume_ahead" (defArgs s19) (defBody s19) (defScope s19) .none kV19 doc19 pm19 an19 cd19 ct19), sl19⟩) (c19 : PySem.W.codeIn K cd19 "volume_ahead" = true) (k19 : PySem.W.keepIn K (.ref f19) = true)
    (a20 : PySem.W.nsIn K mainGlobals "are_in_order" = some (some (.ref f20))) (l20 : K.lookup f20 = some ⟨oc20, od20, .func (PySem.W.fnOf "are_in_order" "are_in_order" (defArgs s20) (defBody s20) (defScope s20) .none kV20 doc20 pm20 an20 cd20 ct20), sl20⟩) (c20 : PySem.W.codeIn K cd20 "are_in_order" = true) (k20 : PySem.W.keepIn K (.ref f20) = true)
    (a21 : PySem.W.nsIn K mainGlobals "_law_cell" = some (some (.ref f21))) (l21 : K.lookup f21 = some ⟨oc21, od21, .func (PySem.W.fnOf "_law_cell" "_law_cell" (defArgs s21) (defBody s21) (defScope s21) .none kV21 doc21 pm21 an21 cd21 ct21), sl21⟩) (c21 : PySem.W.codeIn K cd21 "_law_cell" = true) (k21 : PySem.W.keepIn K (.ref f21) = true)
    (a22 : PySem.W.nsIn K mainGlobals "_law_box" = some (some (.ref f22))) (l22 : K.lookup f22 = some ⟨oc22, od22, .func (PySem.W.fnOf "_law_box" "_law_box" (defArgs s22) (defBody s22) (defScope s22) .none kV22 doc22 pm22 an22 cd22 ct22), sl22⟩) (c22 : PySem.W.codeIn K cd22 "_law_box" = true) (k22 : PySem.W.keepIn K (.ref f22) = true)
    (a23 : PySem.W.nsIn K mainGlobals "_law_take" = some (some (.ref f23))) (l23 : K.lookup f23 = some ⟨oc23, od23, .func (PySem.W.fnOf "_law_take" "_law_take" (defArgs s23) (defBody s23) (defScope s23) .none kV23 doc23 pm23 an23 cd23 ct23), sl23⟩) (c23 : PySem.W.codeIn K cd23 "_law_take" = true) (k23 : PySem.W.keepIn K (.ref f23) = true)
    (a24 : PySem.W.nsIn K mainGlobals "_law_letters" = some (some (.ref f24))) (l24 : K.lookup f24 = some ⟨oc24, od24, .func (PySem.W.fnOf "_law_letters" "_law_letters" (defArgs s24) (defBody s24) (defScope s24) .none kV24 doc24 pm24 an24 cd24 ct24), sl24⟩) (c24 : PySem.W.codeIn K cd24 "_law_letters" = true) (k24 : PySem.W.keepIn K (.ref f24) = true)
    (a25 : PySem.W.nsIn K mainGlobals "_law_part" = some (some (.ref f25))) (l25 : K.lookup f25 = some ⟨oc25, od25, .func (PySem.W.fnOf "_law_part" "_law_part" (defArgs s25) (defBody s25) (defScope s25) .none kV25 doc25 pm25 an25 cd25 ct25), sl25⟩) (c25 : PySem.W.codeIn K cd25 "_law_part" = true) (k25 : PySem.W.keepIn K (.ref f25) = true)
    (a26 : PySem.W.nsIn K mainGlobals "_law_parts" = some (some (.ref f26))) (l26 : K.lookup f26 = some ⟨oc26, od26, .func (PySem.W.fnOf "_law_parts" "_law_parts" (defArgs s26) (defBody s26) (defScope s26) .none kV26 doc26 pm26 an26 cd26 ct26), sl26⟩) (c26 : PySem.W.codeIn K cd26 "_law_parts" = true) (k26 : PySem.W.keepIn K (.ref f26) = true)
    (a27 : PySem.W.nsIn K mainGlobals "_law_near" = some (some (.ref f27))) (l27 : K.lookup f27 = some ⟨oc27, od27, .func (PySem.W.fnOf "_law_near" "_law_near" (defArgs s27) (defBody s27) (defScope s27) .none kV27 doc27 pm27 an27 cd27 ct27), sl27⟩) (c27 : PySem.W.codeIn K cd27 "_law_near" = true) (k27 : PySem.W.keepIn K (.ref f27) = true)
    (a28 : PySem.W.nsIn K mainGlobals "_law_mark" = some (some (.ref f28))) (l28 : K.lookup f28 = some ⟨oc28, od28, .func (PySem.W.fnOf "_law_mark" "_law_mark" (defArgs s28) (defBody s28) (defScope s28) .none kV28 doc28 pm28 an28 cd28 ct28), sl28⟩) (c28 : PySem.W.codeIn K cd28 "_law_mark" = true) (k28 : PySem.W.keepIn K (.ref f28) = true)
    (a29 : PySem.W.nsIn K mainGlobals "_law_part_ahead" = some (some (.ref f29))) (l29 : K.lookup f29 = some ⟨oc29, od29, .func (PySem.W.fnOf "_law_part_ahead" "_law_part_ahead" (defArgs s29) (defBody s29) (defScope s29) .none kV29 doc29 pm29 an29 cd29 ct29), sl29⟩) (c29 : PySem.W.codeIn K cd29 "_law_part_ahead" = true) (k29 : PySem.W.keepIn K (.ref f29) = true)
    (a30 : PySem.W.nsIn K mainGlobals "_law_parts_ahead" = some (some (.ref f30))) (l30 : K.lookup f30 = some ⟨oc30, od30, .func (PySem.W.fnOf "_law_parts_ahead" "_law_parts_ahead" (defArgs s30) (defBody s30) (defScope s30) .none kV30 doc30 pm30 an30 cd30 ct30), sl30⟩) (c30 : PySem.W.codeIn K cd30 "_law_parts_ahead" = true) (k30 : PySem.W.keepIn K (.ref f30) = true)
    (a31 : PySem.W.nsIn K mainGlobals "_law_names" = some (some (.ref f31))) (l31 : K.lookup f31 = some ⟨oc31, od31, .func (PySem.W.fnOf "_law_names" "_law_names" (defArgs s31) (defBody s31) (defScope s31) .none kV31 doc31 pm31 an31 cd31 ct31), sl31⟩) (c31 : PySem.W.codeIn K cd31 "_law_names" = true) (k31 : PySem.W.keepIn K (.ref f31) = true)
    (a32 : PySem.W.nsIn K mainGlobals "_law_marks" = some (some (.ref f32))) (l32 : K.lookup f32 = some ⟨oc32, od32, .func (PySem.W.fnOf "_law_marks" "_law_marks" (defArgs s32) (defBody s32) (defScope s32) .none kV32 doc32 pm32 an32 cd32 ct32), sl32⟩) (c32 : PySem.W.codeIn K cd32 "_law_marks" = true) (k32 : PySem.W.keepIn K (.ref f32) = true)
    (a33 : PySem.W.nsIn K mainGlobals "_law_width" = some (some (.ref f33))) (l33 : K.lookup f33 = some ⟨oc33, od33, .func (PySem.W.fnOf "_law_width" "_law_width" (defArgs s33) (defBody s33) (defScope s33) .none kV33 doc33 pm33 an33 cd33 ct33), sl33⟩) (c33 : PySem.W.codeIn K cd33 "_law_width" = true) (k33 : PySem.W.keepIn K (.ref f33) = true)
    (a34 : PySem.W.nsIn K mainGlobals "_law_drawn_volumes" = some (some (.ref f34))) (l34 : K.lookup f34 = some ⟨oc34, od34, .func (PySem.W.fnOf "_law_drawn_volumes" "_law_drawn_volumes" (defArgs s34) (defBody s34) (defScope s34) .none kV34 doc34 pm34 an34 cd34 ct34), sl34⟩) (c34 : PySem.W.codeIn K cd34 "_law_drawn_volumes" = true) (k34 : PySem.W.keepIn K (.ref f34) = true)
    (a35 : PySem.W.nsIn K mainGlobals "_law_read_parts" = some (some (.ref f35))) (l35 : K.lookup f35 = some ⟨oc35, od35, .func (PySem.W.fnOf "_law_read_parts" "_law_read_parts" (defArgs s35) (defBody s35) (defScope s35) .none kV35 doc35 pm35 an35 cd35 ct35), sl35⟩) (c35 : PySem.W.codeIn K cd35 "_law_read_parts" = true) (k35 : PySem.W.keepIn K (.ref f35) = true)
    (a36 : PySem.W.nsIn K mainGlobals "_law_ahead" = some (some (.ref f36))) (l36 : K.lookup f36 = some ⟨oc36, od36, .func (PySem.W.fnOf "_law_ahead" "_law_ahead" (defArgs s36) (defBody s36) (defScope s36) .none kV36 doc36 pm36 an36 cd36 ct36), sl36⟩) (c36 : PySem.W.codeIn K cd36 "_law_ahead" = true) (k36 : PySem.W.keepIn K (.ref f36) = true)
    (a37 : PySem.W.nsIn K mainGlobals "_law_sorted" = some (some (.ref f37))) (l37 : K.lookup f37 = some ⟨oc37, od37, .func (PySem.W.fnOf "_law_sorted" "_law_sorted" (defArgs s37) (defBody s37) (defScope s37) .none kV37 doc37 pm37 an37 cd37 ct37), sl37⟩) (c37 : PySem.W.codeIn K cd37 "_law_sorted" = true) (k37 : PySem.W.keepIn K (.ref f37) = true)
    (a38 : PySem.W.nsIn K mainGlobals "_law_bad" = some (some (.ref f38))) (l38 : K.lookup f38 = some ⟨oc38, od38, .func (PySem.W.fnOf "_law_bad" "_law_bad" (defArgs s38) (defBody s38) (defScope s38) .none kV38 doc38 pm38 an38 cd38 ct38), sl38⟩) (c38 : PySem.W.codeIn K cd38 "_law_bad" = true) (k38 : PySem.W.keepIn K (.ref f38) = true)
    (a39 : PySem.W.nsIn K mainGlobals "_law_due" = some (some (.ref f39))) (l39 : K.lookup f39 = some ⟨oc39, od39, .func (PySem.W.fnOf "_law_due" "_law_due" (defArgs s39) (defBody s39) (defScope s39) .none kV39 doc39 pm39 an39 cd39 ct39), sl39⟩) (c39 : PySem.W.codeIn K cd39 "_law_due" = true) (k39 : PySem.W.keepIn K (.ref f39) = true)
    (a40 : PySem.W.nsIn K mainGlobals "_law_told" = some (some (.ref f40))) (l40 : K.lookup f40 = some ⟨oc40, od40, .func (PySem.W.fnOf "_law_told" "_law_told" (defArgs s40) (defBody s40) (defScope s40) .none kV40 doc40 pm40 an40 cd40 ct40), sl40⟩) (c40 : PySem.W.codeIn K cd40 "_law_told" = true) (k40 : PySem.W.keepIn K (.ref f40) = true)
    (a41 : PySem.W.nsIn K mainGlobals "_law_pairs_right" = some (some (.ref f41))) (l41 : K.lookup f41 = some ⟨oc41, od41, .func (PySem.W.fnOf "_law_pairs_right" "_law_pairs_right" (defArgs s41) (defBody s41) (defScope s41) .none kV41 doc41 pm41 an41 cd41 ct41), sl41⟩) (c41 : PySem.W.codeIn K cd41 "_law_pairs_right" = true) (k41 : PySem.W.keepIn K (.ref f41) = true)
    (a42 : PySem.W.nsIn K mainGlobals "_law_row_due" = some (some (.ref f42))) (l42 : K.lookup f42 = some ⟨oc42, od42, .func (PySem.W.fnOf "_law_row_due" "_law_row_due" (defArgs s42) (defBody s42) (defScope s42) .none kV42 doc42 pm42 an42 cd42 ct42), sl42⟩) (c42 : PySem.W.codeIn K cd42 "_law_row_due" = true) (k42 : PySem.W.keepIn K (.ref f42) = true)
    (a43 : PySem.W.nsIn K mainGlobals "_law_row_right" = some (some (.ref f43))) (l43 : K.lookup f43 = some ⟨oc43, od43, .func (PySem.W.fnOf "_law_row_right" "_law_row_right" (defArgs s43) (defBody s43) (defScope s43) .none kV43 doc43 pm43 an43 cd43 ct43), sl43⟩) (c43 : PySem.W.codeIn K cd43 "_law_row_right" = true) (k43 : PySem.W.keepIn K (.ref f43) = true)
    (a44 : PySem.W.nsIn K mainGlobals "law" = some (some (.ref f44))) (l44 : K.lookup f44 = some ⟨oc44, od44, .func (PySem.W.fnOf "law" "law" (defArgs s44) (defBody s44) (defScope s44) .none kV44 doc44 pm44 an44 cd44 ct44), sl44⟩) (c44 : PySem.W.codeIn K cd44 "law" = true) (k44 : PySem.W.keepIn K (.ref f44) = true)
    (zn_all : PySem.W.nsIn K mainGlobals "all" = some none)
    (zn_bool : PySem.W.nsIn K mainGlobals "bool" = some none)
    (zn_int : PySem.W.nsIn K mainGlobals "int" = some none)
    (zn_isinstance : PySem.W.nsIn K mainGlobals "isinstance" = some none)
    (zn_len : PySem.W.nsIn K mainGlobals "len" = some none)
    (zn_list : PySem.W.nsIn K mainGlobals "list" = some none)
    (zn_max : PySem.W.nsIn K mainGlobals "max" = some none)
    (zn_min : PySem.W.nsIn K mainGlobals "min" = some none)
    (zn_range : PySem.W.nsIn K mainGlobals "range" = some none)
    (zn_repr : PySem.W.nsIn K mainGlobals "repr" = some none)
    (zn_str : PySem.W.nsIn K mainGlobals "str" = some none)
    (zn_tuple : PySem.W.nsIn K mainGlobals "tuple" = some none)
    (zn_zip : PySem.W.nsIn K mainGlobals "zip" = some none)
    (zc_FIGURES : PySem.W.nsIn K mainGlobals "FIGURES" = some (some (.str "0123456789" tk_FIGURES)))
    (zc_LETTERS : PySem.W.nsIn K mainGlobals "LETTERS" = some (some (.str "abcdefghijklmnopqrstuvwxyz" tk_LETTERS)))
    (zc_MOST_LETTERS : PySem.W.nsIn K mainGlobals "MOST_LETTERS" = some (some (.int 6 tk_MOST_LETTERS)))
    (zc_MOST_NUMBER : PySem.W.nsIn K mainGlobals "MOST_NUMBER" = some (some (.int 999999 tk_MOST_NUMBER)))
    (zc_MOST_PARTS : PySem.W.nsIn K mainGlobals "MOST_PARTS" = some (some (.int 4 tk_MOST_PARTS)))
    (zc_MOST_SIGNS : PySem.W.nsIn K mainGlobals "MOST_SIGNS" = some (some (.int 8 tk_MOST_SIGNS)))
    (zc_MOST_SIZE : PySem.W.nsIn K mainGlobals "MOST_SIZE" = some (some (.int 9 tk_MOST_SIZE)))
    (zc_MOST_WIDTH : PySem.W.nsIn K mainGlobals "MOST_WIDTH" = some (some (.int 99 tk_MOST_WIDTH)))
    (rA : PySem.W.nsIn K mainGlobals "ShelvesError" = some (some (.ref CR))) (rR : PySem.W.readsIn K CR (.type "type") = true) (rG : PySem.W.specialIn K (.ref CR) "__getattribute__" = some (some (.builtin "type.__getattribute__"))) (rV : PySem.W.findCls K (.ref CR) (.type "type") "__init__" = some (.val (.ref fR))) (rK : PySem.W.keepIn K (.ref fR) = true)
    (rL : K.lookup fR = some ⟨ocR, odR, .func (PySem.W.fnOf "__init__" "ShelvesError.__init__" (defArgs sI_ShelvesError) (defBody sI_ShelvesError) (defScope sI_ShelvesError) .none kwR dcR pmR anR cdR ctR), slR⟩) (rC : PySem.W.codeIn K cdR "ShelvesError.__init__" = true) (rN : PySem.W.nsIn K mainGlobals "ValueError" = some none) (rF : PySem.W.findCls K (.type "ValueError") (.type "type") "__init__" = some (.val (.builtin "ValueError.__init__")))
    (xA_NoMark : PySem.W.nsIn K mainGlobals "NoMark" = some (some (.ref C_NoMark))) (xL_NoMark : K.lookup C_NoMark = some (excClassObj nm_NoMark q_NoMark C_NoMark N_NoMark bs_NoMark [.ref CR, .type "ValueError", .type "Exception", .type "BaseException", .type "object"] true sn_NoMark sub_NoMark ab_NoMark col_NoMark dd_NoMark m0_NoMark m1_NoMark m2_NoMark m3_NoMark m5_NoMark "ValueError.__new__"))
    (xS_NoMark : PySem.W.findIn K (.ref C_NoMark) "__setattr__" = some (some (.builtin "object.__setattr__"))) (xI_NoMark : PySem.W.findIn K (.ref C_NoMark) "__init__" = some (some (.ref fI_NoMark))) (xT_NoMark : PySem.W.typeIn K (.ref fI_NoMark) = some (.type "function")) (xE_NoMark : PySem.W.subIn K (.ref C_NoMark) (.type "BaseException") = some true) (xY_NoMark : PySem.W.typeIn K (.ref C_NoMark) = some (.type "type")) (xK_NoMark : PySem.W.keepIn K (.ref C_NoMark) = true)
    (xX_NoMark : PySem.W.findIn K (.ref C_NoMark) "__getattribute__" = some (some (.builtin "BaseException.__getattribute__"))) (xG_NoMark : PySem.W.findIn K (.ref C_NoMark) "__getattr__" = some none) (xH_NoMark : PySem.W.hasDictIn K C_NoMark = true) (xF_NoMark : K.lookup fI_NoMark = some ⟨oc_NoMark, od_NoMark, .func (PySem.W.fnOf "__init__" "NoMark.__init__" (defArgs sI_NoMark) (defBody sI_NoMark) (defScope sI_NoMark) .none kw_NoMark dc_NoMark pm_NoMark an_NoMark cd_NoMark ct_NoMark), sl_NoMark⟩) (xC_NoMark : PySem.W.codeIn K cd_NoMark "NoMark.__init__" = true) (xJ_NoMark : PySem.W.keepIn K (.ref fI_NoMark) = true)
    (xN_NoMark_found : PySem.W.findIn K (.ref C_NoMark) "found" = some none)
    (xA_NoName : PySem.W.nsIn K mainGlobals "NoName" = some (some (.ref C_NoName))) (xL_NoName : K.lookup C_NoName = some (excClassObj nm_NoName q_NoName C_NoName N_NoName bs_NoName [.ref CR, .type "ValueError", .type "Exception", .type "BaseException", .type "object"] true sn_NoName sub_NoName ab_NoName col_NoName dd_NoName m0_NoName m1_NoName m2_NoName m3_NoName m5_NoName "ValueError.__new__"))
    (xS_NoName : PySem.W.findIn K (.ref C_NoName) "__setattr__" = some (some (.builtin "object.__setattr__"))) (xI_NoName : PySem.W.findIn K (.ref C_NoName) "__init__" = some (some (.ref fI_NoName))) (xT_NoName : PySem.W.typeIn K (.ref fI_NoName) = some (.type "function")) (xE_NoName : PySem.W.subIn K (.ref C_NoName) (.type "BaseException") = some true) (xY_NoName : PySem.W.typeIn K (.ref C_NoName) = some (.type "type")) (xK_NoName : PySem.W.keepIn K (.ref C_NoName) = true)
    (xX_NoName : PySem.W.findIn K (.ref C_NoName) "__getattribute__" = some (some (.builtin "BaseException.__getattribute__"))) (xG_NoName : PySem.W.findIn K (.ref C_NoName) "__getattr__" = some none) (xH_NoName : PySem.W.hasDictIn K C_NoName = true) (xF_NoName : K.lookup fI_NoName = some ⟨oc_NoName, od_NoName, .func (PySem.W.fnOf "__init__" "NoName.__init__" (defArgs sI_NoName) (defBody sI_NoName) (defScope sI_NoName) .none kw_NoName dc_NoName pm_NoName an_NoName cd_NoName ct_NoName), sl_NoName⟩) (xC_NoName : PySem.W.codeIn K cd_NoName "NoName.__init__" = true) (xJ_NoName : PySem.W.keepIn K (.ref fI_NoName) = true)
    (xN_NoName_found : PySem.W.findIn K (.ref C_NoName) "found" = some none)
    (xA_NoNumber : PySem.W.nsIn K mainGlobals "NoNumber" = some (some (.ref C_NoNumber))) (xL_NoNumber : K.lookup C_NoNumber = some (excClassObj nm_NoNumber q_NoNumber C_NoNumber N_NoNumber bs_NoNumber [.ref CR, .type "ValueError", .type "Exception", .type "BaseException", .type "object"] true sn_NoNumber sub_NoNumber ab_NoNumber col_NoNumber dd_NoNumber m0_NoNumber m1_NoNumber m2_NoNumber m3_NoNumber m5_NoNumber "ValueError.__new__"))
    (xS_NoNumber : PySem.W.findIn K (.ref C_NoNumber) "__setattr__" = some (some (.builtin "object.__setattr__"))) (xI_NoNumber : PySem.W.findIn K (.ref C_NoNumber) "__init__" = some (some (.ref fI_NoNumber))) (xT_NoNumber : PySem.W.typeIn K (.ref fI_NoNumber) = some (.type "function")) (xE_NoNumber : PySem.W.subIn K (.ref C_NoNumber) (.type "BaseException") = some true) (xY_NoNumber : PySem.W.typeIn K (.ref C_NoNumber) = some (.type "type")) (xK_NoNumber : PySem.W.keepIn K (.ref C_NoNumber) = true)
    (xX_NoNumber : PySem.W.findIn K (.ref C_NoNumber) "__getattribute__" = some (some (.builtin "BaseException.__getattribute__"))) (xG_NoNumber : PySem.W.findIn K (.ref C_NoNumber) "__getattr__" = some none) (xH_NoNumber : PySem.W.hasDictIn K C_NoNumber = true) (xF_NoNumber : K.lookup fI_NoNumber = some ⟨oc_NoNumber, od_NoNumber, .func (PySem.W.fnOf "__init__" "NoNumber.__init__" (defArgs sI_NoNumber) (defBody sI_NoNumber) (defScope sI_NoNumber) .none kw_NoNumber dc_NoNumber pm_NoNumber an_NoNumber cd_NoNumber ct_NoNumber), sl_NoNumber⟩) (xC_NoNumber : PySem.W.codeIn K cd_NoNumber "NoNumber.__init__" = true) (xJ_NoNumber : PySem.W.keepIn K (.ref fI_NoNumber) = true)
    (xN_NoNumber_found : PySem.W.findIn K (.ref C_NoNumber) "found" = some none)
    (xA_NoVolume : PySem.W.nsIn K mainGlobals "NoVolume" = some (some (.ref C_NoVolume))) (xL_NoVolume : K.lookup C_NoVolume = some (excClassObj nm_NoVolume q_NoVolume C_NoVolume N_NoVolume bs_NoVolume [.ref CR, .type "ValueError", .type "Exception", .type "BaseException", .type "object"] true sn_NoVolume sub_NoVolume ab_NoVolume col_NoVolume dd_NoVolume m0_NoVolume m1_NoVolume m2_NoVolume m3_NoVolume m5_NoVolume "ValueError.__new__"))
    (xS_NoVolume : PySem.W.findIn K (.ref C_NoVolume) "__setattr__" = some (some (.builtin "object.__setattr__"))) (xI_NoVolume : PySem.W.findIn K (.ref C_NoVolume) "__init__" = some (some (.ref fI_NoVolume))) (xT_NoVolume : PySem.W.typeIn K (.ref fI_NoVolume) = some (.type "function")) (xE_NoVolume : PySem.W.subIn K (.ref C_NoVolume) (.type "BaseException") = some true) (xY_NoVolume : PySem.W.typeIn K (.ref C_NoVolume) = some (.type "type")) (xK_NoVolume : PySem.W.keepIn K (.ref C_NoVolume) = true)
    (xX_NoVolume : PySem.W.findIn K (.ref C_NoVolume) "__getattribute__" = some (some (.builtin "BaseException.__getattribute__"))) (xG_NoVolume : PySem.W.findIn K (.ref C_NoVolume) "__getattr__" = some none) (xH_NoVolume : PySem.W.hasDictIn K C_NoVolume = true) (xF_NoVolume : K.lookup fI_NoVolume = some ⟨oc_NoVolume, od_NoVolume, .func (PySem.W.fnOf "__init__" "NoVolume.__init__" (defArgs sI_NoVolume) (defBody sI_NoVolume) (defScope sI_NoVolume) .none kw_NoVolume dc_NoVolume pm_NoVolume an_NoVolume cd_NoVolume ct_NoVolume), sl_NoVolume⟩) (xC_NoVolume : PySem.W.codeIn K cd_NoVolume "NoVolume.__init__" = true) (xJ_NoVolume : PySem.W.keepIn K (.ref fI_NoVolume) = true)
    (xN_NoVolume_found : PySem.W.findIn K (.ref C_NoVolume) "found" = some none)
    (yE_ShelvesError : PySem.W.subIn K (.ref CR) (.type "BaseException") = some true) (yI_ShelvesError : PySem.W.isClsIn K CR = true) (yY_ShelvesError : PySem.W.typeIn K (.ref CR) = some (.type "type"))
    (ys_ShelvesError_NoMark : PySem.W.subIn K (.ref C_NoMark) (.ref CR) = some true)
    (ys_ShelvesError_NoName : PySem.W.subIn K (.ref C_NoName) (.ref CR) = some true)
    (ys_ShelvesError_NoNumber : PySem.W.subIn K (.ref C_NoNumber) (.ref CR) = some true)
    (ys_ShelvesError_NoVolume : PySem.W.subIn K (.ref C_NoVolume) (.ref CR) = some true)
    (yE_NoNumber : PySem.W.subIn K (.ref C_NoNumber) (.type "BaseException") = some true) (yI_NoNumber : PySem.W.isClsIn K C_NoNumber = true) (yY_NoNumber : PySem.W.typeIn K (.ref C_NoNumber) = some (.type "type"))
    (ys_NoNumber_NoMark : PySem.W.subIn K (.ref C_NoMark) (.ref C_NoNumber) = some false)
    (ys_NoNumber_NoName : PySem.W.subIn K (.ref C_NoName) (.ref C_NoNumber) = some false)
    (ys_NoNumber_NoNumber : PySem.W.subIn K (.ref C_NoNumber) (.ref C_NoNumber) = some true)
    (ys_NoNumber_NoVolume : PySem.W.subIn K (.ref C_NoVolume) (.ref C_NoNumber) = some false)
    (yE_NoMark : PySem.W.subIn K (.ref C_NoMark) (.type "BaseException") = some true) (yI_NoMark : PySem.W.isClsIn K C_NoMark = true) (yY_NoMark : PySem.W.typeIn K (.ref C_NoMark) = some (.type "type"))
    (ys_NoMark_NoMark : PySem.W.subIn K (.ref C_NoMark) (.ref C_NoMark) = some true)
    (ys_NoMark_NoName : PySem.W.subIn K (.ref C_NoName) (.ref C_NoMark) = some false)
    (ys_NoMark_NoNumber : PySem.W.subIn K (.ref C_NoNumber) (.ref C_NoMark) = some false)
    (ys_NoMark_NoVolume : PySem.W.subIn K (.ref C_NoVolume) (.ref C_NoMark) = some false)
    (yE_NoName : PySem.W.subIn K (.ref C_NoName) (.type "BaseException") = some true) (yI_NoName : PySem.W.isClsIn K C_NoName = true) (yY_NoName : PySem.W.typeIn K (.ref C_NoName) = some (.type "type"))
    (ys_NoName_NoMark : PySem.W.subIn K (.ref C_NoMark) (.ref C_NoName) = some false)
    (ys_NoName_NoName : PySem.W.subIn K (.ref C_NoName) (.ref C_NoName) = some true)
    (ys_NoName_NoNumber : PySem.W.subIn K (.ref C_NoNumber) (.ref C_NoName) = some false)
    (ys_NoName_NoVolume : PySem.W.subIn K (.ref C_NoVolume) (.ref C_NoName) = some false)
    (yE_NoVolume : PySem.W.subIn K (.ref C_NoVolume) (.type "BaseException") = some true) (yI_NoVolume : PySem.W.isClsIn K C_NoVolume = true) (yY_NoVolume : PySem.W.typeIn K (.ref C_NoVolume) = some (.type "type"))
    (ys_NoVolume_NoMark : PySem.W.subIn K (.ref C_NoMark) (.ref C_NoVolume) = some false)
    (ys_NoVolume_NoName : PySem.W.subIn K (.ref C_NoName) (.ref C_NoVolume) = some false)
    (ys_NoVolume_NoNumber : PySem.W.subIn K (.ref C_NoNumber) (.ref C_NoVolume) = some false)
    (ys_NoVolume_NoVolume : PySem.W.subIn K (.ref C_NoVolume) (.ref C_NoVolume) = some true)
    (ok : ∀ ns : List Int, ns.length ≤ 63 → ∃ h', mOf D gl ns 12 d44 [.scr] [] = .ok (.bl true) h') :
    ∃ (fd : FuncData) (ga : Nat → Option Addr) (m : List Int → List Val → Heap → Res Val), (∀ (s : Shared) (u : Value), BindsTo s fd ⟨[u], []⟩ [("script", u)]) ∧ (∀ ns : List Int, ns.length ≤ 63 → ∃ h', m ns [.scr] [] = .ok (.bl true) h') ∧
      ∀ (a : Addr) (ns : List Int) (base : PySem.Heap), K.In base → base.Ns mainGlobals mg → (∃ mm, base.Ns sysModules mm) → FnG P w K mg base 15 fa fd ["script"] (spC ⟨K, ga, a, ns, none⟩ (m ns)) := by
  have e := hfa.symm.trans (PySem.W.mg_of X G a44)
  cases e
  have F : Fx K mg (fun i => match i with | 0 => some C_NoMark | 1 => some C_NoName | 2 => some C_NoNumber | 3 => some C_NoVolume | _ => none) := ⟨⟨⟨_, _, _, ⟨PySem.W.mg_of X G rA, ⟨rR, rG⟩, ⟨rV, rfl⟩, rK⟩, fun_mk (st := sI_ShelvesError) rL rC rK, (fun_mk (st := sI_ShelvesError) rL rC rK).binds (ps := ["self", "text"]) fun _ _ _ _ _ _ us hl => match us, hl with | [_, _], _ => rfl⟩, PySem.W.mg_none_of X G rN, rF⟩,
    ⟨C_NoMark, _, _, rfl, ⟨PySem.W.mg_of X G xA_NoMark, ⟨⟨_, _, _, _, _, _, _, _, _, _, _, _, _, _, _, xL_NoMark, by rfl⟩, xS_NoMark, xE_NoMark, xY_NoMark, xK_NoMark⟩, xI_NoMark, xT_NoMark, ⟨xX_NoMark, xG_NoMark, xE_NoMark, xH_NoMark⟩, (by intro f hf; simp only [List.mem_cons, List.not_mem_nil, or_false] at hf; subst hf <;> assumption)⟩, fun_mk (st := sI_NoMark) xF_NoMark xC_NoMark xJ_NoMark, (fun_mk (st := sI_NoMark) xF_NoMark xC_NoMark xJ_NoMark).binds (ps := ["self", "found"]) fun _ _ _ _ _ _ us hl => match us, hl with | [_, _], _ => rfl⟩,
    ⟨C_NoName, _, _, rfl, ⟨PySem.W.mg_of X G xA_NoName, ⟨⟨_, _, _, _, _, _, _, _, _, _, _, _, _, _, _, xL_NoName, by rfl⟩, xS_NoName, xE_NoName, xY_NoName, xK_NoName⟩, xI_NoName, xT_NoName, ⟨xX_NoName, xG_NoName, xE_NoName, xH_NoName⟩, (by intro f hf; simp only [List.mem_cons, List.not_mem_nil, or_false] at hf; subst hf <;> assumption)⟩, fun_mk (st := sI_NoName) xF_NoName xC_NoName xJ_NoName, (fun_mk (st := sI_NoName) xF_NoName xC_NoName xJ_NoName).binds (ps := ["self", "found"]) fun _ _ _ _ _ _ us hl => match us, hl with | [_, _], _ => rfl⟩,
    ⟨C_NoNumber, _, _, rfl, ⟨PySem.W.mg_of X G xA_NoNumber, ⟨⟨_, _, _, _, _, _, _, _, _, _, _, _, _, _, _, xL_NoNumber, by rfl⟩, xS_NoNumber, xE_NoNumber, xY_NoNumber, xK_NoNumber⟩, xI_NoNumber, xT_NoNumber, ⟨xX_NoNumber, xG_NoNumber, xE_NoNumber, xH_NoNumber⟩, (by intro f hf; simp only [List.mem_cons, List.not_mem_nil, or_false] at hf; subst hf <;> assumption)⟩, fun_mk (st := sI_NoNumber) xF_NoNumber xC_NoNumber xJ_NoNumber, (fun_mk (st := sI_NoNumber) xF_NoNumber xC_NoNumber xJ_NoNumber).binds (ps := ["self", "found"]) fun _ _ _ _ _ _ us hl => match us, hl with | [_, _], _ => rfl⟩,
    ⟨C_NoVolume, _, _, rfl, ⟨PySem.W.mg_of X G xA_NoVolume, ⟨⟨_, _, _, _, _, _, _, _, _, _, _, _, _, _, _, xL_NoVolume, by rfl⟩, xS_NoVolume, xE_NoVolume, xY_NoVolume, xK_NoVolume⟩, xI_NoVolume, xT_NoVolume, ⟨xX_NoVolume, xG_NoVolume, xE_NoVolume, xH_NoVolume⟩, (by intro f hf; simp only [List.mem_cons, List.not_mem_nil, or_false] at hf; subst hf <;> assumption)⟩, fun_mk (st := sI_NoVolume) xF_NoVolume xC_NoVolume xJ_NoVolume, (fun_mk (st := sI_NoVolume) xF_NoVolume xC_NoVolume xJ_NoVolume).binds (ps := ["self", "found"]) fun _ _ _ _ _ _ us hl => match us, hl with | [_, _], _ => rfl⟩,
    ⟨CR, PySem.W.mg_of X G rA, fun k C hC => by match k, C, hC with | 0, _, rfl => exact exm_of yE_ShelvesError yI_ShelvesError yY_ShelvesError ys_ShelvesError_NoMark | 1, _, rfl => exact exm_of yE_ShelvesError yI_ShelvesError yY_ShelvesError ys_ShelvesError_NoName | 2, _, rfl => exact exm_of yE_ShelvesError yI_ShelvesError yY_ShelvesError ys_ShelvesError_NoNumber | 3, _, rfl => exact exm_of yE_ShelvesError yI_ShelvesError yY_ShelvesError ys_ShelvesError_NoVolume⟩,
    ⟨C_NoNumber, PySem.W.mg_of X G xA_NoNumber, fun k C hC => by match k, C, hC with | 0, _, rfl => exact exm_of yE_NoNumber yI_NoNumber yY_NoNumber ys_NoNumber_NoMark | 1, _, rfl => exact exm_of yE_NoNumber yI_NoNumber yY_NoNumber ys_NoNumber_NoName | 2, _, rfl => exact exm_of yE_NoNumber yI_NoNumber yY_NoNumber ys_NoNumber_NoNumber | 3, _, rfl => exact exm_of yE_NoNumber yI_NoNumber yY_NoNumber ys_NoNumber_NoVolume⟩,
    ⟨C_NoMark, PySem.W.mg_of X G xA_NoMark, fun k C hC => by match k, C, hC with | 0, _, rfl => exact exm_of yE_NoMark yI_NoMark yY_NoMark ys_NoMark_NoMark | 1, _, rfl => exact exm_of yE_NoMark yI_NoMark yY_NoMark ys_NoMark_NoName | 2, _, rfl => exact exm_of yE_NoMark yI_NoMark yY_NoMark ys_NoMark_NoNumber | 3, _, rfl => exact exm_of yE_NoMark yI_NoMark yY_NoMark ys_NoMark_NoVolume⟩,
    ⟨C_NoName, PySem.W.mg_of X G xA_NoName, fun k C hC => by match k, C, hC with | 0, _, rfl => exact exm_of yE_NoName yI_NoName yY_NoName ys_NoName_NoMark | 1, _, rfl => exact exm_of yE_NoName yI_NoName yY_NoName ys_NoName_NoName | 2, _, rfl => exact exm_of yE_NoName yI_NoName yY_NoName ys_NoName_NoNumber | 3, _, rfl => exact exm_of yE_NoName yI_NoName yY_NoName ys_NoName_NoVolume⟩,
    ⟨C_NoVolume, PySem.W.mg_of X G xA_NoVolume, fun k C hC => by match k, C, hC with | 0, _, rfl => exact exm_of yE_NoVolume yI_NoVolume yY_NoVolume ys_NoVolume_NoMark | 1, _, rfl => exact exm_of yE_NoVolume yI_NoVolume yY_NoVolume ys_NoVolume_NoName | 2, _, rfl => exact exm_of yE_NoVolume yI_NoVolume yY_NoVolume ys_NoVolume_NoNumber | 3, _, rfl => exact exm_of yE_NoVolume yI_NoVolume yY_NoVolume ys_NoVolume_NoVolume⟩,
    fun k C hm hC => by simp only [List.mem_cons, List.not_mem_nil, or_false] at hm; subst hm <;> cases hC <;> exact ⟨⟨xX_NoNumber, xG_NoNumber, xE_NoNumber, xH_NoNumber⟩, xN_NoNumber_found⟩,
    fun k C hm hC => by simp only [List.mem_cons, List.not_mem_nil, or_false] at hm; subst hm <;> cases hC <;> exact ⟨⟨xX_NoMark, xG_NoMark, xE_NoMark, xH_NoMark⟩, xN_NoMark_found⟩,
    fun k C hm hC => by simp only [List.mem_cons, List.not_mem_nil, or_false] at hm; subst hm <;> cases hC <;> exact ⟨⟨xX_NoName, xG_NoName, xE_NoName, xH_NoName⟩, xN_NoName_found⟩,
    fun k C hm hC => by simp only [List.mem_cons, List.not_mem_nil, or_false] at hm; subst hm <;> cases hC <;> exact ⟨⟨xX_NoVolume, xG_NoVolume, xE_NoVolume, xH_NoVolume⟩, xN_NoVolume_found⟩,
    PySem.W.mg_none_of X G zn_all,
    PySem.W.mg_none_of X G zn_bool,
    PySem.W.mg_none_of X G zn_int,
    PySem.W.mg_none_of X G zn_isinstance,
    PySem.W.mg_none_of X G zn_len,
    PySem.W.mg_none_of X G zn_list,
    PySem.W.mg_none_of X G zn_max,
    PySem.W.mg_none_of X G zn_min,
    PySem.W.mg_none_of X G zn_range,
    PySem.W.mg_none_of X G zn_repr,
    PySem.W.mg_none_of X G zn_str,
    PySem.W.mg_none_of X G zn_tuple,
    PySem.W.mg_none_of X G zn_zip,
    ⟨_, PySem.W.mg_of X G zc_FIGURES⟩,
    ⟨_, PySem.W.mg_of X G zc_LETTERS⟩,
    ⟨_, PySem.W.mg_of X G zc_MOST_LETTERS⟩,
    ⟨_, PySem.W.mg_of X G zc_MOST_NUMBER⟩,
    ⟨_, PySem.W.mg_of X G zc_MOST_PARTS⟩,
    ⟨_, PySem.W.mg_of X G zc_MOST_SIGNS⟩,
    ⟨_, PySem.W.mg_of X G zc_MOST_SIZE⟩,
    ⟨_, PySem.W.mg_of X G zc_MOST_WIDTH⟩,
    ⟨⟨_, _, _, _, _, _, _, _, _, _, PySem.W.mg_of X G a0, l0, c0, k0, (fun_mk (st := s0) l0 c0 k0).binds (ps := ["thing", "low", "high"]) fun _ _ _ _ _ _ us hl => match us, hl with | [_, _, _], _ => rfl⟩⟩,
    ⟨⟨_, _, _, _, _, _, _, _, _, _, PySem.W.mg_of X G a1, l1, c1, k1, (fun_mk (st := s1) l1 c1 k1).binds (ps := ["thing", "most"]) fun _ _ _ _ _ _ us hl => match us, hl with | [_, _], _ => rfl⟩⟩,
    ⟨⟨_, _, _, _, _, _, _, _, _, _, PySem.W.mg_of X G a2, l2, c2, k2, (fun_mk (st := s2) l2 c2 k2).binds (ps := ["thing"]) fun _ _ _ _ _ _ us hl => match us, hl with | [_], _ => rfl⟩⟩,
    ⟨⟨_, _, _, _, _, _, _, _, _, _, PySem.W.mg_of X G a3, l3, c3, k3, (fun_mk (st := s3) l3 c3 k3).binds (ps := ["thing", "low", "high"]) fun _ _ _ _ _ _ us hl => match us, hl with | [_, _, _], _ => rfl⟩⟩,
    ⟨⟨_, _, _, _, _, _, _, _, _, _, PySem.W.mg_of X G a4, l4, c4, k4, (fun_mk (st := s4) l4 c4 k4).binds (ps := ["text"]) fun _ _ _ _ _ _ us hl => match us, hl with | [_], _ => rfl⟩⟩,
    ⟨⟨_, _, _, _, _, _, _, _, _, _, PySem.W.mg_of X G a5, l5, c5, k5, (fun_mk (st := s5) l5 c5 k5).binds (ps := ["thing"]) fun _ _ _ _ _ _ us hl => match us, hl with | [_], _ => rfl⟩⟩,
    ⟨⟨_, _, _, _, _, _, _, _, _, _, PySem.W.mg_of X G a6, l6, c6, k6, (fun_mk (st := s6) l6 c6 k6).binds (ps := ["thing"]) fun _ _ _ _ _ _ us hl => match us, hl with | [_], _ => rfl⟩⟩,
    ⟨⟨_, _, _, _, _, _, _, _, _, _, PySem.W.mg_of X G a7, l7, c7, k7, (fun_mk (st := s7) l7 c7 k7).binds (ps := ["mark"]) fun _ _ _ _ _ _ us hl => match us, hl with | [_], _ => rfl⟩⟩,
    ⟨⟨_, _, _, _, _, _, _, _, _, _, PySem.W.mg_of X G a8, l8, c8, k8, (fun_mk (st := s8) l8 c8 k8).binds (ps := ["part"]) fun _ _ _ _ _ _ us hl => match us, hl with | [_], _ => rfl⟩⟩,
    ⟨⟨_, _, _, _, _, _, _, _, _, _, PySem.W.mg_of X G a9, l9, c9, k9, (fun_mk (st := s9) l9 c9 k9).binds (ps := ["mark"]) fun _ _ _ _ _ _ us hl => match us, hl with | [_], _ => rfl⟩⟩,
    ⟨⟨_, _, _, _, _, _, _, _, _, _, PySem.W.mg_of X G a10, l10, c10, k10, (fun_mk (st := s10) l10 c10 k10).binds (ps := ["thing"]) fun _ _ _ _ _ _ us hl => match us, hl with | [_], _ => rfl⟩⟩,
    ⟨⟨_, _, _, _, _, _, _, _, _, _, PySem.W.mg_of X G a11, l11, c11, k11, (fun_mk (st := s11) l11 c11 k11).binds (ps := ["thing"]) fun _ _ _ _ _ _ us hl => match us, hl with | [_], _ => rfl⟩⟩,
    ⟨⟨_, _, _, _, _, _, _, _, _, _, PySem.W.mg_of X G a12, l12, c12, k12, (fun_mk (st := s12) l12 c12 k12).binds (ps := ["thing"]) fun _ _ _ _ _ _ us hl => match us, hl with | [_], _ => rfl⟩⟩,
    ⟨⟨_, _, _, _, _, _, _, _, _, _, PySem.W.mg_of X G a13, l13, c13, k13, (fun_mk (st := s13) l13 c13 k13).binds (ps := ["thing"]) fun _ _ _ _ _ _ us hl => match us, hl with | [_], _ => rfl⟩⟩,
    ⟨⟨_, _, _, _, _, _, _, _, _, _, PySem.W.mg_of X G a14, l14, c14, k14, (fun_mk (st := s14) l14 c14 k14).binds (ps := ["thing"]) fun _ _ _ _ _ _ us hl => match us, hl with | [_], _ => rfl⟩⟩,
    ⟨⟨_, _, _, _, _, _, _, _, _, _, PySem.W.mg_of X G a15, l15, c15, k15, (fun_mk (st := s15) l15 c15 k15).binds (ps := ["thing"]) fun _ _ _ _ _ _ us hl => match us, hl with | [_], _ => rfl⟩⟩,
    ⟨⟨_, _, _, _, _, _, _, _, _, _, PySem.W.mg_of X G a16, l16, c16, k16, (fun_mk (st := s16) l16 c16 k16).binds (ps := ["thing"]) fun _ _ _ _ _ _ us hl => match us, hl with | [_], _ => rfl⟩⟩,
    ⟨⟨_, _, _, _, _, _, _, _, _, _, PySem.W.mg_of X G a17, l17, c17, k17, (fun_mk (st := s17) l17 c17 k17).binds (ps := ["thing"]) fun _ _ _ _ _ _ us hl => match us, hl with | [_], _ => rfl⟩⟩,
    ⟨⟨_, _, _, _, _, _, _, _, _, _, PySem.W.mg_of X G a18, l18, c18, k18, (fun_mk (st := s18) l18 c18 k18).binds (ps := ["volume"]) fun _ _ _ _ _ _ us hl => match us, hl with | [_], _ => rfl⟩⟩,
    ⟨⟨_, _, _, _, _, _, _, _, _, _, PySem.W.mg_of X G a19, l19, c19, k19, (fun_mk (st := s19) l19 c19 k19).binds (ps := ["one", "other"]) fun _ _ _ _ _ _ us hl => match us, hl with | [_, _], _ => rfl⟩⟩,
    ⟨⟨_, _, _, _, _, _, _, _, _, _, PySem.W.mg_of X G a20, l20, c20, k20, (fun_mk (st := s20) l20 c20 k20).binds (ps := ["things"]) fun _ _ _ _ _ _ us hl => match us, hl with | [_], _ => rfl⟩⟩,
    ⟨⟨_, _, _, _, _, _, _, _, _, _, PySem.W.mg_of X G a21, l21, c21, k21, (fun_mk (st := s21) l21 c21 k21).binds (ps := ["script", "k"]) fun _ _ _ _ _ _ us hl => match us, hl with | [_, _], _ => rfl⟩⟩,
    ⟨⟨_, _, _, _, _, _, _, _, _, _, PySem.W.mg_of X G a22, l22, c22, k22, (fun_mk (st := s22) l22 c22 k22).binds (ps := ["cell"]) fun _ _ _ _ _ _ us hl => match us, hl with | [_], _ => rfl⟩⟩,
    ⟨⟨_, _, _, _, _, _, _, _, _, _, PySem.W.mg_of X G a23, l23, c23, k23, (fun_mk (st := s23) l23 c23 k23).binds (ps := ["box", "many"]) fun _ _ _ _ _ _ us hl => match us, hl with | [_, _], _ => rfl⟩⟩,
    ⟨⟨_, _, _, _, _, _, _, _, _, _, PySem.W.mg_of X G a24, l24, c24, k24, (fun_mk (st := s24) l24 c24 k24).binds (ps := ["box", "most"]) fun _ _ _ _ _ _ us hl => match us, hl with | [_, _], _ => rfl⟩⟩,
    ⟨⟨_, _, _, _, _, _, _, _, _, _, PySem.W.mg_of X G a25, l25, c25, k25, (fun_mk (st := s25) l25 c25 k25).binds (ps := ["box"]) fun _ _ _ _ _ _ us hl => match us, hl with | [_], _ => rfl⟩⟩,
    ⟨⟨_, _, _, _, _, _, _, _, _, _, PySem.W.mg_of X G a26, l26, c26, k26, (fun_mk (st := s26) l26 c26 k26).binds (ps := ["box"]) fun _ _ _ _ _ _ us hl => match us, hl with | [_], _ => rfl⟩⟩,
    ⟨⟨_, _, _, _, _, _, _, _, _, _, PySem.W.mg_of X G a27, l27, c27, k27, (fun_mk (st := s27) l27 c27 k27).binds (ps := ["box", "parts"]) fun _ _ _ _ _ _ us hl => match us, hl with | [_, _], _ => rfl⟩⟩,
    ⟨⟨_, _, _, _, _, _, _, _, _, _, PySem.W.mg_of X G a28, l28, c28, k28, (fun_mk (st := s28) l28 c28 k28).binds (ps := ["parts"]) fun _ _ _ _ _ _ us hl => match us, hl with | [_], _ => rfl⟩⟩,
    ⟨⟨_, _, _, _, _, _, _, _, _, _, PySem.W.mg_of X G a29, l29, c29, k29, (fun_mk (st := s29) l29 c29 k29).binds (ps := ["one", "other"]) fun _ _ _ _ _ _ us hl => match us, hl with | [_, _], _ => rfl⟩⟩,
    ⟨⟨_, _, _, _, _, _, _, _, _, _, PySem.W.mg_of X G a30, l30, c30, k30, (fun_mk (st := s30) l30 c30 k30).binds (ps := ["one", "other"]) fun _ _ _ _ _ _ us hl => match us, hl with | [_, _], _ => rfl⟩⟩,
    ⟨⟨_, _, _, _, _, _, _, _, _, _, PySem.W.mg_of X G a31, l31, c31, k31, (fun_mk (st := s31) l31 c31 k31).binds (ps := ["box", "many"]) fun _ _ _ _ _ _ us hl => match us, hl with | [_, _], _ => rfl⟩⟩,
    ⟨⟨_, _, _, _, _, _, _, _, _, _, PySem.W.mg_of X G a32, l32, c32, k32, (fun_mk (st := s32) l32 c32 k32).binds (ps := ["box", "many"]) fun _ _ _ _ _ _ us hl => match us, hl with | [_, _], _ => rfl⟩⟩,
    ⟨⟨_, _, _, _, _, _, _, _, _, _, PySem.W.mg_of X G a33, l33, c33, k33, (fun_mk (st := s33) l33 c33 k33).binds (ps := ["box"]) fun _ _ _ _ _ _ us hl => match us, hl with | [_], _ => rfl⟩⟩,
    ⟨⟨_, _, _, _, _, _, _, _, _, _, PySem.W.mg_of X G a34, l34, c34, k34, (fun_mk (st := s34) l34 c34 k34).binds (ps := ["box", "many"]) fun _ _ _ _ _ _ us hl => match us, hl with | [_, _], _ => rfl⟩⟩,
    ⟨⟨_, _, _, _, _, _, _, _, _, _, PySem.W.mg_of X G a35, l35, c35, k35, (fun_mk (st := s35) l35 c35 k35).binds (ps := ["mark"]) fun _ _ _ _ _ _ us hl => match us, hl with | [_], _ => rfl⟩⟩,
    ⟨⟨_, _, _, _, _, _, _, _, _, _, PySem.W.mg_of X G a36, l36, c36, k36, (fun_mk (st := s36) l36 c36 k36).binds (ps := ["one", "other"]) fun _ _ _ _ _ _ us hl => match us, hl with | [_, _], _ => rfl⟩⟩,
    ⟨⟨_, _, _, _, _, _, _, _, _, _, PySem.W.mg_of X G a37, l37, c37, k37, (fun_mk (st := s37) l37 c37 k37).binds (ps := ["volumes"]) fun _ _ _ _ _ _ us hl => match us, hl with | [_], _ => rfl⟩⟩,
    ⟨⟨_, _, _, _, _, _, _, _, _, _, PySem.W.mg_of X G a38, l38, c38, k38, (fun_mk (st := s38) l38 c38 k38).binds (ps := ["box", "volume"]) fun _ _ _ _ _ _ us hl => match us, hl with | [_, _], _ => rfl⟩⟩,
    ⟨⟨_, _, _, _, _, _, _, _, _, _, PySem.W.mg_of X G a39, l39, c39, k39, (fun_mk (st := s39) l39 c39 k39).binds (ps := ["thing"]) fun _ _ _ _ _ _ us hl => match us, hl with | [_], _ => rfl⟩⟩,
    ⟨⟨_, _, _, _, _, _, _, _, _, _, PySem.W.mg_of X G a40, l40, c40, k40, (fun_mk (st := s40) l40 c40 k40).binds (ps := ["one", "other"]) fun _ _ _ _ _ _ us hl => match us, hl with | [_, _], _ => rfl⟩⟩,
    ⟨⟨_, _, _, _, _, _, _, _, _, _, PySem.W.mg_of X G a41, l41, c41, k41, (fun_mk (st := s41) l41 c41 k41).binds (ps := ["volumes"]) fun _ _ _ _ _ _ us hl => match us, hl with | [_], _ => rfl⟩⟩,
    ⟨⟨_, _, _, _, _, _, _, _, _, _, PySem.W.mg_of X G a42, l42, c42, k42, (fun_mk (st := s42) l42 c42 k42).binds (ps := ["things"]) fun _ _ _ _ _ _ us hl => match us, hl with | [_], _ => rfl⟩⟩,
    ⟨⟨_, _, _, _, _, _, _, _, _, _, PySem.W.mg_of X G a43, l43, c43, k43, (fun_mk (st := s43) l43 c43 k43).binds (ps := ["box", "volumes"]) fun _ _ _ _ _ _ us hl => match us, hl with | [_, _], _ => rfl⟩⟩,
    ⟨⟨_, _, _, _, _, _, _, _, _, _, PySem.W.mg_of X G a44, l44, c44, k44, (fun_mk (st := s44) l44 c44 k44).binds (ps := ["script"]) fun _ _ _ _ _ _ us hl => match us, hl with | [_], _ => rfl⟩⟩⟩
  refine ⟨PySem.W.fnOf "law" "law" (defArgs s44) (defBody s44) (defScope s44) .none kV44 doc44 pm44 an44 cd44 ct44, fun i => match i with | 0 => some C_NoMark | 1 => some C_NoName | 2 => some C_NoNumber | 3 => some C_NoVolume | _ => none, fun ns => mOf D gl ns 12 d44, fun s v => .of_eq rfl, ok, fun a ns base _ _ sm => ?_⟩
  exact fn_law (t := ⟨K, fun i => match i with | 0 => some C_NoMark | 1 => some C_NoName | 2 => some C_NoNumber | 3 => some C_NoVolume | _ => none, a, ns, none⟩) rfl rfl sm l44 c44 sc44 rfl rfl fun A outer s H E O hr => w44 (tx_all (K := K) (mg := mg) (t := ⟨K, fun i => match i with | 0 => some C_NoMark | 1 => some C_NoName | 2 => some C_NoNumber | 3 => some C_NoVolume | _ => none, a, ns, none⟩) rfl rfl sm F 11) O hr
end Mi
open PySem PySem.W PyProof.Rows
set_option maxRecDepth 100000 in
set_option maxHeartbeats 0 in
theorem PySem.Challenge.cw_shelvesmoved_k09_volumes_order_holds : PySem.Challenge.rw_shelvesmoved_k09_volumes_order.Holds := by
  w_on; o_law; k_head; (case hw => w_witness2)
  k_fill
  refine Mi.walk_g (l := PySem.Challenge.rw_shelvesmoved_k09_volumes_order) (n := 63) (k := 15) (x := "script") rfl (by decide) rfl (by decide +kernel) ⟨rfl, by decide, by decide⟩ (fun w h Y => PySem.W.kIn_of Y) ?F
  case F =>
    intro w mg fa h KX G hmg
    refine' Mi.lw_mk KX G hmg ?a0 ?l0 ?c0 ?k0 ?a1 ?l1 ?c1 ?k1 ?a2 ?l2 ?c2 ?k2 ?a3 ?l3 ?c3 ?k3 ?a4 ?l4 ?c4 ?k4 ?a5 ?l5 ?c5 ?k5 ?a6 ?l6 ?c6 ?k6 ?a7 ?l7 ?c7 ?k7 ?a8 ?l8 ?c8 ?k8 ?a9 ?l9 ?c9 ?k9 ?a10 ?l10 ?c10 ?k10 ?a11 ?l11 ?c11 ?k11 ?a12 ?l12 ?c12 ?k12 ?a13 ?l13 ?c13 ?k13 ?a14 ?l14 ?c14 ?k14 ?a15 ?l15 ?c15 ?k15 ?a16 ?l16 ?c16 ?k16 ?a17 ?l17 ?c17 ?k17 ?a18 ?l18 ?c18 ?k18 ?a19 ?l19 ?c19 ?k19 ?a20 ?l20 ?c20 ?k20 ?a21 ?l21 ?c21 ?k21 ?a22 ?l22 ?c22 ?k22 ?a23 ?l23 ?c23 ?k23 ?a24 ?l24 ?c24 ?k24 ?a25 ?l25 ?c25 ?k25 ?a26 ?l26 ?c26 ?k26 ?a27 ?l27 ?c27 ?k27 ?a28 ?l28 ?c28 ?k28 ?a29 ?l29 ?c29 ?k29 ?a30 ?l30 ?c30 ?k30 ?a31 ?l31 ?c31 ?k31 ?a32 ?l32 ?c32 ?k32 ?a33 ?l33 ?c33 ?k33 ?a34 ?l34 ?c34 ?k34 ?a35 ?l35 ?c35 ?k35 ?a36 ?l36 ?c36 ?k36 ?a37 ?l37 ?c37 ?k37 ?a38 ?l38 ?c38 ?k38 ?a39 ?l39 ?c39 ?k39 ?a40 ?l40 ?c40 ?k40 ?a41 ?l41 ?c41 ?k41 ?a42 ?l42 ?c42 ?k42 ?a43 ?l43 ?c43 ?k43 ?a44 ?l44 ?c44 ?k44 ?zn_all ?zn_bool ?zn_int ?zn_isinstance ?zn_len ?zn_list ?zn_max ?zn_min ?zn_range ?zn_repr ?zn_str ?zn_tuple ?zn_zip ?zc_FIGURES ?zc_LETTERS ?zc_MOST_LETTERS ?zc_MOST_NUMBER ?zc_MOST_PARTS ?zc_MOST_SIGNS ?zc_MOST_SIZE ?zc_MOST_WIDTH ?rA ?rR ?rG ?rV ?rK ?rL ?rC ?rN ?rF ?xA_NoMark ?xL_NoMark ?xS_NoMark ?xI_NoMark ?xT_NoMark ?xE_NoMark ?xY_NoMark ?xK_NoMark ?xX_NoMark ?xG_NoMark ?xH_NoMark ?xF_NoMark ?xC_NoMark ?xJ_NoMark ?xN_NoMark_found ?xA_NoName ?xL_NoName ?xS_NoName ?xI_NoName ?xT_NoName ?xE_NoName ?xY_NoName ?xK_NoName ?xX_NoName ?xG_NoName ?xH_NoName ?xF_NoName ?xC_NoName ?xJ_NoName ?xN_NoName_found ?xA_NoNumber ?xL_NoNumber ?xS_NoNumber ?xI_NoNumber ?xT_NoNumber ?xE_NoNumber ?xY_NoNumber ?xK_NoNumber ?xX_NoNumber ?xG_NoNumber ?xH_NoNumber ?xF_NoNumber ?xC_NoNumber ?xJ_NoNumber ?xN_NoNumber_found ?xA_NoVolume ?xL_NoVolume ?xS_NoVolume ?xI_NoVolume ?xT_NoVolume ?xE_NoVolume ?xY_NoVolume ?xK_NoVolume ?xX_NoVolume ?xG_NoVolume ?xH_NoVolume ?xF_NoVolume ?xC_NoVolume ?xJ_NoVolume ?xN_NoVolume_found ?yE_ShelvesError ?yI_ShelvesError ?yY_ShelvesError ?ys_ShelvesError_NoMark ?ys_ShelvesError_NoName ?ys_ShelvesError_NoNumber ?ys_ShelvesError_NoVolume ?yE_NoNumber ?yI_NoNumber ?yY_NoNumber ?ys_NoNumber_NoMark ?ys_NoNumber_NoName ?ys_NoNumber_NoNumber ?ys_NoNumber_NoVolume ?yE_NoMark ?yI_NoMark ?yY_NoMark ?ys_NoMark_NoMark ?ys_NoMark_NoName ?ys_NoMark_NoNumber ?ys_NoMark_NoVolume ?yE_NoName ?yI_NoName ?yY_NoName ?ys_NoName_NoMark ?ys_NoName_NoName ?ys_NoName_NoNumber ?ys_NoName_NoVolume ?yE_NoVolume ?yI_NoVolume ?yY_NoVolume ?ys_NoVolume_NoMark ?ys_NoVolume_NoName ?ys_NoVolume_NoNumber ?ys_NoVolume_NoVolume Mi.law_ok
    (case a0 => k_is); (case l0 => k_is); (case c0 => k_is); (case k0 => k_is)
    (case a1 => k_is); (case l1 => k_is); (case c1 => k_is); (case k1 => k_is)
    (case a2 => k_is); (case l2 => k_is); (case c2 => k_is); (case k2 => k_is)
    (case a3 => k_is); (case l3 => k_is); (case c3 => k_is); (case k3 => k_is)
    (case a4 => k_is); (case l4 => k_is); (case c4 => k_is); (case k4 => k_is)
    (case a5 => k_is); (case l5 => k_is); (case c5 => k_is); (case k5 => k_is)
    (case a6 => k_is); (case l6 => k_is); (case c6 => k_is); (case k6 => k_is)
    (case a7 => k_is); (case l7 => k_is); (case c7 => k_is); (case k7 => k_is)
    (case a8 => k_is); (case l8 => k_is); (case c8 => k_is); (case k8 => k_is)
    (case a9 => k_is); (case l9 => k_is); (case c9 => k_is); (case k9 => k_is)
    (case a10 => k_is); (case l10 => k_is); (case c10 => k_is); (case k10 => k_is)
    (case a11 => k_is); (case l11 => k_is); (case c11 => k_is); (case k11 => k_is)
    (case a12 => k_is); (case l12 => k_is); (case c12 => k_is); (case k12 => k_is)
    (case a13 => k_is); (case l13 => k_is); (case c13 => k_is); (case k13 => k_is)
    (case a14 => k_is); (case l14 => k_is); (case c14 => k_is); (case k14 => k_is)
    (case a15 => k_is); (case l15 => k_is); (case c15 => k_is); (case k15 => k_is)
    (case a16 => k_is); (case l16 => k_is); (case c16 => k_is); (case k16 => k_is)
    (case a17 => k_is); (case l17 => k_is); (case c17 => k_is); (case k17 => k_is)
    (case a18 => k_is); (case l18 => k_is); (case c18 => k_is); (case k18 => k_is)
    (case a19 => k_is); (case l19 => k_is); (case c19 => k_is); (case k19 => k_is)
    (case a20 => k_is); (case l20 => k_is); (case c20 => k_is); (case k20 => k_is)
    (case a21 => k_is); (case l21 => k_is); (case c21 => k_is); (case k21 => k_is)
    (case a22 => k_is); (case l22 => k_is); (case c22 => k_is); (case k22 => k_is)
    (case a23 => k_is); (case l23 => k_is); (case c23 => k_is); (case k23 => k_is)
    (case a24 => k_is); (case l24 => k_is); (case c24 => k_is); (case k24 => k_is)
    (case a25 => k_is); (case l25 => k_is); (case c25 => k_is); (case k25 => k_is)
    (case a26 => k_is); (case l26 => k_is); (case c26 => k_is); (case k26 => k_is)
    (case a27 => k_is); (case l27 => k_is); (case c27 => k_is); (case k27 => k_is)
    (case a28 => k_is); (case l28 => k_is); (case c28 => k_is); (case k28 => k_is)
    (case a29 => k_is); (case l29 => k_is); (case c29 => k_is); (case k29 => k_is)
    (case a30 => k_is); (case l30 => k_is); (case c30 => k_is); (case k30 => k_is)
    (case a31 => k_is); (case l31 => k_is); (case c31 => k_is); (case k31 => k_is)
    (case a32 => k_is); (case l32 => k_is); (case c32 => k_is); (case k32 => k_is)
    (case a33 => k_is); (case l33 => k_is); (case c33 => k_is); (case k33 => k_is)
    (case a34 => k_is); (case l34 => k_is); (case c34 => k_is); (case k34 => k_is)
    (case a35 => k_is); (case l35 => k_is); (case c35 => k_is); (case k35 => k_is)
    (case a36 => k_is); (case l36 => k_is); (case c36 => k_is); (case k36 => k_is)
    (case a37 => k_is); (case l37 => k_is); (case c37 => k_is); (case k37 => k_is)
    (case a38 => k_is); (case l38 => k_is); (case c38 => k_is); (case k38 => k_is)
    (case a39 => k_is); (case l39 => k_is); (case c39 => k_is); (case k39 => k_is)
    (case a40 => k_is); (case l40 => k_is); (case c40 => k_is); (case k40 => k_is)
    (case a41 => k_is); (case l41 => k_is); (case c41 => k_is); (case k41 => k_is)
    (case a42 => k_is); (case l42 => k_is); (case c42 => k_is); (case k42 => k_is)
    (case a43 => k_is); (case l43 => k_is); (case c43 => k_is); (case k43 => k_is)
    (case a44 => k_is); (case l44 => k_is); (case c44 => k_is); (case k44 => k_is)
    (case zn_all => k_is); (case zn_bool => k_is); (case zn_int => k_is); (case zn_isinstance => k_is)
    (case zn_len => k_is); (case zn_list => k_is); (case zn_max => k_is); (case zn_min => k_is)
    (case zn_range => k_is); (case zn_repr => k_is); (case zn_str => k_is); (case zn_tuple => k_is)
    (case zn_zip => k_is); (case zc_FIGURES => k_is); (case zc_LETTERS => k_is); (case zc_MOST_LETTERS => k_is)
    (case zc_MOST_NUMBER => k_is); (case zc_MOST_PARTS => k_is); (case zc_MOST_SIGNS => k_is); (case zc_MOST_SIZE => k_is)
    (case zc_MOST_WIDTH => k_is); (case rA => k_is); (case rR => k_is); (case rG => k_is)
    (case rV => k_is); (case rK => k_is); (case rL => k_is); (case rC => k_is)
    (case rN => k_is); (case rF => k_is); (case xA_NoMark => k_is); (case xL_NoMark => k_is)
    (case xS_NoMark => k_is); (case xI_NoMark => k_is); (case xT_NoMark => k_is); (case xE_NoMark => k_is)
    (case xY_NoMark => k_is); (case xK_NoMark => k_is); (case xX_NoMark => k_is); (case xG_NoMark => k_is)
    (case xH_NoMark => k_is); (case xF_NoMark => k_is); (case xC_NoMark => k_is); (case xJ_NoMark => k_is)
    (case xN_NoMark_found => k_is); (case xA_NoName => k_is); (case xL_NoName => k_is); (case xS_NoName => k_is)
    (case xI_NoName => k_is); (case xT_NoName => k_is); (case xE_NoName => k_is); (case xY_NoName => k_is)
    (case xK_NoName => k_is); (case xX_NoName => k_is); (case xG_NoName => k_is); (case xH_NoName => k_is)
    (case xF_NoName => k_is); (case xC_NoName => k_is); (case xJ_NoName => k_is); (case xN_NoName_found => k_is)
    (case xA_NoNumber => k_is); (case xL_NoNumber => k_is); (case xS_NoNumber => k_is); (case xI_NoNumber => k_is)
    (case xT_NoNumber => k_is); (case xE_NoNumber => k_is); (case xY_NoNumber => k_is); (case xK_NoNumber => k_is)
    (case xX_NoNumber => k_is); (case xG_NoNumber => k_is); (case xH_NoNumber => k_is); (case xF_NoNumber => k_is)
    (case xC_NoNumber => k_is); (case xJ_NoNumber => k_is); (case xN_NoNumber_found => k_is); (case xA_NoVolume => k_is)
    (case xL_NoVolume => k_is); (case xS_NoVolume => k_is); (case xI_NoVolume => k_is); (case xT_NoVolume => k_is)
    (case xE_NoVolume => k_is); (case xY_NoVolume => k_is); (case xK_NoVolume => k_is); (case xX_NoVolume => k_is)
    (case xG_NoVolume => k_is); (case xH_NoVolume => k_is); (case xF_NoVolume => k_is); (case xC_NoVolume => k_is)
    (case xJ_NoVolume => k_is); (case xN_NoVolume_found => k_is); (case yE_ShelvesError => k_is); (case yI_ShelvesError => k_is)
    (case yY_ShelvesError => k_is); (case ys_ShelvesError_NoMark => k_is); (case ys_ShelvesError_NoName => k_is); (case ys_ShelvesError_NoNumber => k_is)
    (case ys_ShelvesError_NoVolume => k_is); (case yE_NoNumber => k_is); (case yI_NoNumber => k_is); (case yY_NoNumber => k_is)
    (case ys_NoNumber_NoMark => k_is); (case ys_NoNumber_NoName => k_is); (case ys_NoNumber_NoNumber => k_is); (case ys_NoNumber_NoVolume => k_is)
    (case yE_NoMark => k_is); (case yI_NoMark => k_is); (case yY_NoMark => k_is); (case ys_NoMark_NoMark => k_is)
    (case ys_NoMark_NoName => k_is); (case ys_NoMark_NoNumber => k_is); (case ys_NoMark_NoVolume => k_is); (case yE_NoName => k_is)
    (case yI_NoName => k_is); (case yY_NoName => k_is); (case ys_NoName_NoMark => k_is); (case ys_NoName_NoName => k_is)
    (case ys_NoName_NoNumber => k_is); (case ys_NoName_NoVolume => k_is); (case yE_NoVolume => k_is); (case yI_NoVolume => k_is)
    (case yY_NoVolume => k_is); (case ys_NoVolume_NoMark => k_is); (case ys_NoVolume_NoName => k_is); (case ys_NoVolume_NoNumber => k_is)
    (case ys_NoVolume_NoVolume => k_is)
#print axioms PySem.Challenge.cw_shelvesmoved_k09_volumes_order_holds

