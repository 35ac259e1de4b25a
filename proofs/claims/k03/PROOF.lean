import PyProof.Rows.All
import Wide.All
import OpenK.AllK
import Wide.FinOn
import HandS.ForMost
import PyProof.ReprReads
import HandS.EndBits
import HandS.WideBits
import HandS.Conv
import HandS.Deep
import HandS.SortInts
import HandS.TupAny
import HandS.IsInst
import HandS.AnyAll
import HandS.Style
import HandS.Small
import HandS.TryOnly
import HandS.SetFor
import PyProof.FactsAll.list_3
import PySem.Challenge.RW_holesleft_k03_deeds_and_weavings_without
set_option Elab.async false
set_option linter.all false
section
/-! A value semantics for the part of Python that the program and the laws are written in: data D, trees of owned objects T, slots, codes and their evaluation. -/
namespace Mv
open PySem L2

/-- data that nobody changes any more -/
inductive D where
  | none | bool (b : Bool) | int (i : Int) | str (s : Str)
  | list (xs : List D) | tup (xs : List D) | dict (ks : List Key) (xs : List D)
  deriving Inhabited
/-- a tree: what is frozen, and objects that one place owns -/
inductive T where
  | fz (d : D) | lst (ts : List T) | tup (ts : List T) | dct (ks : List Key) (ts : List T)
  deriving Inhabited

mutual
def T.toD : T → D
  | .fz d => d
  | .lst ts => .list (T.toDs ts)
  | .tup ts => .tup (T.toDs ts)
  | .dct ks ts => .dict ks (T.toDs ts)
def T.toDs : List T → List D
  | [] => []
  | t :: ts => T.toD t :: T.toDs ts
end
mutual
def D.toPy : D → PyData
  | .none => .none | .bool b => .bool b | .int i => .int i | .str s => .str s
  | .list xs => .list (D.toPys xs)
  | .tup xs => .tuple (D.toPys xs)
  | .dict _ _ => .dict []
def D.toPys : List D → List PyData
  | [] => []
  | d :: ds => D.toPy d :: D.toPys ds
end
mutual
/-- no dicts; the depth at most n -/
def D.shp : Nat → D → Bool
  | _, .none => true | _, .bool _ => true | _, .int _ => true | _, .str x => PyData.strOk x
  | 0, .list _ => false | 0, .tup _ => false
  | n + 1, .list xs => D.shps n xs
  | n + 1, .tup xs => D.shps n xs
  | _, .dict _ _ => false
def D.shps : Nat → List D → Bool
  | _, [] => true
  | n, d :: ds => D.shp n d && D.shps n ds
end
/-- all frozen children -/
def T.unfz : T → Option D
  | .fz d => some d
  | _ => .none
def T.unfzs : List T → Option (List D)
  | [] => some []
  | t :: ts => match T.unfz t, T.unfzs ts with
    | some d, some ds => some (d :: ds)
    | _, _ => .none
def fzs (ds : List D) : List T := ds.map T.fz
/-- an owned list of frozen things -/
def T.fl (ds : List D) : T := .lst (fzs ds)
/-- a list of frozen things, owned or not -/
def T.flat : T → Option (List D)
  | .fz (.list ds) => some ds
  | .lst ts => T.unfzs ts
  | _ => .none
def mkTup (ts : List T) : T := match T.unfzs ts with
  | some ds => .fz (.tup ds)
  | .none => .tup ts

inductive Slot where
  | no | ow (t : T) | io (t : T) | al (i k : Nat)
  deriving Inhabited
abbrev Env := List Slot
/-- a value on the way: a tree, or a place: a slot, or the k-th child of what the slot owns -/
inductive Val where
  | t (t : T) | pt (i : Nat) (k : Option Nat)
  deriving Inhabited
def slotT : Option Slot → Option T
  | some (.ow t) => some t
  | some (.io t) => some t
  | _ => .none
def getPt (ρ : Env) (i : Nat) : Option Nat → Option T
  | .none => slotT ρ[i]?
  | some k => match slotT ρ[i]? with
    | some (.lst ts) => ts[k]?
    | _ => .none
def rdName (ρ : Env) (i : Nat) : Option Val := match ρ[i]? with
  | some (.ow t) => some (match t with | .fz d => .t (.fz d) | _ => .pt i .none)
  | some (.io t) => some (match t with | .fz d => .t (.fz d) | _ => .pt i .none)
  | some (.al j k) => match getPt ρ j (some k) with
    | some (.fz d) => some (.t (.fz d))
    | some _ => some (.pt j (some k))
    | .none => .none
  | _ => .none
def resolve (ρ : Env) : Val → Option T
  | .t t => some t
  | .pt i k => getPt ρ i k
def setSlotT (ρ : Env) (i : Nat) (t : T) : Option Env := match ρ[i]? with
  | some (.ow _) => some (ρ.set i (.ow t))
  | some (.io _) => some (ρ.set i (.io t))
  | _ => .none
def setPt (ρ : Env) (i : Nat) (k : Option Nat) (t : T) : Option Env := match k with
  | .none => setSlotT ρ i t
  | some k => match slotT ρ[i]? with
    | some (.lst ts) => if k < ts.length then setSlotT ρ i (.lst (ts.set k t)) else .none
    | _ => .none
/-- what lies at a place is frozen (the whole of an inout slot can't be) -/
def fzVal (ρ : Env) : Val → Option (T × Env)
  | .t t => some (t, ρ)
  | .pt i k => match getPt ρ i k, k, ρ[i]? with
    | some _, .none, some (.io _) => .none
    | some t, k, _ => (setPt ρ i k (.fz t.toD)).map fun ρ' => (.fz t.toD, ρ')
    | .none, _, _ => .none
def fzVals (ρ : Env) : List Val → Option (List T × Env)
  | [] => some ([], ρ)
  | v :: vs => match fzVal ρ v with
    | some (t, ρ1) => match fzVals ρ1 vs with
      | some (ts, ρ2) => some (t :: ts, ρ2)
      | .none => .none
    | .none => .none
def kill (j : Nat) (k : Option Nat) : Slot → Slot
  | .al i l => if i = j ∧ (k = .none ∨ k = some l) then .no else .al i l
  | s => s
def kills (j : Nat) (k : Option Nat) (ρ : Env) : Env := ρ.map (kill j k)
/-- a name is bound -/
def bindS (ρ : Env) (i : Nat) (v : Val) : Option Env := match ρ[i]? with
  | some (.io _) => .none
  | .none => .none
  | some _ => match v with
    | .t t => some ((kills i .none ρ).set i (.ow t))
    | .pt j (some k) => if j = i then .none else match getPt ρ j (some k) with
      | some _ => some ((kills i .none ρ).set i (.al j k))
      | .none => .none
    | .pt _ .none => .none

/-! ### operations -/
def okI (i : Int) : Bool := decide (i.natAbs < 2 ^ 8192)
def intOp (op : Operator) (i j : Int) : Option Int := match op with
  | .Add => some (i + j)
  | .Sub => some (i - j)
  | .Mult => if okI i && okI j then some (i * j) else .none
  | .FloorDiv => if decide (0 < j) && okI j then some (i / j) else .none
  | .Mod => if decide (0 < j) then some (i % j) else .none
  | .Pow => if decide (0 ≤ j) && decide (j ≤ 1000) && okI i then some (i ^ j.toNat) else .none
  | _ => .none
def okLen (n : Nat) : Bool := decide (n ≤ sizeLine)
def addT (a b : T) : Option T := match a, b with
  | .fz (.int i), .fz (.int j) => some (.fz (.int (i + j)))
  | .fz (.str x), .fz (.str y) => if okLen (x.length + y.length) then some (.fz (.str (x ++ y))) else .none
  | .fz (.tup xs), .fz (.tup ys) => if okLen (xs.length + ys.length) then some (.fz (.tup (xs ++ ys))) else .none
  | a, b => match a.flat, b.flat with
    | some xs, some ys => if okLen (xs.length + ys.length) then some (.fl (xs ++ ys)) else .none
    | _, _ => .none
def mulT (a b : T) : Option T := match a, b with
  | .fz (.int i), .fz (.int j) => if okI i && okI j then some (.fz (.int (i * j))) else .none
  | .lst ts, .fz (.int j) => match T.unfzs ts with
    | some ds => if decide (-(2 ^ 63) ≤ j) && decide (j < 2 ^ 63) && okLen (ds.length * j.toNat) then some (.fl (List.replicate j.toNat ds).flatten) else .none
    | .none => .none
  | _, _ => .none
def arT (op : Operator) (a b : T) : Option T := match a, b with
  | .fz (.int i), .fz (.int j) => (intOp op i j).map fun k => .fz (.int k)
  | _, _ => .none
def binT (op : Operator) (a b : T) : Option T := match op with
  | .Add => addT a b
  | .Mult => mulT a b
  | op => arT op a b
def deq (a b : D) : Option Bool := match a, b with
  | .str x, .str y => some (decide (x = y))
  | a, b => if a.shp 60 && b.shp 60 then some (PyData.eqv a.toPy b.toPy) else .none
def isNone : T → Bool
  | .fz .none => true
  | _ => false
def keyOf : D → Option Key
  | .int i => some (.inl i)
  | .str s => some (.inr s)
  | _ => .none
def keyD : Key → D
  | .inl i => .int i
  | .inr s => .str s
def itemsD (ks : List Key) (ds : List D) : List D := (ks.zip ds).map fun p => .tup [keyD p.1, p.2]
def flatD : D → Bool
  | .none => true | .bool _ => true | .int _ => true | .str _ => true
  | _ => false
def inT (x b : T) : Option Bool := match b with
  | .dct ks _ => match x with
    | .fz d => (keyOf d).map fun k => ks.any fun k' => decide (k' = k)
    | _ => .none
  | .fz (.dict ks _) => match x with
    | .fz d => (keyOf d).map fun k => ks.any fun k' => decide (k' = k)
    | _ => .none
  | .fz (.tup ds) => match x with
    | .fz d => if flatD d && ds.all flatD then some (ds.any fun z => PyData.eqv z.toPy d.toPy) else .none
    | _ => .none
  | b => match b.flat with
    | some ds => if x.toD.shp 60 && D.shps 60 ds then some (ds.any fun z => PyData.eqv z.toPy x.toD.toPy) else .none
    | .none => .none
def cmpT (op : CmpOp) (a b : T) : Option Bool := match op with
  | .Eq => deq a.toD b.toD
  | .NotEq => (deq a.toD b.toD).map (!·)
  | .Is => if isNone b then some (isNone a) else .none
  | .IsNot => if isNone b then some (!isNone a) else .none
  | .In => inT a b
  | .NotIn => (inT a b).map (!·)
  | .Lt => match a, b with | .fz (.int i), .fz (.int j) => some (decide (i < j)) | _, _ => .none
  | .LtE => match a, b with | .fz (.int i), .fz (.int j) => some (decide (i ≤ j)) | _, _ => .none
  | .Gt => match a, b with | .fz (.int i), .fz (.int j) => some (decide (j < i)) | _, _ => .none
  | .GtE => match a, b with | .fz (.int i), .fz (.int j) => some (decide (j ≤ i)) | _, _ => .none
/-- the place of a subscript -/
def place (i : Int) (n : Nat) : Option Nat := ixN n i
def findK (k : Key) : List Key → List α → Option α
  | k' :: ks, x :: xs => if k' = k then some x else findK k ks xs
  | _, _ => .none
def placeK (k : Key) : List Key → Nat → Option Nat
  | [], _ => .none
  | k' :: ks, n => if k' = k then some n else placeK k ks (n + 1)
def dictOf : T → Option (List Key × List T)
  | .dct ks ts => some (ks, ts)
  | .fz (.dict ks ds) => some (ks, fzs ds)
  | _ => .none
def dGet (ks : List Key) (ts : List T) : T → Option D
  | .fz d => match keyOf d with
    | some k => match findK k ks ts with
      | some t => T.unfz t
      | .none => .none
    | .none => .none
  | _ => .none
/-- a[i]: the child and, of an owned list, its place -/
def getIx (a : T) (i : T) : Option (T × Option Nat) := match a, i with
  | .fz (.list ds), .fz (.int i) => match place i ds.length with
    | some k => (ds[k]?).map fun d => (.fz d, .none)
    | .none => .none
  | .fz (.tup ds), .fz (.int i) => match place i ds.length with
    | some k => (ds[k]?).map fun d => (.fz d, .none)
    | .none => .none
  | .lst ts, .fz (.int i) => match place i ts.length with
    | some k => (ts[k]?).map fun t => (t, some k)
    | .none => .none
  | .tup ts, .fz (.int i) => match place i ts.length with
    | some k => (ts[k]?).map fun t => (t, .none)
    | .none => .none
  | _, _ => .none
/-- the value of a[i], a given as it came -/
def ixVal (ρ : Env) (a : Val) (i : T) : Option Val := match a with
  | .t t => (getIx t i).map fun p => .t p.1
  | .pt j l => match getPt ρ j l with
    | some t => match getIx t i with
      | some (.fz d, _) => some (.t (.fz d))
      | some (_, some k) => if l = .none then some (.pt j (some k)) else .none
      | _ => .none
    | .none => .none
/-- a[i] = t -/
def setIx (a : T) (i : T) (t : T) : Option T := match a, i with
  | .lst ts, .fz (.int i) => match place i ts.length with
    | some k => some (.lst (ts.set k t))
    | .none => .none
  | .dct ks ts, .fz d => match keyOf d, T.unfz t with
    | some k, some d => match placeK k ks 0 with
      | some n => if decide (ks.length < sizeLine) then some (.dct ks (ts.set n (.fz d))) else .none
      | .none => if decide (ks.length < sizeLine) then some (.dct (ks ++ [k]) (ts ++ [.fz d])) else .none
    | _, _ => .none
  | _, _ => .none
/-- where a place's child is replaced: the child's place -/
def ixPlace (a : T) (i : T) : Option Nat := match a, i with
  | .lst ts, .fz (.int i) => place i ts.length
  | _, _ => .none
def kIx (ρ : Env) (j : Nat) (k : Option Nat) (x i : T) : Env := match k with | .none => kills j (ixPlace x i) ρ | some _ => ρ
def appT (a : T) (t : T) : Option T := match a with
  | .lst ts => if decide (ts.length < sizeLine) then some (.lst (ts ++ [t])) else .none
  | _ => .none
/-- the truth of a value -/
def truT : T → Option Bool
  | .fz (.bool b) => some b
  | .fz .none => some false
  | .fz (.int i) => some (i != 0)
  | .fz (.list ds) => some (!ds.isEmpty)
  | .fz (.tup ds) => some (!ds.isEmpty)
  | .lst ts => some (!ts.isEmpty)
  | .dct ks _ => some (!ks.isEmpty)
  | _ => .none
def reprOk (d : D) : Bool := d.shp 60 && PyData.showable d.toPy && decide (d.toPy.shown.length ≤ sizeLine)
def intsOf : List D → Option (List Int)
  | [] => some []
  | .int i :: ds => (intsOf ds).map (i :: ·)
  | _ => .none
def boolsOf : List D → Option (List Bool)
  | [] => some []
  | .bool i :: ds => (boolsOf ds).map (i :: ·)
  | _ => .none
def sortI (ns : List Int) : List Int := ns.mergeSort (fun a b => decide (a ≤ b))
def maxI (n : Int) : List Int → Int
  | [] => n
  | m :: ms => maxI (if m > n then m else n) ms
def minI (n : Int) : List Int → Int
  | [] => n
  | m :: ms => minI (if m < n then m else n) ms

inductive Blt where
  | len | abs | int | list | repr | sorted | all | any | sum | max1 | min1 | max2 | min2 | divmod | isint | isbool | isstr | islist | istup
  deriving DecidableEq
def appB (f : Blt) (ts : List T) : Option T := match f, ts with
  | .len, [.fz (.list ds)] => some (.fz (.int ds.length))
  | .len, [.fz (.tup ds)] => some (.fz (.int ds.length))
  | .len, [.lst ts] => some (.fz (.int ts.length))
  | .abs, [.fz (.int i)] => some (.fz (.int (if i < 0 then -i else i)))
  | .int, [.fz (.int i)] => some (.fz (.int i))
  | .int, [.fz (.bool b)] => some (.fz (.int (if b then 1 else 0)))
  | .list, [a] => (a.flat).map T.fl
  | .repr, [a] => if reprOk a.toD then some (.fz (.str a.toD.toPy.shown)) else .none
  | .sorted, [a] => match a.flat with
    | some ds => (intsOf ds).map fun ns => .fl ((sortI ns).map D.int)
    | .none => .none
  | .all, [a] => match a.flat with
    | some ds => (boolsOf ds).map fun bs => .fz (.bool (bs.all id))
    | .none => .none
  | .any, [a] => match a.flat with
    | some ds => (boolsOf ds).map fun bs => .fz (.bool (bs.any id))
    | .none => .none
  | .sum, [a] => match a.flat with
    | some ds => (intsOf ds).map fun ns => .fz (.int ns.sum)
    | .none => .none
  | .max1, [a] => match a.flat with
    | some ds => match intsOf ds with
      | some (n :: ns) => some (.fz (.int (maxI n ns)))
      | _ => .none
    | .none => .none
  | .min1, [a] => match a.flat with
    | some ds => match intsOf ds with
      | some (n :: ns) => some (.fz (.int (minI n ns)))
      | _ => .none
    | .none => .none
  | .max2, [.fz (.int i), .fz (.int j)] => some (.fz (.int (if j > i then j else i)))
  | .min2, [.fz (.int i), .fz (.int j)] => some (.fz (.int (if j < i then j else i)))
  | .divmod, [.fz (.int i), .fz (.int j)] => if decide (0 < j) && okI j then some (.fz (.tup [.int (i / j), .int (i % j)])) else .none
  | .isint, [a] => some (.fz (.bool (match a with | .fz (.int _) => true | .fz (.bool _) => true | _ => false)))
  | .isbool, [a] => some (.fz (.bool (match a with | .fz (.bool _) => true | _ => false)))
  | .isstr, [a] => some (.fz (.bool (match a with | .fz (.str _) => true | _ => false)))
  | .islist, [a] => some (.fz (.bool (match a with | .fz (.list _) => true | .lst _ => true | _ => false)))
  | .istup, [a] => some (.fz (.bool (match a with | .fz (.tup _) => true | .tup _ => true | _ => false)))
  | _, _ => .none

/-! ### codes -/
inductive Tgt where
  | nm (i : Nat) | tp (is : List Nat)
  deriving DecidableEq
mutual
inductive C where
  | var (i : Nat) | mv (i : Nat) | kst (d : D) | gl (g : Nat) | fzv (c : C)
  | tup (es : Cs) | list (es : Cs) | dict0
  | bin (op : Operator) (a b : C) | neg (a : C) | notv (a : C)
  | boolop (op : BoolOp) (a b : C)
  | cmp (op : CmpOp) (a b : C) | chain (o1 o2 : CmpOp) (a b c : C)
  | ite (c : Tc) (a b : C)
  | ix (a i : C) | sl (a : C) (lo hi : Co)
  | call (k : Nat) (es : Cs) | callk (k : Nat) (perm : List Nat) (es : Cs)
  | blt (f : Blt) (es : Cs)
  | get2 (o k d : C) | get1 (o k : C)
  | rv (a : C) | lrg1 (a : C) | lrg2 (a b : C) | cnt (o k : C) | idx (o k : C)
  | lc (own : List (Str × Nat)) (tg : Tgt) (it : I) (tests : Tco) (elt : C)
  | lci (own : List (Str × Nat)) (i : Nat) (tg : Tgt) (tests : Tco) (elt : C)
/-- a test -/
inductive Tc where
  | val (c : C) | not (t : Tc) | bool (op : BoolOp) (ts : Tcs) | cmp (op : CmpOp) (a b : C) | chain (o1 o2 : CmpOp) (a b c : C)
inductive Tcs where
  | one (t : Tc) | cons (t : Tc) (ts : Tcs)
inductive Tco where
  | none | some (t : Tc)
inductive Cs where
  | nil | cons (c : C) (cs : Cs)
inductive Co where
  | none | some (c : C)
inductive I where
  | seq (c : C) | rng1 (a : C) | rng2 (a b : C) | enum (c : C) | brw (c : C)
end
mutual
inductive S where
  | set (i : Nat) (c : C) | setT (is : List Nat) (c : C) | setL (is : List Nat) (c : C) | par (is : List Nat) (es : Cs)
  | sto (b i c : C) | aug (i : Nat) (op : Operator) (c : C)
  | app (b c : C)
  | exp (c : C) | ret (c : C) | retN
  | ite (c : Tc) (a b : Ss)
  | for (tg : Tgt) (it : I) (b : Ss)
  | while (fuel : Nat) (c : Tc) (b : Ss)
  | pass | cont | brk | stuck
inductive Ss where
  | nil | cons (s : S) (ss : Ss)
end

/-- a def: which parameters it changes; what it gives, and the changed ones -/
structure Fn where
  io : List Bool
  run : List T → Option (T × List T)
structure Gam where
  fns : List Fn
  gls : List D

mutual
/-- may the evaluation change an object that was there? -/
def C.wr : C → Bool
  | .var _ => false | .mv _ => false | .kst _ => false | .gl _ => false | .fzv c => c.wr
  | .tup es => es.wr | .list es => es.wr | .dict0 => false
  | .bin _ a b => a.wr || b.wr | .neg a => a.wr | .notv a => a.wr
  | .boolop _ a b => a.wr || b.wr
  | .cmp _ a b => a.wr || b.wr | .chain _ _ a b c => a.wr || b.wr || c.wr
  | .ite c a b => c.wr || a.wr || b.wr
  | .ix a i => a.wr || i.wr | .sl a lo hi => a.wr || lo.wr || hi.wr
  | .call _ _ => true | .callk _ _ _ => true
  | .blt _ es => es.wr
  | .get2 o k d => o.wr || k.wr || d.wr | .get1 o k => o.wr || k.wr
  | .rv a => a.wr | .lrg1 a => a.wr | .lrg2 a b => a.wr || b.wr | .cnt o k => o.wr || k.wr | .idx o k => o.wr || k.wr
  | .lc _ _ _ _ _ => true | .lci _ _ _ _ _ => true
def Tc.wr : Tc → Bool
  | .val c => c.wr | .not t => t.wr | .bool _ ts => ts.wr | .cmp _ a b => a.wr || b.wr | .chain _ _ a b c => a.wr || b.wr || c.wr
def Tcs.wr : Tcs → Bool
  | .one t => t.wr | .cons t ts => t.wr || ts.wr
def Cs.wr : Cs → Bool
  | .nil => false
  | .cons c cs => c.wr || cs.wr
def Co.wr : Co → Bool
  | .none => false
  | .some c => c.wr
end
def Tco.wr : Tco → Bool
  | .none => false
  | .some t => t.wr
def I.isBrw : I → Bool
  | .brw _ => true
  | _ => false
/-- a value stands while a code is evaluated -/
def stands (v : Val) (wr : Bool) : Bool := match v with
  | .pt _ (some _) => !wr
  | _ => true

def wipeE (ρ : Env) : List Nat → Env
  | [] => ρ
  | o :: os => (kills o .none (wipeE ρ os)).set o .no
/-- what is left of a slot whose name a comprehension takes -/
def keepS : Option Slot → Slot
  | some (.ow (.fz d)) => .ow (.fz d)
  | _ => .no
def restore (ρ1 : Env) (own : List Nat) (ρ5 : Env) : Env := match own with
  | [] => ρ5
  | o :: os => (restore ρ1 os ρ5).set o (keepS ρ1[o]?)
def ownOk (_ : Env) (_ : List Nat) : Bool := true
/-- the targets of a for -/
def bindD (ρ : Env) : Tgt → D → Option Env
  | .nm i, d => bindS ρ i (.t (.fz d))
  | .tp is, .tup ds => if is.length = ds.length then go ρ is ds else .none
  | .tp _, _ => .none
where go (ρ : Env) : List Nat → List D → Option Env
  | i :: is, d :: ds => (bindS ρ i (.t (.fz d))).bind fun ρ1 => go ρ1 is ds
  | _, _ => some ρ
def bindTs (ρ : Env) : List Nat → List T → Option Env
  | [], [] => some ρ
  | i :: is, t :: ts => (bindS ρ i (.t t)).bind fun ρ1 => bindTs ρ1 is ts
  | _, _ => .none
def bindVs (ρ : Env) : List Nat → List Val → Option Env
  | [], [] => some ρ
  | i :: is, v :: vs => (bindS ρ i v).bind fun ρ1 => bindVs ρ1 is vs
  | _, _ => .none
/-- nothing in it may change: no list, no dict -/
def D.imm : D → Bool
  | .none => true | .bool _ => true | .int _ => true | .str _ => true
  | .list _ => false | .dict _ _ => false
  | .tup xs => D.imms xs
where D.imms : List D → Bool
  | [] => true
  | d :: ds => D.imm d && D.imms ds
mutual
/-- all that is frozen in it is .imm -/
def T.imm : T → Bool
  | .fz d => d.imm
  | .lst ts => T.imms ts | .tup ts => T.imms ts | .dct _ ts => T.imms ts
def T.imms : List T → Bool
  | [] => true
  | t :: ts => T.imm t && T.imms ts
end
/-- the arguments of a call -/
def argTs (ρ : Env) : List Bool → List Val → Option (List T)
  | [], [] => some []
  | true :: io, .pt i .none :: vs => match slotT ρ[i]?, argTs ρ io vs with
    | some t, some ts => some (t :: ts)
    | _, _ => .none
  | false :: io, v :: vs => match resolve ρ v, argTs ρ io vs with
    | some t, some ts => some (.fz t.toD :: ts)
    | _, _ => .none
  | _, _ => .none
/-- the changed arguments are put back -/
def putIo (ρ : Env) : List Bool → List Val → List T → Option Env
  | [], [], [] => some ρ
  | true :: io, .pt i .none :: vs, t :: ts => (setSlotT ρ i t).bind fun ρ1 => putIo ρ1 io vs ts
  | false :: io, _ :: vs, ts => putIo ρ io vs ts
  | _, _, _ => .none
def ioSlots : List Bool → List Val → List Nat
  | true :: io, .pt i .none :: vs => i :: ioSlots io vs
  | _ :: io, _ :: vs => ioSlots io vs
  | _, _ => []
def killAll (ρ : Env) : List Nat → Env
  | [] => ρ
  | i :: is => kills i .none (killAll ρ is)
/-- the slots of the places that are read -/
def rdSlots : List Bool → List Val → List Nat
  | false :: io, .pt i _ :: vs => i :: rdSlots io vs
  | _ :: io, _ :: vs => rdSlots io vs
  | _, _ => []
mutual
def T.noTup : T → Bool
  | .fz _ => true
  | .lst ts => T.noTups ts | .tup _ => false | .dct _ ts => T.noTups ts
def T.noTups : List T → Bool
  | [] => true
  | t :: ts => T.noTup t && T.noTups ts
end
def brOk (ρ : Env) (is : List Nat) : Bool := is.all fun i => match slotT ρ[i]? with
  | some t => t.noTup
  | .none => false
def ioOk (io : List Bool) (vs : List Val) : Bool := decide (ioSlots io vs).Nodup && (rdSlots io vs).all fun i => !(ioSlots io vs).contains i
def callF (f : Fn) (ρ : Env) (vs : List Val) : Option (T × Env) :=
  if ioOk f.io vs then
    match argTs ρ f.io vs with
    | some ts => match f.run ts with
      | some (t, ios) =>
        if (rdSlots f.io vs).isEmpty || (t.imm && T.imms ios && brOk ρ (rdSlots f.io vs)) then (putIo (killAll ρ (ioSlots f.io vs)) f.io vs ios).map fun ρ1 => (t, ρ1)
        else .none
      | .none => .none
    | .none => .none
  else .none
def resolves (ρ : Env) : List Val → Option (List T)
  | [] => some []
  | v :: vs => match resolve ρ v, resolves ρ vs with
    | some t, some ts => some (t :: ts)
    | _, _ => .none
def permV (perm : List Nat) (vs : List Val) : Option (List Val) := match perm with
  | [] => some []
  | i :: is => match vs[i]?, permV is vs with
    | some v, some r => some (v :: r)
    | _, _ => .none
def T.int? : T → Option Int
  | .fz (.int i) => some i
  | _ => .none
/-- bounds of a range that is gone through: any -/
def okR (_ : Int) : Bool := true
def okR0 (i : Int) : Bool := decide (-(2 ^ 62) ≤ i) && decide (i < 2 ^ 62)
def rangeD (lo hi : Int) : List D := (List.range (hi - lo).toNat).map fun (n : Nat) => D.int (lo + (n : Int))
def enumD : Nat → List D → List D
  | _, [] => []
  | n, d :: ds => .tup [.int n, d] :: enumD (n + 1) ds
/-- a slice without a step -/
def slD (ds : List D) (lo hi : Option Int) : List D := (ds.drop (HT.sIx ds.length 0 lo)).take (HT.sIx ds.length ds.length hi - HT.sIx ds.length 0 lo)
def slT (a : T) (lo hi : Option Int) : Option T := match a with
  | .fz (.tup ds) => some (.fz (.tup (slD ds lo hi)))
  | a => (a.flat).map fun ds => .fl (slD ds lo hi)
def okB : Option Int → Bool
  | .none => true
  | some i => decide (-(2 ^ 62) ≤ i) && decide (i < 2 ^ 62)

def lcLoop (f : Env → D → Option (Option T × Env)) (own : List Nat) (ρ : Env) : List D → List T → Option (List T × Env)
  | [], acc => some (acc, ρ)
  | d :: ds, acc => match f ρ d with
    | some (some t, ρ1) => lcLoop f own (wipeE ρ1 own) ds (acc ++ [t])
    | some (.none, ρ1) => lcLoop f own (wipeE ρ1 own) ds acc
    | .none => .none
def okRg (i j : Int) : Bool := okR0 i && okR0 j && decide ((j - i).toNat ≤ 1000000)
/-- the place of the first item that is equal -/
def idxD (d : D) : List D → Nat → Option Nat
  | [], _ => .none
  | z :: zs, n => if PyData.eqv z.toPy d.toPy = true then some n else idxD d zs (n + 1)
mutual
def evC (G : Gam) : C → Env → Option (Val × Env)
  | .var i, ρ => (rdName ρ i).map fun v => (v, ρ)
  | .mv i, ρ => match ρ[i]? with
    | some (.ow t) => some (.t t, (kills i .none ρ).set i .no)
    | _ => .none
  | .kst d, ρ => some (.t (.fz d), ρ)
  | .gl g, ρ => (G.gls[g]?).map fun d => (.t (.fz d), ρ)
  | .fzv c, ρ => match evC G c ρ with
    | some (v, ρ1) => (fzVal ρ1 v).map fun p => (.t (.fz p.1.toD), p.2)
    | .none => .none
  | .tup es, ρ => match evs G es ρ with
    | some (vs, ρ1) => (fzVals ρ1 vs).map fun p => (.t (mkTup p.1), p.2)
    | .none => .none
  | .list es, ρ => match evs G es ρ with
    | some (vs, ρ1) => (fzVals ρ1 vs).map fun p => (.t (.lst p.1), p.2)
    | .none => .none
  | .dict0, ρ => some (.t (.dct [] []), ρ)
  | .bin op a b, ρ => match evC G a ρ with
    | some (va, ρ1) => match evC G b ρ1 with
      | some (vb, ρ2) => if stands va b.wr then match resolve ρ2 va, resolve ρ2 vb with
          | some x, some y => (binT op x y).map fun t => (.t t, ρ2)
          | _, _ => .none
        else .none
      | .none => .none
    | .none => .none
  | .neg a, ρ => match evC G a ρ with
    | some (.t (.fz (.int i)), ρ1) => some (.t (.fz (.int (-i))), ρ1)
    | _ => .none
  | .notv a, ρ => match evC G a ρ with
    | some (.t (.fz (.bool b)), ρ1) => some (.t (.fz (.bool (!b))), ρ1)
    | _ => .none
  | .boolop op a b, ρ => match evC G a ρ with
    | some (.t (.fz (.bool k)), ρ1) => if (decide (op = .And)) = k then evC G b ρ1 else some (.t (.fz (.bool k)), ρ1)
    | _ => .none
  | .cmp op a b, ρ => match evC G a ρ with
    | some (va, ρ1) => match evC G b ρ1 with
      | some (vb, ρ2) => if stands va b.wr then match resolve ρ2 va, resolve ρ2 vb with
          | some x, some y => (cmpT op x y).map fun t => (.t (.fz (.bool t)), ρ2)
          | _, _ => .none
        else .none
      | .none => .none
    | .none => .none
  | .chain o1 o2 a b c, ρ => match evC G a ρ with
    | some (.t x, ρ1) => match evC G b ρ1 with
      | some (.t y, ρ2) => match cmpT o1 x y with
        | some false => some (.t (.fz (.bool false)), ρ2)
        | some true => match evC G c ρ2 with
          | some (.t z, ρ3) => (cmpT o2 y z).map fun t => (.t (.fz (.bool t)), ρ3)
          | _ => .none
        | .none => .none
      | _ => .none
    | _ => .none
  | .ite c a b, ρ => match evT G c ρ with
    | some (true, ρ1) => evC G a ρ1
    | some (false, ρ1) => evC G b ρ1
    | .none => .none
  | .ix a i, ρ => match evC G a ρ with
    | some (va, ρ1) => match evC G i ρ1 with
      | some (.t vi, ρ2) => if stands va i.wr then match resolve ρ2 va with
          | some x => match dictOf x with
            | some (ks, ts) => (dGet ks ts vi).map fun d => (.t (.fz d), ρ2)
            | .none => (ixVal ρ2 va vi).map fun v => (v, ρ2)
          | .none => .none
        else .none
      | _ => .none
    | .none => .none
  | .sl a lo hi, ρ => match evC G a ρ with
    | some (va, ρ1) => match evO G lo ρ1 with
      | some (l, ρ2) => match evO G hi ρ2 with
        | some (h, ρ3) => if stands va (lo.wr || hi.wr) && okB l && okB h then match resolve ρ3 va with
            | some x => (slT x l h).map fun t => (.t t, ρ3)
            | .none => .none
          else .none
        | .none => .none
      | .none => .none
    | .none => .none
  | .call k es, ρ => match G.fns[k]? with
    | some f => match evs G es ρ with
      | some (vs, ρ1) => (callF f ρ1 vs).map fun p => (.t p.1, p.2)
      | .none => .none
    | .none => .none
  | .callk k perm es, ρ => match G.fns[k]? with
    | some f => match evs G es ρ with
      | some (vs, ρ1) => match permV perm vs with
        | some ws => (callF f ρ1 ws).map fun p => (.t p.1, p.2)
        | .none => .none
      | .none => .none
    | .none => .none
  | .blt f es, ρ => match evs G es ρ with
    | some (vs, ρ1) => match resolves ρ1 vs with
      | some ts => (appB f ts).map fun t => (.t t, ρ1)
      | .none => .none
    | .none => .none
  | .get2 o k d, ρ => match evC G o ρ with
    | some (va, ρ1) => match evC G k ρ1 with
      | some (.t (.fz key), ρ2) => match evC G d ρ2 with
        | some (.t (.fz dft), ρ3) => if stands va (k.wr || d.wr) && ((resolve ρ1 va).bind dictOf).isSome then match (resolve ρ3 va).bind dictOf, keyOf key with
            | some (ks, ts), some kk => match findK kk ks ts with
              | some (.fz x) => some (.t (.fz x), ρ3)
              | some _ => .none
              | .none => some (.t (.fz dft), ρ3)
            | _, _ => .none
          else .none
        | _ => .none
      | _ => .none
    | _ => .none
  | .get1 _ _, _ => .none
  | .rv a, ρ => match evC G a ρ with
    | some (va, ρ1) => match resolve ρ1 va with
      | some x => (x.flat).map fun ds => (.t (T.fl ds.reverse), ρ1)
      | .none => .none
    | .none => .none
  | .lrg1 a, ρ => match evC G a ρ with
    | some (.t (.fz (.int i)), ρ1) => if okRg 0 i then some (.t (T.fl (rangeD 0 i)), ρ1) else .none
    | _ => .none
  | .lrg2 a b, ρ => match evC G a ρ with
    | some (.t (.fz (.int i)), ρ1) => match evC G b ρ1 with
      | some (.t (.fz (.int j)), ρ2) => if okRg i j then some (.t (T.fl (rangeD i j)), ρ2) else .none
      | _ => .none
    | _ => .none
  | .cnt o k, ρ => match evC G o ρ with
    | some (va, ρ1) => match evC G k ρ1 with
      | some (.t (.fz (.int i)), ρ2) => if stands va k.wr && ((resolve ρ1 va).bind T.flat).isSome then match ((resolve ρ2 va).bind T.flat).bind intsOf with
          | some ns => some (.t (.fz (.int (ns.count i : Nat))), ρ2)
          | .none => .none
        else .none
      | _ => .none
    | .none => .none
  | .idx o k, ρ => match evC G o ρ with
    | some (va, ρ1) => match evC G k ρ1 with
      | some (.t (.fz d), ρ2) => if stands va k.wr && ((resolve ρ1 va).bind T.flat).isSome && flatD d then match (resolve ρ2 va).bind T.flat with
          | some ds => if ds.all flatD then (idxD d ds 0).map fun j => (.t (.fz (.int (j : Nat))), ρ2) else .none
          | .none => .none
        else .none
      | _ => .none
    | .none => .none
  | .lc own tg it tests elt, ρ => match evI G it ρ with
    | some (ds, ρ1) => if ownOk ρ1 (own.map (·.2)) then
        match lcLoop (fun ρ d => (bindD ρ tg d).bind fun ρ2 => match evTo G tests ρ2 with
          | some (true, ρ3) => match evC G elt ρ3 with
            | some (v, ρ4) => (fzVal ρ4 v).map fun p => (some p.1, p.2)
            | .none => .none
          | some (false, ρ3) => some (.none, ρ3)
          | .none => .none) (own.map (·.2)) (wipeE ρ1 (own.map (·.2))) ds [] with
        | some (ts, ρ5) => if decide (ts.length ≤ sizeLine) then some (.t (.lst ts), restore ρ1 (own.map (·.2)) ρ5) else .none
        | .none => .none
      else .none
    | .none => .none
  | .lci own i tg tests elt, ρ => match ρ[i]? with
    | some (.ow (.dct ks ts0)) => match T.unfzs ts0 with
      | some ds => if ds.all flatD && ownOk ((kills i .none ρ).set i .no) (own.map (·.2)) then
          match lcLoop (fun ρ d => (bindD ρ tg d).bind fun ρ2 => match evTo G tests ρ2 with
            | some (true, ρ3) => match evC G elt ρ3 with
              | some (v, ρ4) => (fzVal ρ4 v).map fun p => (some p.1, p.2)
              | .none => .none
            | some (false, ρ3) => some (.none, ρ3)
            | .none => .none) (own.map (·.2)) (wipeE ((kills i .none ρ).set i .no) (own.map (·.2))) (itemsD ks ds) [] with
          | some (ts, ρ5) => if decide (ts.length ≤ sizeLine) then some (.t (.lst ts), (kills i .none (restore ((kills i .none ρ).set i .no) (own.map (·.2)) ρ5)).set i (.ow (.dct ks ts0))) else .none
          | .none => .none
        else .none
      | .none => .none
    | _ => .none
def evs (G : Gam) : Cs → Env → Option (List Val × Env)
  | .nil, ρ => some ([], ρ)
  | .cons c cs, ρ => match evC G c ρ with
    | some (v, ρ1) => match evs G cs ρ1 with
      | some (vs, ρ2) => if stands v cs.wr then some (v :: vs, ρ2) else .none
      | .none => .none
    | .none => .none
def evO (G : Gam) : Co → Env → Option (Option Int × Env)
  | .none, ρ => some (.none, ρ)
  | .some c, ρ => match evC G c ρ with
    | some (.t (.fz (.int i)), ρ1) => some (some i, ρ1)
    | _ => .none
/-- a test -/
def evT (G : Gam) : Tc → Env → Option (Bool × Env)
  | .not a, ρ => (evT G a ρ).map fun p => (!p.1, p.2)
  | .bool op ts, ρ => evB G op ts ρ
  | .cmp op a b, ρ => match evC G a ρ with
    | some (va, ρ1) => match evC G b ρ1 with
      | some (vb, ρ2) => if stands va b.wr then match resolve ρ2 va, resolve ρ2 vb with
          | some x, some y => (cmpT op x y).map fun t => (t, ρ2)
          | _, _ => .none
        else .none
      | .none => .none
    | .none => .none
  | .chain o1 o2 a b c, ρ => match evC G a ρ with
    | some (.t x, ρ1) => match evC G b ρ1 with
      | some (.t y, ρ2) => match cmpT o1 x y with
        | some false => some (false, ρ2)
        | some true => match evC G c ρ2 with
          | some (.t z, ρ3) => (cmpT o2 y z).map fun t => (t, ρ3)
          | _ => .none
        | .none => .none
      | _ => .none
    | _ => .none
  | .val c, ρ => match evC G c ρ with
    | some (v, ρ1) => match resolve ρ1 v with
      | some t => (truT t).map fun b => (b, ρ1)
      | .none => .none
    | .none => .none
def evB (G : Gam) (op : BoolOp) : Tcs → Env → Option (Bool × Env)
  | .one t, ρ => evT G t ρ
  | .cons t ts, ρ => match evT G t ρ with
    | some (b, ρ1) => if (decide (op = .And)) = b then evB G op ts ρ1 else some (b, ρ1)
    | .none => .none
def evTo (G : Gam) : Tco → Env → Option (Bool × Env)
  | .none, ρ => some (true, ρ)
  | .some t, ρ => evT G t ρ
def evI (G : Gam) : I → Env → Option (List D × Env)
  | .seq c, ρ => match evC G c ρ with
    | some (v, ρ1) => match fzVal ρ1 v with
      | some (t, ρ2) => match t.toD with
        | .list ds => some (ds, ρ2)
        | .tup ds => some (ds, ρ2)
        | _ => .none
      | .none => .none
    | .none => .none
  | .rng1 a, ρ => match evC G a ρ with
    | some (.t (.fz (.int i)), ρ1) => if okR i then some (rangeD 0 i, ρ1) else .none
    | _ => .none
  | .rng2 a b, ρ => match evC G a ρ with
    | some (.t (.fz (.int i)), ρ1) => match evC G b ρ1 with
      | some (.t (.fz (.int j)), ρ2) => if okR i && okR j then some (rangeD i j, ρ2) else .none
      | _ => .none
    | _ => .none
  | .enum c, ρ => match evC G c ρ with
    | some (v, ρ1) => match fzVal ρ1 v with
      | some (t, ρ2) => match t.toD with
        | .list ds => some (enumD 0 ds, ρ2)
        | _ => .none
      | .none => .none
    | .none => .none
  | .brw c, ρ => match evC G c ρ with
    | some (v, ρ1) => match resolve ρ1 v with
      | some t => (t.flat).map fun ds => (ds, ρ1)
      | .none => .none
    | .none => .none
end

inductive Out where
  | nx (ρ : Env) | rt (t : T) (ρ : Env) | bk (ρ : Env) | ct (ρ : Env)
  deriving Inhabited
def forLoop (f : Env → D → Option Out) (ρ : Env) : List D → Option Out
  | [] => some (.nx ρ)
  | d :: ds => match f ρ d with
    | some (.nx ρ1) => forLoop f ρ1 ds
    | some (.ct ρ1) => forLoop f ρ1 ds
    | some (.bk ρ1) => some (.nx ρ1)
    | r => r
def whLoop (t : Env → Option (Bool × Env)) (f : Env → Option Out) : Nat → Env → Option Out
  | 0, _ => .none
  | n + 1, ρ => match t ρ with
    | some (true, ρ1) => match f ρ1 with
      | some (.nx ρ2) => whLoop t f n ρ2
      | some (.ct ρ2) => whLoop t f n ρ2
      | some (.bk ρ2) => some (.nx ρ2)
      | r => r
    | some (false, ρ1) => some (.nx ρ1)
    | .none => .none
def augT (op : Operator) (x y : T) : Option T := match x, y with
  | .fz (.int i), .fz (.int j) => (intOp op i j).map fun k => .fz (.int k)
  | _, _ => .none
def parOk (is : List Nat) (vs : List Val) : Bool := decide is.Nodup && vs.all fun v => match v with
  | .pt j (some _) => !is.contains j
  | _ => true
mutual
def evS (G : Gam) : S → Env → Option Out
  | .set i c, ρ => match evC G c ρ with
    | some (v, ρ1) => (bindS ρ1 i v).map .nx
    | .none => .none
  | .setT is c, ρ => match evC G c ρ with
    | some (.t (.fz (.tup ds)), ρ1) => (bindTs ρ1 is (fzs ds)).map .nx
    | some (.t (.tup ts), ρ1) => (bindTs ρ1 is ts).map .nx
    | _ => .none
  | .setL is c, ρ => match evC G c ρ with
    | some (.t t, ρ1) => match t.flat with
      | some ds => (bindTs ρ1 is (fzs ds)).map .nx
      | .none => .none
    | _ => .none
  | .par is es, ρ => match evs G es ρ with
    | some (vs, ρ1) => if parOk is vs then (bindVs ρ1 is vs).map .nx else .none
    | .none => .none
  | .sto b i c, ρ => match evC G c ρ with
    | some (vc, ρ1) => match fzVal ρ1 vc with
      | some (t, ρ2) => match evC G b ρ2 with
        | some (.pt j k, ρ3) => match evC G i ρ3 with
          | some (.t vi, ρ4) => if stands (.pt j k) i.wr then match getPt ρ4 j k with
              | some x => match setIx x vi t with
                | some y => (setPt (kIx ρ4 j k x vi) j k y).map .nx
                | .none => .none
              | .none => .none
            else .none
          | _ => .none
        | _ => .none
      | .none => .none
    | .none => .none
  | .aug i op c, ρ => match rdName ρ i with
    | some (.t x) => match evC G c ρ with
      | some (.t y, ρ1) => match augT op x y with
        | some t => (bindS ρ1 i (.t t)).map .nx
        | .none => .none
      | _ => .none
    | _ => .none
  | .app b c, ρ => match evC G b ρ with
    | some (.pt j k, ρ1) => match getPt ρ1 j k with
      | some (.lst _) => match evC G c ρ1 with
        | some (v, ρ2) => match fzVal ρ2 v with
          | some (t, ρ3) => if stands (.pt j k) c.wr then match getPt ρ3 j k with
              | some x => match appT x t with
                | some y => (setPt ρ3 j k y).map .nx
                | .none => .none
              | .none => .none
            else .none
          | .none => .none
        | .none => .none
      | _ => .none
    | _ => .none
  | .exp c, ρ => (evC G c ρ).map fun p => .nx p.2
  | .ret c, ρ => match evC G c ρ with
    | some (v, ρ1) => (fzVal ρ1 v).map fun p => .rt p.1 p.2
    | .none => .none
  | .retN, ρ => some (.rt (.fz .none) ρ)
  | .ite c a b, ρ => match evT G c ρ with
    | some (true, ρ1) => evSs G a ρ1
    | some (false, ρ1) => evSs G b ρ1
    | .none => .none
  | .for tg it b, ρ => match evI G it ρ with
    | some (ds, ρ1) => forLoop (fun ρ d => (bindD ρ tg d).bind fun ρ2 => evSs G b ρ2) ρ1 ds
    | .none => .none
  | .while fuel c b, ρ => whLoop (evT G c) (evSs G b) fuel ρ
  | .pass, ρ => some (.nx ρ)
  | .cont, ρ => some (.ct ρ)
  | .brk, ρ => some (.bk ρ)
  | .stuck, _ => .none
def evSs (G : Gam) : Ss → Env → Option Out
  | .nil, ρ => some (.nx ρ)
  | .cons s ss, ρ => match evS G s ρ with
    | some (.nx ρ1) => evSs G ss ρ1
    | r => r
end
/-- the changed parameters at the end -/
def ioOuts (ρ : Env) : List Bool → Nat → Option (List T)
  | [], _ => some []
  | true :: io, i => match ρ[i]? with
    | some (.io t) => (ioOuts ρ io (i + 1)).map (t :: ·)
    | _ => .none
  | false :: io, i => ioOuts ρ io (i + 1)
def start0 (io : List Bool) (ts : List T) : Env := (List.zip io ts).map fun p => if p.1 then .io p.2 else .ow p.2
def runDef (G : Gam) (io : List Bool) (n : Nat) (body : Ss) (ts : List T) : Option (T × List T) :=
  if ts.length = io.length then
    match evSs G body (start0 io ts ++ List.replicate (n - ts.length) .no) with
    | some (.rt t ρ) => (ioOuts ρ io 0).map fun os => (t, os)
    | some (.nx ρ) => (ioOuts ρ io 0).map fun os => (.fz .none, os)
    | _ => .none
  else .none
end Mv

end
section
/-! How data and trees stand in the heap of the hand layer. -/
namespace Mv
open PySem PySem.Spec PyProof.Rows L2

def WrL (K : PySem.W.Frag) (c : String) (a : Addr) (xs : List V) : Prop :=
  ∃ (o : Obj) (its : Array Value) (n : Nat), K.lookup a = some o ∧ o.cls = .type c ∧ (c = "list" → o.dict = none) ∧ o.data = .seq its n ∧ its.size ≤ sizeLine ∧ Vals xs its.toList
def LstF (K : PySem.W.Frag) (F : Addr → Prop) (H : Hp) (a : Addr) (xs : List V) : Prop := (F a ∧ Rd H a (.lst xs)) ∨ WrL K "list" a xs
def TupF (K : PySem.W.Frag) (F : Addr → Prop) (H : Hp) (a : Addr) (xs : List V) : Prop := (F a ∧ Rd H a (.tup xs)) ∨ WrL K "tuple" a xs
theorem LstF.sq {K F H a xs} (h : LstF K F H a xs) : SqL K H a xs := by
  rcases h with ⟨_, h⟩ | ⟨o, its, n, h1, h2, h3, h4, h5, h6⟩
  · exact .inl h
  · exact .inr ⟨o, its, n, h1, h2, h3 rfl, h4, h5, h6⟩
theorem TupF.sq {K F H a xs} (h : TupF K F H a xs) : SqT K H a xs := by
  rcases h with ⟨_, h⟩ | ⟨o, its, n, h1, h2, h3, h4, h5, h6⟩
  · exact .inl h
  · exact .inr ⟨o, its, n, h1, h2, h4, h5, h6⟩
theorem rdKeep {H H' : Hp} {a : Addr} {u : HO} (h : Rd H a u) (k : ∀ o, H a = some o → H' a = some o) : Rd H' a u := by
  rcases h with h | ⟨o, h⟩
  · exact .inl (k _ h)
  · exact .inr ⟨o, k _ h⟩

mutual
def RepD (K : PySem.W.Frag) (F : Addr → Prop) (H : Hp) : V → D → Prop
  | v, .none => v = .non
  | v, .bool b => v = .bl b
  | v, .int i => v = .int i
  | v, .str s => v = .str s
  | v, .list ds => ∃ a vs, v = .ref a ∧ LstF K F H a vs ∧ RepDs K F H vs ds
  | v, .tup ds => ∃ a vs, v = .ref a ∧ TupF K F H a vs ∧ RepDs K F H vs ds
  | v, .dict ks ds => ∃ a vs, v = .ref a ∧ F a ∧ H a = some (.dK (ks.zip vs)) ∧ vs.length = ks.length ∧ ks.Nodup ∧ RepDs K F H vs ds
def RepDs (K : PySem.W.Frag) (F : Addr → Prop) (H : Hp) : List V → List D → Prop
  | [], [] => True
  | v :: vs, d :: ds => RepD K F H v d ∧ RepDs K F H vs ds
  | [], _ :: _ => False
  | _ :: _, [] => False
end
mutual
def TRep (K : PySem.W.Frag) (F : Addr → Prop) (H : Hp) : V → T → List Addr → Prop
  | v, .fz d, fp => fp = [] ∧ RepD K F H v d
  | v, .lst ts, fp => ∃ a vs fq, v = .ref a ∧ fp = a :: fq ∧ ¬ F a ∧ H a = some (.lst vs) ∧ TReps K F H vs ts fq
  | v, .tup ts, fp => ∃ a vs fq, v = .ref a ∧ fp = a :: fq ∧ ¬ F a ∧ H a = some (.tup vs) ∧ TReps K F H vs ts fq
  | v, .dct ks ts, fp => ∃ a vs fq, v = .ref a ∧ fp = a :: fq ∧ ¬ F a ∧ H a = some (.dK (ks.zip vs)) ∧ vs.length = ks.length ∧ ks.Nodup ∧ TReps K F H vs ts fq
def TReps (K : PySem.W.Frag) (F : Addr → Prop) (H : Hp) : List V → List T → List Addr → Prop
  | [], [], fp => fp = []
  | v :: vs, t :: ts, fp => ∃ f1 f2, fp = f1 ++ f2 ∧ TRep K F H v t f1 ∧ TReps K F H vs ts f2
  | [], _ :: _, _ => False
  | _ :: _, [], _ => False
end
section
variable {K : PySem.W.Frag} {F F' : Addr → Prop} {H H' : Hp}
mutual
theorem RepD.mono (hF : ∀ a, F a → F' a) (hk : ∀ a o, F a → H a = some o → H' a = some o) : ∀ (d : D) (v : V), RepD K F H v d → RepD K F' H' v d
  | .none, v, h => by simpa only [RepD] using h
  | .bool b, v, h => by simpa only [RepD] using h
  | .int i, v, h => by simpa only [RepD] using h
  | .str s, v, h => by simpa only [RepD] using h
  | .list ds, v, h => by
    simp only [RepD] at h ⊢
    obtain ⟨a, vs, rfl, hl, hr⟩ := h
    exact ⟨a, vs, rfl, hl.imp (fun hl => ⟨hF a hl.1, rdKeep hl.2 fun o => hk a o hl.1⟩) id, RepDs.mono hF hk ds vs hr⟩
  | .tup ds, v, h => by
    simp only [RepD] at h ⊢
    obtain ⟨a, vs, rfl, hl, hr⟩ := h
    refine ⟨a, vs, rfl, ?_, RepDs.mono hF hk ds vs hr⟩
    rcases hl with ⟨f, r⟩ | w
    · exact .inl ⟨hF a f, rdKeep r fun o => hk a o f⟩
    · exact .inr w
  | .dict ks ds, v, h => by
    simp only [RepD] at h ⊢
    obtain ⟨a, vs, rfl, f, hl, hn, hd, hr⟩ := h
    exact ⟨a, vs, rfl, hF a f, hk a _ f hl, hn, hd, RepDs.mono hF hk ds vs hr⟩
theorem RepDs.mono (hF : ∀ a, F a → F' a) (hk : ∀ a o, F a → H a = some o → H' a = some o) : ∀ (ds : List D) (vs : List V), RepDs K F H vs ds → RepDs K F' H' vs ds
  | [], [], h => by simp only [RepDs]
  | [], _ :: _, h => by simp only [RepDs] at h
  | _ :: _, [], h => by simp only [RepDs] at h
  | d :: ds, v :: vs, h => by
    simp only [RepDs] at h ⊢
    exact ⟨RepD.mono hF hk d v h.1, RepDs.mono hF hk ds vs h.2⟩
end
mutual
theorem TRep.mono (hF : ∀ a, F a → F' a) : ∀ (t : T) (v : V) (fp : List Addr), (∀ a ∈ fp, ¬ F' a) → (∀ a o, (F a ∨ a ∈ fp) → H a = some o → H' a = some o) → TRep K F H v t fp → TRep K F' H' v t fp
  | .fz d, v, fp, hn, hk, h => by
    simp only [TRep] at h ⊢
    exact ⟨h.1, RepD.mono hF (fun a o f => hk a o (.inl f)) d v h.2⟩
  | .lst ts, v, fp, hn, hk, h => by
    simp only [TRep] at h ⊢
    obtain ⟨a, vs, fq, rfl, rfl, nf, ha, hr⟩ := h
    exact ⟨a, vs, fq, rfl, rfl, hn a List.mem_cons_self, hk a _ (.inr List.mem_cons_self) ha, TReps.mono hF ts vs fq (fun b hb => hn b (List.mem_cons_of_mem _ hb)) (fun b o hb => hk b o (hb.imp id (List.mem_cons_of_mem _))) hr⟩
  | .tup ts, v, fp, hn, hk, h => by
    simp only [TRep] at h ⊢
    obtain ⟨a, vs, fq, rfl, rfl, nf, ha, hr⟩ := h
    exact ⟨a, vs, fq, rfl, rfl, hn a List.mem_cons_self, hk a _ (.inr List.mem_cons_self) ha, TReps.mono hF ts vs fq (fun b hb => hn b (List.mem_cons_of_mem _ hb)) (fun b o hb => hk b o (hb.imp id (List.mem_cons_of_mem _))) hr⟩
  | .dct ks ts, v, fp, hn, hk, h => by
    simp only [TRep] at h ⊢
    obtain ⟨a, vs, fq, rfl, rfl, nf, ha, hl, hd, hr⟩ := h
    exact ⟨a, vs, fq, rfl, rfl, hn a List.mem_cons_self, hk a _ (.inr List.mem_cons_self) ha, hl, hd, TReps.mono hF ts vs fq (fun b hb => hn b (List.mem_cons_of_mem _ hb)) (fun b o hb => hk b o (hb.imp id (List.mem_cons_of_mem _))) hr⟩
theorem TReps.mono (hF : ∀ a, F a → F' a) : ∀ (ts : List T) (vs : List V) (fp : List Addr), (∀ a ∈ fp, ¬ F' a) → (∀ a o, (F a ∨ a ∈ fp) → H a = some o → H' a = some o) → TReps K F H vs ts fp → TReps K F' H' vs ts fp
  | [], [], fp, _, _, h => by simpa only [TReps] using h
  | [], _ :: _, fp, _, _, h => by simp only [TReps] at h
  | _ :: _, [], fp, _, _, h => by simp only [TReps] at h
  | t :: ts, v :: vs, fp, hn, hk, h => by
    simp only [TReps] at h ⊢
    obtain ⟨f1, f2, rfl, h1, h2⟩ := h
    exact ⟨f1, f2, rfl, TRep.mono hF t v f1 (fun b hb => hn b (List.mem_append_left _ hb)) (fun b o hb => hk b o (hb.imp id (List.mem_append_left _))) h1,
      TReps.mono hF ts vs f2 (fun b hb => hn b (List.mem_append_right _ hb)) (fun b o hb => hk b o (hb.imp id (List.mem_append_right _))) h2⟩
end
mutual
theorem TRep.fps : ∀ (t : T) (v : V) (fp : List Addr), TRep K F H v t fp → ∀ b ∈ fp, ¬ F b ∧ H b ≠ none
  | .fz d, v, fp, h => by
    simp only [TRep] at h
    rw [h.1]; intro b hb; cases hb
  | .lst ts, v, fp, h => by
    simp only [TRep] at h
    obtain ⟨a, vs, fq, rfl, rfl, nf, ha, hr⟩ := h
    intro b hb
    rcases List.mem_cons.mp hb with rfl | hb
    · exact ⟨nf, by rw [ha]; simp⟩
    · exact TReps.fps ts vs fq hr b hb
  | .tup ts, v, fp, h => by
    simp only [TRep] at h
    obtain ⟨a, vs, fq, rfl, rfl, nf, ha, hr⟩ := h
    intro b hb
    rcases List.mem_cons.mp hb with rfl | hb
    · exact ⟨nf, by rw [ha]; simp⟩
    · exact TReps.fps ts vs fq hr b hb
  | .dct ks ts, v, fp, h => by
    simp only [TRep] at h
    obtain ⟨a, vs, fq, rfl, rfl, nf, ha, hl, hd, hr⟩ := h
    intro b hb
    rcases List.mem_cons.mp hb with rfl | hb
    · exact ⟨nf, by rw [ha]; simp⟩
    · exact TReps.fps ts vs fq hr b hb
theorem TReps.fps : ∀ (ts : List T) (vs : List V) (fp : List Addr), TReps K F H vs ts fp → ∀ b ∈ fp, ¬ F b ∧ H b ≠ none
  | [], [], fp, h => by
    simp only [TReps] at h
    rw [h]; intro b hb; cases hb
  | [], _ :: _, fp, h => by simp only [TReps] at h
  | _ :: _, [], fp, h => by simp only [TReps] at h
  | t :: ts, v :: vs, fp, h => by
    simp only [TReps] at h
    obtain ⟨f1, f2, rfl, h1, h2⟩ := h
    intro b hb
    rcases List.mem_append.mp hb with hb | hb
    · exact TRep.fps t v f1 h1 b hb
    · exact TReps.fps ts vs f2 h2 b hb
end
mutual
/-- a tree is frozen -/
theorem TRep.fz (hF : ∀ a, F a → F' a) : ∀ (t : T) (v : V) (fp : List Addr), (∀ a ∈ fp, F' a) → TRep K F H v t fp → RepD K F' H v t.toD
  | .fz d, v, fp, hn, h => by
    simp only [TRep] at h
    simp only [T.toD]
    exact RepD.mono hF (fun _ _ _ e => e) d v h.2
  | .lst ts, v, fp, hn, h => by
    simp only [TRep] at h
    simp only [T.toD, RepD]
    obtain ⟨a, vs, fq, rfl, rfl, nf, ha, hr⟩ := h
    exact ⟨a, vs, rfl, .inl ⟨hn a List.mem_cons_self, .inl ha⟩, TReps.fz hF ts vs fq (fun b hb => hn b (List.mem_cons_of_mem _ hb)) hr⟩
  | .tup ts, v, fp, hn, h => by
    simp only [TRep] at h
    simp only [T.toD, RepD]
    obtain ⟨a, vs, fq, rfl, rfl, nf, ha, hr⟩ := h
    exact ⟨a, vs, rfl, .inl ⟨hn a List.mem_cons_self, .inl ha⟩, TReps.fz hF ts vs fq (fun b hb => hn b (List.mem_cons_of_mem _ hb)) hr⟩
  | .dct ks ts, v, fp, hn, h => by
    simp only [TRep] at h
    simp only [T.toD, RepD]
    obtain ⟨a, vs, fq, rfl, rfl, nf, ha, hl, hd, hr⟩ := h
    exact ⟨a, vs, rfl, hn a List.mem_cons_self, ha, hl, hd, TReps.fz hF ts vs fq (fun b hb => hn b (List.mem_cons_of_mem _ hb)) hr⟩
theorem TReps.fz (hF : ∀ a, F a → F' a) : ∀ (ts : List T) (vs : List V) (fp : List Addr), (∀ a ∈ fp, F' a) → TReps K F H vs ts fp → RepDs K F' H vs (T.toDs ts)
  | [], [], fp, hn, h => by simp only [T.toDs, RepDs]
  | [], _ :: _, fp, _, h => by simp only [TReps] at h
  | _ :: _, [], fp, _, h => by simp only [TReps] at h
  | t :: ts, v :: vs, fp, hn, h => by
    simp only [TReps] at h
    simp only [T.toDs, RepDs]
    obtain ⟨f1, f2, rfl, h1, h2⟩ := h
    exact ⟨TRep.fz hF t v f1 (fun b hb => hn b (List.mem_append_left _ hb)) h1, TReps.fz hF ts vs f2 (fun b hb => hn b (List.mem_append_right _ hb)) h2⟩
end
theorem RepDs.len : ∀ {ds : List D} {vs : List V}, RepDs K F H vs ds → vs.length = ds.length
  | [], [], _ => rfl
  | [], _ :: _, h => by simp only [RepDs] at h
  | _ :: _, [], h => by simp only [RepDs] at h
  | d :: ds, v :: vs, h => by simp only [RepDs] at h; simp [RepDs.len h.2]
theorem TReps.len : ∀ {ts : List T} {vs : List V} {fp}, TReps K F H vs ts fp → vs.length = ts.length
  | [], [], _, _ => rfl
  | [], _ :: _, _, h => by simp only [TReps] at h
  | _ :: _, [], _, h => by simp only [TReps] at h
  | d :: ds, v :: vs, _, h => by
    simp only [TReps] at h
    obtain ⟨f1, f2, rfl, h1, h2⟩ := h
    simp [TReps.len h2]
/-- all data, read only -/
abbrev RD (K : PySem.W.Frag) (H : Hp) (v : V) (d : D) : Prop := RepD K (fun _ => True) H v d
abbrev RDs (K : PySem.W.Frag) (H : Hp) (vs : List V) (ds : List D) : Prop := RepDs K (fun _ => True) H vs ds
theorem TRep.rd {t v fp} (h : TRep K F H v t fp) : RD K H v t.toD := TRep.fz (fun _ _ => trivial) t v fp (fun _ _ => trivial) h
theorem RepD.rd {d v} (h : RepD K F H v d) : RD K H v d := RepD.mono (fun _ _ => trivial) (fun _ _ _ e => e) d v h
mutual
theorem RD.dp : ∀ (d : D) (v : V) (n : Nat), D.shp n d = true → RD K H v d → Dp K H v d.toPy
  | .none, v, n, s, h => by
    have h : v = .non := by simpa only [RD, RepD] using h
    subst h; simp only [D.toPy]; exact .non
  | .bool b, v, n, s, h => by
    have h : v = .bl b := by simpa only [RD, RepD] using h
    subst h; simp only [D.toPy]; exact .bl b
  | .int b, v, n, s, h => by
    have h : v = .int b := by simpa only [RD, RepD] using h
    subst h; simp only [D.toPy]; exact .int b
  | .str b, v, n, s, h => by
    have h : v = .str b := by simpa only [RD, RepD] using h
    subst h; simp only [D.toPy]; exact .str b
  | .list ds, v, 0, s, h => by simp [D.shp] at s
  | .list ds, v, n + 1, s, h => by
    simp only [RD, RepD] at h
    obtain ⟨a, vs, rfl, hl, hr⟩ := h
    simp only [D.shp] at s
    simp only [D.toPy]
    exact .lst hl.sq (RDs.dp ds vs n s hr)
  | .tup ds, v, 0, s, h => by simp [D.shp] at s
  | .tup ds, v, n + 1, s, h => by
    simp only [RD, RepD] at h
    obtain ⟨a, vs, rfl, hl, hr⟩ := h
    simp only [D.shp] at s
    simp only [D.toPy]
    exact .tup hl.sq (RDs.dp ds vs n s hr)
  | .dict ks ds, v, n, s, h => by cases n <;> simp [D.shp] at s
theorem RDs.dp : ∀ (ds : List D) (vs : List V) (n : Nat), D.shps n ds = true → RDs K H vs ds → DpAll K H vs (D.toPys ds)
  | [], [], n, s, h => by simp only [D.toPys]; exact .nil
  | [], _ :: _, _, _, h => by simp only [RDs, RepDs] at h
  | _ :: _, [], _, _, h => by simp only [RDs, RepDs] at h
  | d :: ds, v :: vs, n, s, h => by
    simp only [RDs, RepDs] at h
    have s' : D.shp n d = true ∧ D.shps n ds = true := by cases n <;> simpa [D.shps] using s
    simp only [D.toPys]
    exact .cons (RD.dp d v n s'.1 h.1) (RDs.dp ds vs n s'.2 h.2)
end
end
end Mv

end
section
/-! States, values and what an evaluation leaves. -/
namespace Mv
open PySem PySem.Spec PyProof.Rows L2

abbrev Fp := Nat → List Addr
def SlotR (K : PySem.W.Frag) (iov : Nat → Option V) (F : Addr → Prop) (H : Hp) (σ : L2.St) (ex : List Nat) (fp : Fp) (i : Nat) : Slot → Prop
  | .no => fp i = []
  | .ow t => ∃ v, σ[i]? = some (some v) ∧ TRep K F H v t (fp i)
  | .io t => ∃ v, σ[i]? = some (some v) ∧ iov i = some v ∧ TRep K F H v t (fp i)
  | .al j k => fp i = [] ∧ (j ∈ ex ∨ ∃ v a vs, σ[i]? = some (some v) ∧ σ[j]? = some (some (.ref a)) ∧ H a = some (.lst vs) ∧ vs[k]? = some v ∧ (F a ∨ a ∈ fp j))
structure SR (K : PySem.W.Frag) (iov : Nat → Option V) (ex : List Nat) (F : Addr → Prop) (H : Hp) (σ : L2.St) (ρ : Env) (fp : Fp) : Prop where
  len : ρ.length = σ.length
  slot : ∀ (i : Nat) (s : Slot), ρ[i]? = some s → i ∉ ex → SlotR K iov F H σ ex fp i s
  exc : ∀ i, i ∈ ex → fp i = []
  out : ∀ i : Nat, ρ[i]? = none → fp i = []
  nod : ∀ i, (fp i).Nodup
  dis : ∀ i j b, b ∈ fp i → b ∈ fp j → i = j
  trk : ∀ b, F b → H b ≠ none
def VR (K : PySem.W.Frag) (F : Addr → Prop) (H : Hp) (σ : L2.St) : Val → V → List Addr → Prop
  | .t t, v, fpv => TRep K F H v t fpv
  | .pt i none, v, fpv => fpv = [] ∧ σ[i]? = some (some v)
  | .pt i (some k), v, fpv => fpv = [] ∧ ∃ a vs, σ[i]? = some (some (.ref a)) ∧ H a = some (.lst vs) ∧ vs[k]? = some v
def VRs (K : PySem.W.Frag) (F : Addr → Prop) (H : Hp) (σ : L2.St) : List Val → List V → List Addr → Prop
  | [], [], fpv => fpv = []
  | a :: as, v :: vs, fpv => ∃ f1 f2, fpv = f1 ++ f2 ∧ VR K F H σ a v f1 ∧ VRs K F H σ as vs f2
  | [], _ :: _, _ => False
  | _ :: _, [], _ => False
structure Post (F : Addr → Prop) (H : Hp) (fp : Fp) (F' : Addr → Prop) (H' : Hp) (fp' : Fp) (fpv : List Addr) (wr : Bool) : Prop where
  sub : ∀ b, F b → F' b
  new : ∀ b, F' b → F b ∨ (∃ i, b ∈ fp i) ∨ H b = none
  keep : ∀ b o, H b = some o → (wr = false ∨ ∀ i, b ∉ fp i) → H' b = some o
  there : ∀ b, H b ≠ none → H' b ≠ none
  fresh : ∀ i b, b ∈ fp' i → (∃ j, b ∈ fp j) ∨ H b = none
  freshv : ∀ b, b ∈ fpv → (∃ j, b ∈ fp j) ∨ H b = none
  disv : ∀ i b, b ∈ fp' i → b ∉ fpv
  nodv : fpv.Nodup
section
variable {K : PySem.W.Frag} {iov : Nat → Option V} {ex : List Nat} {F F1 F2 F' : Addr → Prop} {H H1 H2 H' : Hp} {σ : L2.St} {ρ ρ' : Env} {fp fp1 fp2 fp' : Fp} {fpv fpa fpb : List Addr} {wr wr1 wr2 : Bool}

theorem SR.fpF (S : SR K iov ex F H σ ρ fp) : ∀ i b, b ∈ fp i → ¬ F b ∧ H b ≠ none := by
  intro i b hb
  cases e : ρ[i]? with
  | none => rw [S.out i e] at hb; cases hb
  | some s =>
    by_cases hx : i ∈ ex
    · rw [S.exc i hx] at hb; cases hb
    have r := S.slot i s e hx
    cases s with
    | no => have r : fp i = [] := r; rw [r] at hb; cases hb
    | ow t => obtain ⟨v, _, r⟩ := r; exact TRep.fps t v _ r b hb
    | io t => obtain ⟨v, _, _, r⟩ := r; exact TRep.fps t v _ r b hb
    | al j k => have r : fp i = [] := r.1; rw [r] at hb; cases hb
theorem VR.fps {a : Val} {v : V} (h : VR K F H σ a v fpv) : ∀ b ∈ fpv, ¬ F b ∧ H b ≠ none := by
  cases a with
  | t t => exact TRep.fps t v _ h
  | pt i k => cases k with
    | none => have h : fpv = [] := h.1; rw [h]; intro b hb; cases hb
    | some k => have h : fpv = [] := h.1; rw [h]; intro b hb; cases hb
theorem VRs.fps : ∀ {as : List Val} {vs : List V} {fpv}, VRs K F H σ as vs fpv → ∀ b ∈ fpv, ¬ F b ∧ H b ≠ none
  | [], [], _, h => by have h : _ = [] := h; rw [h]; intro b hb; cases hb
  | [], _ :: _, _, h => h.elim
  | _ :: _, [], _, h => h.elim
  | a :: as, v :: vs, _, h => by
    obtain ⟨f1, f2, rfl, h1, h2⟩ := h
    intro b hb
    rcases List.mem_append.mp hb with hb | hb
    · exact h1.fps b hb
    · exact VRs.fps h2 b hb
theorem VRs.len : ∀ {as : List Val} {vs : List V} {fpv}, VRs K F H σ as vs fpv → as.length = vs.length
  | [], [], _, h => rfl
  | [], _ :: _, _, h => h.elim
  | _ :: _, [], _, h => h.elim
  | a :: as, v :: vs, _, h => by
    obtain ⟨f1, f2, rfl, h1, h2⟩ := h
    simp [VRs.len h2]
theorem Post.refl (S : SR K iov ex F H σ ρ fp) : Post F H fp F H fp [] wr :=
  ⟨fun _ h => h, fun _ h => .inl h, fun _ _ h _ => h, fun _ h => h, fun i b h => .inl ⟨i, h⟩, fun _ h => (nomatch h), fun _ _ _ h => (nomatch h), List.nodup_nil⟩
theorem Post.toWr (P : Post F H fp F' H' fp' fpv false) : Post F H fp F' H' fp' fpv wr :=
  ⟨P.sub, P.new, fun b o h _ => P.keep b o h (.inl rfl), P.there, P.fresh, P.freshv, P.disv, P.nodv⟩
theorem Post.wrT (P : Post F H fp F' H' fp' fpv wr) : Post F H fp F' H' fp' fpv true :=
  ⟨P.sub, P.new, fun b o h e => P.keep b o h (e.elim (fun z => (nomatch z)) .inr), P.there, P.fresh, P.freshv, P.disv, P.nodv⟩
/-- the temporaries stand -/
theorem Post.off (P : Post F H fp F' H' fp' fpv wr) (h : ∀ b ∈ fpa, ¬ F b ∧ H b ≠ none) (hd : ∀ i b, b ∈ fp i → b ∉ fpa) : ∀ b ∈ fpa, ¬ F' b := fun b hb f => by
  rcases P.new b f with f | ⟨i, f⟩ | f
  · exact (h b hb).1 f
  · exact hd i b f hb
  · exact (h b hb).2 f
theorem Post.tmp (P : Post F H fp F' H' fp' fpv wr) (hfp : ∀ i b, b ∈ fp i → ¬ F b) {t : T} {v : V} (h : TRep K F H v t fpa) (hd : ∀ i b, b ∈ fp i → b ∉ fpa) : TRep K F' H' v t fpa :=
  TRep.mono P.sub t v fpa (P.off (TRep.fps t v _ h) hd) (fun a o ha e => P.keep a o e (.inr fun i hi => ha.elim (hfp i a hi) (hd i a hi))) h
theorem Post.tmps (P : Post F H fp F' H' fp' fpv wr) (hfp : ∀ i b, b ∈ fp i → ¬ F b) {t : List T} {v : List V} (h : TReps K F H v t fpa) (hd : ∀ i b, b ∈ fp i → b ∉ fpa) : TReps K F' H' v t fpa :=
  TReps.mono P.sub t v fpa (P.off (TReps.fps t v _ h) hd) (fun a o ha e => P.keep a o e (.inr fun i hi => ha.elim (hfp i a hi) (hd i a hi))) h
theorem VR.step (P : Post F H fp F' H' fp' fpv wr) (hfp : ∀ i b, b ∈ fp i → ¬ F b) {a : Val} {v : V} (h : VR K F H σ a v fpa) (hd : ∀ i b, b ∈ fp i → b ∉ fpa) (st : stands a wr = true) : VR K F' H' σ a v fpa := by
  cases a with
  | t t => exact P.tmp hfp h hd
  | pt i k => cases k with
    | none => exact h
    | some k =>
      obtain ⟨e, a, vs, h1, h2, h3⟩ := h
      have w : wr = false := by simpa [stands] using st
      exact ⟨e, a, vs, h1, P.keep a _ h2 (.inl w), h3⟩
theorem Post.trans (P : Post F H fp F1 H1 fp1 fpa wr1) (Q : Post F1 H1 fp1 F2 H2 fp2 fpb wr2) (ha : ∀ b ∈ fpa, ¬ F1 b ∧ H1 b ≠ none) : Post F H fp F2 H2 fp2 (fpa ++ fpb) (wr1 || wr2) where
  sub := fun b h => Q.sub b (P.sub b h)
  new := fun b h => by
    rcases Q.new b h with h | ⟨i, h⟩ | h
    · exact P.new b h
    · rcases P.fresh i b h with ⟨j, h⟩ | h
      · exact .inr (.inl ⟨j, h⟩)
      · exact .inr (.inr h)
    · refine .inr (.inr ?_)
      cases e : H b with
      | none => rfl
      | some o => exact absurd h (P.there b (by rw [e]; simp))
  keep := fun b o h w => by
    have h1 : H1 b = some o := P.keep b o h (w.imp (fun z => by cases wr1 <;> simp_all) id)
    refine Q.keep b o h1 ?_
    rcases w with w | w
    · exact .inl (by cases wr2 <;> simp_all)
    · refine .inr fun i hi => ?_
      rcases P.fresh i b hi with ⟨j, z⟩ | z
      · exact w j z
      · rw [h] at z; cases z
  there := fun b h => Q.there b (P.there b h)
  fresh := fun i b h => by
    rcases Q.fresh i b h with ⟨j, z⟩ | z
    · exact P.fresh j b z
    · refine .inr ?_
      cases e : H b with
      | none => rfl
      | some o => exact absurd z (P.there b (by rw [e]; simp))
  freshv := fun b h => by
    rcases List.mem_append.mp h with h | h
    · exact P.freshv b h
    · rcases Q.freshv b h with ⟨j, z⟩ | z
      · exact P.fresh j b z
      · refine .inr ?_
        cases e : H b with
        | none => rfl
        | some o => exact absurd z (P.there b (by rw [e]; simp))
  disv := fun i b h => by
    intro z
    rcases List.mem_append.mp z with z | z
    · rcases Q.fresh i b h with ⟨j, w⟩ | w
      · exact P.disv j b w z
      · exact (ha b z).2 w
    · exact Q.disv i b h z
  nodv := by
    refine List.nodup_append.mpr ⟨P.nodv, Q.nodv, fun a ha' b hb e => ?_⟩
    subst e
    rcases Q.freshv a hb with ⟨j, w⟩ | w
    · exact P.disv j a w ha'
    · exact (ha a ha').2 w
/-- dropping temporaries -/
theorem Post.drop (P : Post F H fp F' H' fp' (fpa ++ fpb) wr) : Post F H fp F' H' fp' fpb wr :=
  ⟨P.sub, P.new, P.keep, P.there, P.fresh, fun b h => P.freshv b (List.mem_append_right _ h), fun i b h z => P.disv i b h (List.mem_append_right _ z), (List.nodup_append.mp P.nodv).2.1⟩
theorem Post.drop0 (P : Post F H fp F' H' fp' fpv wr) : Post F H fp F' H' fp' [] wr :=
  ⟨P.sub, P.new, P.keep, P.there, P.fresh, fun b h => (nomatch h), fun i b h z => (nomatch z), List.nodup_nil⟩
/-- slots of a state behind an evaluation that leaves the slots -/
theorem TReps.get : ∀ {ts : List T} {vs : List V} {fq : List Addr} {k : Nat} {t : T} {v : V}, TReps K F H vs ts fq → ts[k]? = some t → vs[k]? = some v → ∃ f1 f2 f3, fq = f1 ++ f2 ++ f3 ∧ TRep K F H v t f2
  | [], [], fq, k, t, v, h, e, _ => by simp at e
  | [], _ :: _, _, _, _, _, h, _, _ => by simp only [TReps] at h
  | _ :: _, [], _, _, _, _, h, _, _ => by simp only [TReps] at h
  | t0 :: ts, v0 :: vs, fq, 0, t, v, h, e1, e2 => by
    simp only [TReps] at h
    obtain ⟨f1, f2, rfl, h1, h2⟩ := h
    simp at e1 e2
    subst e1 e2
    exact ⟨[], f1, f2, rfl, h1⟩
  | t0 :: ts, v0 :: vs, fq, k + 1, t, v, h, e1, e2 => by
    simp only [TReps] at h
    obtain ⟨f1, f2, rfl, h1, h2⟩ := h
    obtain ⟨g1, g2, g3, e, r⟩ := TReps.get (k := k) h2 (by simpa using e1) (by simpa using e2)
    exact ⟨f1 ++ g1, g2, g3, by rw [e]; simp, r⟩
theorem SR.slT (S : SR K iov [] F H σ ρ fp) {i : Nat} {t : T} (h : Mv.slotT ρ[i]? = some t) : ∃ v, σ[i]? = some (some v) ∧ TRep K F H v t (fp i) := by
  cases e : ρ[i]? with
  | none => rw [e] at h; simp [Mv.slotT] at h
  | some s =>
    rw [e] at h
    have r := S.slot i s e (by simp)
    cases s with
    | no => simp [Mv.slotT] at h
    | ow u => simp [Mv.slotT] at h; subst h; exact r
    | io u => simp [Mv.slotT] at h; subst h; obtain ⟨v, a, _, b⟩ := r; exact ⟨v, a, b⟩
    | al j k => simp [Mv.slotT] at h
theorem SR.gtPt (S : SR K iov [] F H σ ρ fp) {i : Nat} {k : Option Nat} {t : T} {v : V} (h : Mv.getPt ρ i k = some t) (r : VR K F H σ (.pt i k) v fpv) : ∃ f1 fq f3, fp i = f1 ++ fq ++ f3 ∧ TRep K F H v t fq := by
  cases k with
  | none =>
    obtain ⟨v', e, tr⟩ := S.slT (show Mv.slotT ρ[i]? = some t from h)
    have r := r.2
    rw [e] at r; cases r
    exact ⟨[], fp i, [], by simp, tr⟩
  | some k =>
    unfold Mv.getPt at h
    cases e : Mv.slotT ρ[i]? with
    | none => rw [e] at h; simp at h
    | some u =>
      rw [e] at h
      cases u with
      | lst ts =>
        obtain ⟨v', e', tr⟩ := S.slT e
        obtain ⟨_, a, vs, h1, h2, h3⟩ := r
        rw [e'] at h1; cases h1
        simp only [TRep] at tr
        obtain ⟨a', vs', fq, ea, efp, nf, ha, hr⟩ := tr
        cases ea
        rw [h2] at ha; cases ha
        obtain ⟨f1, f2, f3, e3, r3⟩ := TReps.get hr (show ts[k]? = some t from h) h3
        exact ⟨a :: f1, f2, f3, by rw [efp, e3]; simp, r3⟩
      | fz d => simp at h
      | tup ts => simp at h
      | dct ks ts => simp at h
theorem SR.rslv (S : SR K iov [] F H σ ρ fp) {a : Val} {t : T} {v : V} (h : Mv.resolve ρ a = some t) (r : VR K F H σ a v fpv) : ∃ fq, TRep K F H v t fq := by
  cases a with
  | t u => cases h; exact ⟨_, r⟩
  | pt i k =>
    obtain ⟨_, fq, _, _, q⟩ := S.gtPt h r
    exact ⟨fq, q⟩
theorem SR.rslvs (S : SR K iov [] F H σ ρ fp) : ∀ {as : List Val} {ts : List T} {vs : List V} {fpv}, Mv.resolves ρ as = some ts → VRs K F H σ as vs fpv → ∃ fq, TReps K F H vs ts fq
  | [], ts, [], _, h, r => by cases h; exact ⟨[], by simp only [TReps]⟩
  | [], _, _ :: _, _, _, r => r.elim
  | _ :: _, _, [], _, _, r => r.elim
  | a :: as, ts, v :: vs, _, h, r => by
    obtain ⟨f1, f2, rfl, r1, r2⟩ := r
    unfold Mv.resolves at h
    cases e : Mv.resolve ρ a with
    | none => rw [e] at h; simp at h
    | some t =>
      cases e2 : Mv.resolves ρ as with
      | none => rw [e, e2] at h; simp at h
      | some ts' =>
        rw [e, e2] at h
        simp at h; subst h
        obtain ⟨g1, q1⟩ := S.rslv e r1
        obtain ⟨g2, q2⟩ := S.rslvs e2 r2
        exact ⟨g1 ++ g2, by simp only [TReps]; exact ⟨g1, g2, rfl, q1, q2⟩⟩
/-- a state behind a change that leaves the slots' objects -/
theorem SR.step (S : SR K iov ex F H σ ρ fp) (hF : ∀ b, F b → F' b) (hn : ∀ i b, b ∈ fp i → ¬ F' b) (hk : ∀ b o, H b = some o → H' b = some o) (ht : ∀ b, F' b → H' b ≠ none) : SR K iov ex F' H' σ ρ fp where
  len := S.len
  slot := fun i s e hx => by
    have r := S.slot i s e hx
    cases s with
    | no => exact r
    | ow t => obtain ⟨v, a, r⟩ := r; exact ⟨v, a, TRep.mono hF t v _ (hn i) (fun b o _ => hk b o) r⟩
    | io t => obtain ⟨v, a, c, r⟩ := r; exact ⟨v, a, c, TRep.mono hF t v _ (hn i) (fun b o _ => hk b o) r⟩
    | al j k =>
      obtain ⟨z, r⟩ := r
      exact ⟨z, r.imp id fun ⟨v, a, vs, h1, h2, h3, h4, h5⟩ => ⟨v, a, vs, h1, h2, hk a _ h3, h4, h5.imp (hF a) id⟩⟩
  exc := S.exc
  out := S.out
  nod := S.nod
  dis := S.dis
  trk := ht
/-- what an operation leaves: nothing that stood is changed -/
def PureRes (K : PySem.W.Frag) (F : Addr → Prop) (H : Hp) (t : T) (v : V) (H' : Hp) : Prop :=
  ∃ F' fpv, (∀ b, F b → F' b) ∧ (∀ b, F' b → F b ∨ (H b = none ∧ H' b ≠ none)) ∧ (∀ b o, H b = some o → H' b = some o) ∧ TRep K F' H' v t fpv ∧ (∀ b ∈ fpv, H b = none) ∧ fpv.Nodup
theorem SR.pure (S : SR K iov ex F H σ ρ fp) {t v} (h : PureRes K F H t v H') : ∃ F' fpv, SR K iov ex F' H' σ ρ fp ∧ TRep K F' H' v t fpv ∧ Post F H fp F' H' fp fpv false := by
  obtain ⟨F', fpv, h1, h2, h3, h4, h5, h6⟩ := h
  have hn : ∀ i b, b ∈ fp i → ¬ F' b := fun i b hb f => by
    have := S.fpF i b hb
    rcases h2 b f with f | f
    · exact this.1 f
    · exact this.2 f.1
  refine ⟨F', fpv, S.step h1 hn h3 fun b f => ?_, h4, ⟨h1, fun b f => ?_, fun b o e _ => h3 b o e, fun b e => ?_, fun i b hb => .inl ⟨i, hb⟩, fun b hb => .inr (h5 b hb), fun i b hb z => ?_, h6⟩⟩
  · rcases h2 b f with f | f
    · have := S.trk b f
      cases e : H b with
      | none => exact absurd e this
      | some o => rw [h3 b o e]; simp
    · exact f.2
  · exact (h2 b f).imp id fun z => .inr z.1
  · cases e' : H b with
    | none => exact absurd e' e
    | some o => rw [h3 b o e']; simp
  · exact (S.fpF i b hb).2 (h5 b z)
theorem PureRes.same {d : D} {v : V} (h : RepD K F H v d) : PureRes K F H (.fz d) v H :=
  ⟨F, [], fun _ h => h, fun _ h => .inl h, fun _ _ h => h, by simpa only [TRep, true_and] using h, fun _ h => (nomatch h), List.nodup_nil⟩
end
end Mv

end
section
/-! Changes of a state: names bound, places frozen, objects changed. -/
namespace Mv
open PySem PySem.Spec PyProof.Rows L2
def updF (fp : Fp) (i : Nat) (f : List Addr) : Fp := fun j => if j = i then f else fp j
theorem updF_same {fp : Fp} {i f} : updF fp i f i = f := by simp [updF]
theorem updF_ne {fp : Fp} {i j f} (h : j ≠ i) : updF fp i f j = fp j := by simp [updF, h]
section
variable {K : PySem.W.Frag} {iov : Nat → Option V} {ex : List Nat} {F F1 F2 F' : Addr → Prop} {H H1 H2 H' : Hp} {σ : L2.St} {ρ ρ' : Env} {fp fp1 fp2 fp' : Fp} {fpv fpa fpb : List Addr} {wr wr1 wr2 : Bool}
theorem getElem_map {α β : Type} (f : α → β) (l : List α) (i : Nat) : (l.map f)[i]? = (l[i]?).map f := List.getElem?_map
theorem kills_get (j k) (ρ : Env) (i : Nat) : (kills j k ρ)[i]? = (ρ[i]?).map (kill j k) := by unfold kills; rw [List.getElem?_map]
theorem kill_ow {j k s t} (h : kill j k s = .ow t) : s = .ow t := by
  cases s with
  | al i l => simp only [kill] at h; split at h <;> cases h
  | _ => simpa [kill] using h
theorem kill_io {j k s t} (h : kill j k s = .io t) : s = .io t := by
  cases s with
  | al i l => simp only [kill] at h; split at h <;> cases h
  | _ => simpa [kill] using h
theorem kill_al {j k s i l} (h : kill j k s = .al i l) : s = .al i l ∧ ¬ (i = j ∧ (k = .none ∨ k = some l)) := by
  cases s with
  | al i' l' =>
    simp only [kill] at h
    split at h
    · cases h
    · rename_i hh; cases h; exact ⟨rfl, hh⟩
  | _ => simp [kill] at h
theorem slotT_kills (j k) (ρ : Env) (i : Nat) : slotT (kills j k ρ)[i]? = slotT ρ[i]? := by
  rw [kills_get]
  cases ρ[i]? with
  | none => rfl
  | some s =>
    cases s with
    | al a b => simp only [Option.map_some, kill]; split <;> rfl
    | _ => rfl
theorem getPt_kills (j k) (ρ : Env) (i l) : getPt (kills j k ρ) i l = getPt ρ i l := by
  cases l <;> simp [getPt, slotT_kills]
theorem SR.kls (S : SR K iov ex F H σ ρ fp) (j : Nat) (k : Option Nat) : SR K iov ex F H σ (Mv.kills j k ρ) fp where
  len := by unfold Mv.kills; rw [List.length_map]; exact S.len
  slot := fun i s e hx => by
    rw [kills_get] at e
    cases e' : ρ[i]? with
    | none => rw [e'] at e; cases e
    | some s0 =>
      rw [e'] at e
      have r := S.slot i s0 e' hx
      cases s0 with
      | al a b =>
        simp only [Option.map_some, kill] at e
        split at e
        · cases e; exact r.1
        · cases e; exact r
      | _ => cases e; exact r
  exc := S.exc
  out := fun i e => S.out i (by rw [kills_get] at e; cases h : ρ[i]? with | none => rfl | some s => rw [h] at e; cases e)
  nod := S.nod
  dis := S.dis
  trk := S.trk
structure Fz (F : Addr → Prop) (fp : Fp) (F' : Addr → Prop) (fp' : Fp) : Prop where
  sub : ∀ b, F b → F' b
  new : ∀ b, F' b → F b ∨ ∃ i, b ∈ fp i
  le : ∀ i b, b ∈ fp' i → b ∈ fp i
theorem Fz.refl : Fz F fp F fp := ⟨fun _ h => h, fun _ h => .inl h, fun _ _ h => h⟩
theorem Fz.trans (a : Fz F fp F1 fp1) (b : Fz F1 fp1 F2 fp2) : Fz F fp F2 fp2 :=
  ⟨fun x h => b.sub x (a.sub x h), fun x h => (b.new x h).elim (a.new x) fun ⟨i, z⟩ => .inr ⟨i, a.le i x z⟩, fun i x h => a.le i x (b.le i x h)⟩
theorem Post.fz (P : Post F H fp F1 H1 fp1 fpv wr) (Z : Fz F1 fp1 F2 fp2) : Post F H fp F2 H1 fp2 fpv wr where
  sub := fun b h => Z.sub b (P.sub b h)
  new := fun b h => by
    rcases Z.new b h with h | ⟨i, h⟩
    · exact P.new b h
    · rcases P.fresh i b h with h | h
      · exact .inr (.inl h)
      · exact .inr (.inr h)
  keep := P.keep
  there := P.there
  fresh := fun i b h => P.fresh i b (Z.le i b h)
  freshv := P.freshv
  disv := fun i b h => P.disv i b (Z.le i b h)
  nodv := P.nodv
theorem Fz.off (Z : Fz F fp F' fp') (h : ∀ b ∈ fpa, ¬ F b) (hd : ∀ i b, b ∈ fp i → b ∉ fpa) : ∀ b ∈ fpa, ¬ F' b := fun b hb f => (Z.new b f).elim (h b hb) fun ⟨i, z⟩ => hd i b z hb
theorem Fz.tmp (Z : Fz F fp F' fp') {t : T} {v : V} (h : TRep K F H v t fpa) (hd : ∀ i b, b ∈ fp i → b ∉ fpa) : TRep K F' H v t fpa :=
  TRep.mono Z.sub t v fpa (Z.off (fun b hb => (TRep.fps t v _ h b hb).1) hd) (fun _ _ _ e => e) h
theorem Fz.tmps (Z : Fz F fp F' fp') {t : List T} {v : List V} (h : TReps K F H v t fpa) (hd : ∀ i b, b ∈ fp i → b ∉ fpa) : TReps K F' H v t fpa :=
  TReps.mono Z.sub t v fpa (Z.off (fun b hb => (TReps.fps t v _ h b hb).1) hd) (fun _ _ _ e => e) h
theorem VR.fz (Z : Fz F fp F' fp') {a : Val} {v : V} (h : VR K F H σ a v fpa) (hd : ∀ i b, b ∈ fp i → b ∉ fpa) : VR K F' H σ a v fpa := by
  cases a with
  | t t => exact Z.tmp (show TRep K F H v t fpa from h) hd
  | pt i k => cases k <;> exact h
theorem VRs.fz (Z : Fz F fp F' fp') : ∀ {a : List Val} {v : List V} {fpa}, VRs K F H σ a v fpa → (∀ i b, b ∈ fp i → b ∉ fpa) → VRs K F' H σ a v fpa
  | [], [], _, h, _ => h
  | [], _ :: _, _, h, _ => h.elim
  | _ :: _, [], _, h, _ => h.elim
  | a :: as, v :: vs, _, h, hd => by
    obtain ⟨f1, f2, rfl, h1, h2⟩ := h
    exact ⟨f1, f2, rfl, h1.fz Z fun i b hb z => hd i b hb (List.mem_append_left _ z), VRs.fz Z h2 fun i b hb z => hd i b hb (List.mem_append_right _ z)⟩

theorem TReps.upd : ∀ {ts : List T} {vs : List V} {fq : List Addr} {k : Nat} {t : T} {v : V}, TReps K F H vs ts fq → ts[k]? = some t → vs[k]? = some v → ∃ f1 f2 f3, fq = f1 ++ f2 ++ f3 ∧ TRep K F H v t f2 ∧
    ∀ F' H' v' t' f2', (∀ b, F b → F' b) → (∀ b, b ∈ f1 ∨ b ∈ f3 → ¬ F' b) → (∀ b o, (F b ∨ b ∈ f1 ∨ b ∈ f3) → H b = some o → H' b = some o) → TRep K F' H' v' t' f2' → TReps K F' H' (vs.set k v') (ts.set k t') (f1 ++ f2' ++ f3)
  | [], [], fq, k, t, v, h, e, _ => by simp at e
  | [], _ :: _, _, _, _, _, h, _, _ => by simp only [TReps] at h
  | _ :: _, [], _, _, _, _, h, _, _ => by simp only [TReps] at h
  | t0 :: ts, v0 :: vs, fq, 0, t, v, h, e1, e2 => by
    simp only [TReps] at h
    obtain ⟨f1, f2, rfl, h1, h2⟩ := h
    simp at e1 e2
    subst e1 e2
    refine ⟨[], f1, f2, rfl, h1, fun F' H' v' t' f2' hF hn hk r => ?_⟩
    simp only [List.set_cons_zero, TReps, List.nil_append]
    exact ⟨f2', f2, rfl, r, TReps.mono hF ts vs f2 (fun b hb => hn b (.inr hb)) (fun b o hb => hk b o (hb.imp id .inr)) h2⟩
  | t0 :: ts, v0 :: vs, fq, k + 1, t, v, h, e1, e2 => by
    simp only [TReps] at h
    obtain ⟨f1, f2, rfl, h1, h2⟩ := h
    obtain ⟨g1, g2, g3, e, r, q⟩ := TReps.upd (k := k) h2 (by simpa using e1) (by simpa using e2)
    refine ⟨f1 ++ g1, g2, g3, by rw [e]; simp, r, fun F' H' v' t' f2' hF hn hk r' => ?_⟩
    simp only [List.set_cons_succ, TReps]
    refine ⟨f1, g1 ++ f2' ++ g3, by simp, TRep.mono hF t0 v0 f1 (fun b hb => hn b (.inl (List.mem_append_left _ hb))) (fun b o hb => hk b o (hb.imp id fun z => .inl (List.mem_append_left _ z))) h1, ?_⟩
    exact q F' H' v' t' f2' hF (fun b hb => hn b (hb.imp (List.mem_append_right _) id)) (fun b o hb => hk b o (hb.imp id fun z => z.imp (List.mem_append_right _) id)) r'

theorem setSlotT_eq {i : Nat} {t : T} (h : setSlotT ρ i t = some ρ') : ((∃ u, ρ[i]? = some (.ow u)) ∧ ρ' = ρ.set i (.ow t)) ∨ ((∃ u, ρ[i]? = some (.io u)) ∧ ρ' = ρ.set i (.io t)) := by
  unfold setSlotT at h
  split at h
  · rename_i u e; cases h; exact .inl ⟨⟨u, e⟩, rfl⟩
  · rename_i u e; cases h; exact .inr ⟨⟨u, e⟩, rfl⟩
  · cases h
/-- a slot's tree is changed, its root's address the same -/
theorem SR.setSlot (S : SR K iov ex F H σ ρ fp) {i : Nat} {y : T} {fq : List Addr} {v : V} (h : setSlotT ρ i y = some ρ') (hv : σ[i]? = some (some v)) (hio : ∀ u, ρ[i]? = some (Slot.io u) → iov i = some v) (hF : ∀ b, F b → F' b) (hn : ∀ j b, j ≠ i → b ∈ fp j → ¬ F' b)
    (hk : ∀ b o, (F b ∨ ∃ j, j ≠ i ∧ b ∈ fp j) → H b = some o → H' b = some o) (ht : ∀ b, F' b → H' b ≠ none) (hy : TRep K F' H' v y fq) (nq : fq.Nodup) (dq : ∀ j b, j ≠ i → b ∈ fp j → b ∉ fq)
    (hal : ∀ (m j l : Nat) (v' : V) (a : Addr) (vs : List V), ρ[m]? = some (Slot.al j l) → j ∉ ex → σ[j]? = some (some (.ref a)) → H a = some (.lst vs) → vs[l]? = some v' → (F a ∨ a ∈ fp j) → ∃ vs', H' a = some (.lst vs') ∧ vs'[l]? = some v' ∧ (F' a ∨ a ∈ updF fp i fq j))
    (hex : ∀ m l : Nat, ρ[m]? = some (Slot.al i l) → i ∉ ex) : SR K iov (ex.filter (· ≠ i)) F' H' σ ρ' (updF fp i fq) := by
  have ei : ∀ {x : Nat}, x ∈ ex.filter (· ≠ i) ↔ x ∈ ex ∧ x ≠ i := by intro x; simp
  have hne : ∀ j, j ≠ i → ρ'[j]? = ρ[j]? := fun j hj => by
    rcases setSlotT_eq h with ⟨_, rfl⟩ | ⟨_, rfl⟩ <;> rw [List.getElem?_set_ne (Ne.symm hj)]
  have hin : ∀ s, ρ'[i]? = some s → (s = .ow y ∨ (s = .io y ∧ iov i = some v)) := fun s e => by
    rcases setSlotT_eq h with ⟨⟨u, hu⟩, rfl⟩ | ⟨⟨u, hu⟩, rfl⟩
    · rw [List.getElem?_set_self (List.getElem?_eq_some_iff.mp hu).1] at e; cases e; exact .inl rfl
    · rw [List.getElem?_set_self (List.getElem?_eq_some_iff.mp hu).1] at e; cases e; exact .inr ⟨rfl, hio u hu⟩
  have hsome : ρ'[i]? ≠ none := by
    rcases setSlotT_eq h with ⟨⟨u, hu⟩, rfl⟩ | ⟨⟨u, hu⟩, rfl⟩ <;> rw [List.getElem?_set_self (List.getElem?_eq_some_iff.mp hu).1] <;> simp
  refine ⟨?_, fun j s e hx => ?_, fun j hj => ?_, fun j e => ?_, fun j => ?_, fun j k b hb hc => ?_, ht⟩
  · rcases setSlotT_eq h with ⟨_, rfl⟩ | ⟨_, rfl⟩ <;> simpa using S.len
  · by_cases hj : j = i
    · subst hj
      rcases hin s e with rfl | ⟨rfl, z⟩
      · exact ⟨v, hv, by rw [updF_same]; exact hy⟩
      · exact ⟨v, hv, z, by rw [updF_same]; exact hy⟩
    · rw [hne j hj] at e
      have hx' : j ∉ ex := fun z => hx (ei.mpr ⟨z, hj⟩)
      have r := S.slot j s e hx'
      have mk : ∀ t v', TRep K F H v' t (fp j) → TRep K F' H' v' t (fp j) := fun t v' r => TRep.mono hF t v' _ (fun b hb => hn j b hj hb) (fun b o hb => hk b o (hb.imp id fun z => ⟨j, hj, z⟩)) r
      cases s with
      | no => rw [SlotR, updF_ne hj]; exact r
      | ow t => obtain ⟨v', a, r⟩ := r; exact ⟨v', a, by rw [updF_ne hj]; exact mk t v' r⟩
      | io t => obtain ⟨v', a, c, r⟩ := r; exact ⟨v', a, c, by rw [updF_ne hj]; exact mk t v' r⟩
      | al m l =>
        obtain ⟨z, r⟩ := r
        refine ⟨by rw [updF_ne hj]; exact z, ?_⟩
        by_cases hm : m ∈ ex
        · by_cases hmi : m = i
          · subst hmi; exact absurd hm (hex j l e)
          · exact .inl (ei.mpr ⟨hm, hmi⟩)
        · rcases r with r | ⟨v', a, vs, h1, h2, h3, h4, h5⟩
          · exact absurd r hm
          · obtain ⟨vs', q1, q2, q3⟩ := hal j m l v' a vs e hm h2 h3 h4 h5
            exact .inr ⟨v', a, vs', h1, h2, q1, q2, q3⟩
  · have := ei.mp hj; rw [updF_ne this.2]; exact S.exc j this.1
  · by_cases hj : j = i
    · subst hj; exact absurd e hsome
    · rw [updF_ne hj]; rw [hne j hj] at e; exact S.out j e
  · by_cases hj : j = i
    · subst hj; rw [updF_same]; exact nq
    · rw [updF_ne hj]; exact S.nod j
  · by_cases hj : j = i
    · by_cases hkk : k = i
      · rw [hj, hkk]
      · subst hj; rw [updF_same] at hb; rw [updF_ne hkk] at hc; exact absurd hb (dq k b hkk hc)
    · by_cases hkk : k = i
      · subst hkk; rw [updF_same] at hc; rw [updF_ne hj] at hb; exact absurd hc (dq j b hj hb)
      · rw [updF_ne hj] at hb; rw [updF_ne hkk] at hc; exact S.dis j k b hb hc
theorem filter_nil {i : Nat} : ([] : List Nat).filter (· ≠ i) = [] := rfl
theorem SR.ioOf (S : SR K iov ex F H σ ρ fp) {i : Nat} {v : V} (hx : i ∉ ex) (hv : σ[i]? = some (some v)) : ∀ u, ρ[i]? = some (Slot.io u) → iov i = some v := fun u e => by
  obtain ⟨v', h1, h2, _⟩ := S.slot i _ e hx
  rw [hv] at h1; cases h1; exact h2
/-- the object at a place is changed -/
theorem SR.stPt (S : SR K iov [] F H σ ρ fp) {j : Nat} {k : Option Nat} {x y : T} {v : V} (hg : Mv.getPt ρ j k = some x) (r : VR K F H σ (.pt j k) v fpa) (h : Mv.setPt ρ j k y = some ρ') :
    ∃ f1 fq f3, fp j = f1 ++ fq ++ f3 ∧ (k = none → fq = fp j) ∧ TRep K F H v x fq ∧ ∀ F' H' fq', (∀ b, F b → F' b) → (∀ b, F' b → F b ∨ b ∈ fq ∨ H b = none) → (∀ b o, H b = some o → b ∉ fq ∨ H' = H → H' b = some o) → (∀ b, F' b → H' b ≠ none) → TRep K F' H' v y fq' → fq'.Nodup →
      (∀ b ∈ fq', b ∈ fq ∨ ∀ m, b ∉ fp m) → (k = none → ∀ (m l : Nat) (v' : V) (a : Addr) (vs : List V), ρ[m]? = some (Slot.al j l) → v = .ref a → H a = some (.lst vs) → vs[l]? = some v' → ∃ vs', H' a = some (.lst vs') ∧ vs'[l]? = some v' ∧ (F' a ∨ a ∈ fq')) →
      SR K iov [] F' H' σ ρ' (updF fp j (f1 ++ fq' ++ f3)) := by
  have dj := S.nod j
  cases k with
  | none =>
    obtain ⟨v', hv, tr⟩ := S.slT (show slotT ρ[j]? = some x from hg)
    have rv := r.2
    rw [hv] at rv; cases rv
    refine ⟨[], fp j, [], by simp, fun _ => rfl, tr, fun F' H' fq' hF hnew hk ht hy nq hfr hal => ?_⟩
    have off : ∀ m b, m ≠ j → b ∈ fp m → b ∉ fp j := fun m b hm h1 h2 => hm (S.dis m j b h1 h2)
    have e : ([] ++ fq' ++ [] : List Addr) = fq' := by simp
    rw [e]
    refine S.setSlot h hv (S.ioOf (by simp) hv) hF (fun m b hm hb f => ?_) (fun b o hb e => hk b o e (.inl ?_)) ht hy nq (fun m b hm hb hq => ?_) (fun m j' l v2 a vs e1 _ e2 e3 e4 e5 => ?_) (fun _ _ _ => by simp)
    · rcases hnew b f with f | f | f
      · exact (S.fpF m b hb).1 f
      · exact off m b hm hb f
      · exact (S.fpF m b hb).2 f
    · rcases hb with f | ⟨m, hm, f⟩
      · exact fun z => (S.fpF j b z).1 f
      · exact off m b hm f
    · rcases hfr b hq with z | z
      · exact off m b hm hb z
      · exact z m hb
    · by_cases hj : j' = j
      · subst hj
        rw [hv] at e2; cases e2
        rw [updF_same]
        exact hal rfl m l v2 a vs e1 rfl e3 e4
      · rw [updF_ne hj]
        refine ⟨vs, hk a _ e3 (.inl fun z => ?_), e4, e5.imp (hF a) id⟩
        rcases e5 with f | f
        · exact (S.fpF j a z).1 f
        · exact off j' a hj f z
  | some k =>
    unfold Mv.getPt at hg
    cases es : slotT ρ[j]? with
    | none => rw [es] at hg; simp at hg
    | some u =>
      rw [es] at hg
      cases u with
      | fz d => simp at hg
      | tup ts => simp at hg
      | dct ks ts => simp at hg
      | lst ts =>
        have hg : ts[k]? = some x := hg
        obtain ⟨v', hv, tr⟩ := S.slT es
        obtain ⟨_, a, vs, h1, h2, h3⟩ := r
        rw [hv] at h1; cases h1
        simp only [TRep] at tr
        obtain ⟨a', vs', fr, ea, efp, nf, ha, hr⟩ := tr
        cases ea
        rw [h2] at ha; cases ha
        obtain ⟨f1, fq, f3, e3, r3, up⟩ := TReps.upd hr hg h3
        have hset : setSlotT ρ j (.lst (ts.set k y)) = some ρ' := by
          unfold Mv.setPt at h
          rw [es] at h
          have hk := (List.getElem?_eq_some_iff.mp hg).1
          simpa [hk] using h
        have efp' : fp j = a :: (f1 ++ fq ++ f3) := by rw [efp, e3]
        refine ⟨a :: f1, fq, f3, by rw [efp']; simp, (fun z => nomatch z), r3, fun F' H' fq' hF hnew hk ht hy nq hfr _ => ?_⟩
        have nd : (a :: (f1 ++ fq ++ f3)).Nodup := efp' ▸ dj
        have nd2 := List.nodup_cons.mp nd
        have nd3 := List.nodup_append.mp nd2.2
        have nd4 := List.nodup_append.mp nd3.1
        have aq : a ∉ fq := fun z => nd2.1 (by simp [z])
        have q1 : ∀ b, b ∈ f1 → b ∉ fq := fun b hb hq => nd4.2.2 b hb b hq rfl
        have q3 : ∀ b, b ∈ f3 → b ∉ fq := fun b hb hq => nd3.2.2 b (List.mem_append_right _ hq) b hb rfl
        have inj : ∀ b, b ∈ a :: f1 ∨ b ∈ f3 → b ∈ fp j ∧ b ∉ fq := fun b hb => by
          rw [efp']
          rcases hb with hb | hb
          · rcases List.mem_cons.mp hb with rfl | hb
            · exact ⟨by simp, aq⟩
            · exact ⟨by simp [hb], q1 b hb⟩
          · exact ⟨by simp [hb], q3 b hb⟩
        have fqj : ∀ b, b ∈ fq → b ∈ fp j := fun b hb => by rw [efp']; simp [hb]
        have off : ∀ m b, m ≠ j → b ∈ fp m → b ∉ fq := fun m b hm h1 h2 => hm (S.dis m j b h1 (fqj b h2))
        have nf' : ∀ b, b ∈ a :: f1 ∨ b ∈ f3 → ¬ F' b := fun b hb f => by
          have := inj b hb
          rcases hnew b f with f | f | f
          · exact (S.fpF j b this.1).1 f
          · exact this.2 f
          · exact (S.fpF j b this.1).2 f
        have ee : (a :: f1) ++ fq' ++ f3 = a :: (f1 ++ fq' ++ f3) := by simp
        rw [ee]
        have hvs : vs.set k v = vs := by
          apply List.ext_getElem?
          intro n
          by_cases hn : n = k
          · subst hn; rw [List.getElem?_set_self (List.getElem?_eq_some_iff.mp h3).1, h3]
          · rw [List.getElem?_set_ne (Ne.symm hn)]
        refine S.setSlot hset hv (S.ioOf (by simp) hv) hF (fun m b hm hb f => ?_) (fun b o hb e => hk b o e (.inl ?_)) ht ?_ ?_ (fun m b hm hb hq => ?_) (fun m j' l v2 a2 vs2 e1 _ e2 e3 e4 e5 => ?_) (fun _ _ _ => by simp)
        · rcases hnew b f with f | f | f
          · exact (S.fpF m b hb).1 f
          · exact off m b hm hb f
          · exact (S.fpF m b hb).2 f
        · rcases hb with f | ⟨m, hm, f⟩
          · exact fun z => (S.fpF j b (fqj b z)).1 f
          · exact off m b hm f
        · simp only [TRep]
          refine ⟨a, vs, f1 ++ fq' ++ f3, rfl, rfl, nf' a (.inl (by simp)), hk a _ h2 (.inl aq), ?_⟩
          have := up F' H' v y fq' hF (fun b hb => nf' b (hb.imp (List.mem_cons_of_mem _) id)) (fun b o hb e => hk b o e (.inl ?_)) hy
          · rw [hvs] at this; exact this
          · rcases hb with f | f | f
            · exact fun z => (S.fpF j b (fqj b z)).1 f
            · exact q1 b f
            · exact q3 b f
        · -- no address twice
          refine List.nodup_cons.mpr ⟨fun z => ?_, ?_⟩
          · rcases List.mem_append.mp z with z | z
            · rcases List.mem_append.mp z with z | z
              · exact nd2.1 (by simp [z])
              · rcases hfr a z with w | w
                · exact aq w
                · exact w j (by rw [efp']; simp)
            · exact nd2.1 (by simp [z])
          · refine List.nodup_append.mpr ⟨List.nodup_append.mpr ⟨nd4.1, nq, fun b hb c hc e => ?_⟩, nd3.2.1, fun b hb c hc e => ?_⟩
            · subst e
              rcases hfr b hc with w | w
              · exact q1 b hb w
              · exact w j (inj b (.inl (List.mem_cons_of_mem _ hb))).1
            · subst e
              rcases List.mem_append.mp hb with hb | hb
              · exact nd3.2.2 b (List.mem_append_left _ hb) b hc rfl
              · rcases hfr b hb with w | w
                · exact q3 b hc w
                · exact w j (inj b (.inr hc)).1
        · rcases List.mem_cons.mp hq with rfl | hq
          · exact hm (S.dis m j b hb (by rw [efp']; simp))
          · rcases List.mem_append.mp hq with hq | hq
            · rcases List.mem_append.mp hq with hq | hq
              · exact hm (S.dis m j b hb (inj b (.inl (List.mem_cons_of_mem _ hq))).1)
              · rcases hfr b hq with z | z
                · exact off m b hm hb z
                · exact z m hb
            · exact hm (S.dis m j b hb (inj b (.inr hq)).1)
        · by_cases hj : j' = j
          · subst hj
            rw [hv] at e2; cases e2
            rw [updF_same]
            exact ⟨vs2, hk a _ e3 (.inl aq), e4, .inr (by simp)⟩
          · rw [updF_ne hj]
            refine ⟨vs2, hk a2 _ e3 (.inl fun z => ?_), e4, e5.imp (hF a2) id⟩
            rcases e5 with f | f
            · exact (S.fpF j a2 (fqj a2 z)).1 f
            · exact off j' a2 hj f z
theorem SR.lt (S : SR K iov ex F H σ ρ fp) {i : Nat} {s : Slot} (h : ρ[i]? = some s) : i < σ.length := by
  have := (List.getElem?_eq_some_iff.mp h).1; rw [S.len] at this; exact this
/-- a slot is given another content, the aliases to it gone -/
theorem SR.rebind (S : SR K iov [] F H σ ρ fp) {i : Nat} {s : Slot} {σ' : L2.St} {fq : List Addr} (hs : ∃ s0, ρ[i]? = some s0) (hl : σ'.length = σ.length) (hσ : ∀ j, j ≠ i → σ'[j]? = σ[j]?) (nq : fq.Nodup) (dq : ∀ j b, j ≠ i → b ∈ fp j → b ∉ fq)
    (hr : SlotR K iov F H σ' [] (updF fp i fq) i s) : SR K iov [] F H σ' ((Mv.kills i none ρ).set i s) (updF fp i fq) := by
  obtain ⟨s0, hs⟩ := hs
  have il : i < (Mv.kills i none ρ).length := by unfold Mv.kills; rw [List.length_map]; exact (List.getElem?_eq_some_iff.mp hs).1
  refine ⟨?_, fun j s' e _ => ?_, fun j hj => (nomatch hj), fun j e => ?_, fun j => ?_, fun j k b hb hc => ?_, S.trk⟩
  · rw [List.length_set, hl]; unfold Mv.kills; rw [List.length_map]; exact S.len
  · by_cases hj : j = i
    · subst hj; rw [List.getElem?_set_self il] at e; cases e; exact hr
    · rw [List.getElem?_set_ne (Ne.symm hj), kills_get] at e
      cases e' : ρ[j]? with
      | none => rw [e'] at e; cases e
      | some sj =>
        rw [e'] at e
        have r := S.slot j sj e' (by simp)
        cases sj with
        | no => cases e; show updF fp i fq j = []; rw [updF_ne hj]; exact r
        | ow t => cases e; obtain ⟨v, a, r⟩ := r; exact ⟨v, by rw [hσ j hj]; exact a, by rw [updF_ne hj]; exact r⟩
        | io t => cases e; obtain ⟨v, a, c, r⟩ := r; exact ⟨v, by rw [hσ j hj]; exact a, c, by rw [updF_ne hj]; exact r⟩
        | al m l =>
          simp only [Option.map_some, kill] at e
          split at e
          · cases e; show updF fp i fq j = []; rw [updF_ne hj]; exact r.1
          · rename_i hm
            cases e
            have hmi : m ≠ i := fun z => hm ⟨z, Or.inl trivial⟩
            obtain ⟨z, r⟩ := r
            refine ⟨by rw [updF_ne hj]; exact z, ?_⟩
            rcases r with r | ⟨v, a, vs, h1, h2, h3, h4, h5⟩
            · cases r
            · exact .inr ⟨v, a, vs, by rw [hσ j hj]; exact h1, by rw [hσ m hmi]; exact h2, h3, h4, by rw [updF_ne hmi]; exact h5⟩
  · by_cases hj : j = i
    · subst hj; rw [List.getElem?_set_self il] at e; cases e
    · rw [updF_ne hj]; rw [List.getElem?_set_ne (Ne.symm hj), kills_get] at e
      exact S.out j (by cases h : ρ[j]? with | none => rfl | some s => rw [h] at e; cases e)
  · by_cases hj : j = i
    · subst hj; rw [updF_same]; exact nq
    · rw [updF_ne hj]; exact S.nod j
  · by_cases hj : j = i
    · by_cases hkk : k = i
      · rw [hj, hkk]
      · subst hj; rw [updF_same] at hb; rw [updF_ne hkk] at hc; exact absurd hb (dq k b hkk hc)
    · by_cases hkk : k = i
      · subst hkk; rw [updF_same] at hc; rw [updF_ne hj] at hb; exact absurd hc (dq j b hj hb)
      · rw [updF_ne hj] at hb; rw [updF_ne hkk] at hc; exact S.dis j k b hb hc
theorem SR.bind (S : SR K iov [] F H σ ρ fp) {i : Nat} {a : Val} {v : V} (h : bindS ρ i a = some ρ') (r : VR K F H σ a v fpv) (nd : fpv.Nodup) (hd : ∀ j b, b ∈ fp j → b ∉ fpv) : SR K iov [] F H (σ.set i (some v)) ρ' (updF fp i fpv) := by
  unfold bindS at h
  split at h
  · cases h
  · cases h
  · rename_i s0 hs0 e0
    have il := S.lt e0
    split at h
    · rename_i t
      cases h
      exact S.rebind ⟨_, e0⟩ (by simp) (fun j hj => by rw [List.getElem?_set_ne (Ne.symm hj)]) nd (fun j b hj hb => hd j b hb) ⟨v, by rw [List.getElem?_set_self il], by rw [updF_same]; exact r⟩
    · rename_i j k
      split at h
      · cases h
      · rename_i hj
        split at h
        · rename_i u hu
          cases h
          obtain ⟨e, a, vs, h1, h2, h3⟩ := r
          subst e
          refine S.rebind ⟨_, e0⟩ (by simp) (fun j hj => by rw [List.getElem?_set_ne (Ne.symm hj)]) List.nodup_nil (fun j b hj hb => hd j b hb) ⟨by rw [updF_same], .inr ⟨v, a, vs, by rw [List.getElem?_set_self il], ?_, h2, h3, .inr ?_⟩⟩
          · rw [List.getElem?_set_ne (fun z => hj z.symm)]; exact h1
          · rw [updF_ne hj]
            unfold Mv.getPt at hu
            cases es : Mv.slotT ρ[j]? with
            | none => rw [es] at hu; simp at hu
            | some w =>
              rw [es] at hu
              cases w with
              | lst ts =>
                obtain ⟨v', hv, tr⟩ := S.slT es
                rw [h1] at hv; cases hv
                simp only [TRep] at tr
                obtain ⟨a', vs', fr, ea, efp, _⟩ := tr
                cases ea; rw [efp]; simp
              | fz d => simp at hu
              | tup ts => simp at hu
              | dct ks ts => simp at hu
        · cases h
    · cases h
theorem SR.move (S : SR K iov [] F H σ ρ fp) {i : Nat} {t : T} (h : ρ[i]? = some (Slot.ow t)) : ∃ v, σ[i]? = some (some v) ∧ TRep K F H v t (fp i) ∧ SR K iov [] F H σ ((Mv.kills i none ρ).set i .no) (updF fp i []) := by
  obtain ⟨v, hv, r⟩ := S.slot i _ h (by simp)
  exact ⟨v, hv, r, S.rebind ⟨_, h⟩ rfl (fun _ _ => rfl) List.nodup_nil (fun _ _ _ _ z => (nomatch z)) (show SlotR K iov F H σ [] (updF fp i []) i .no from updF_same)⟩
theorem updF_le {fp : Fp} {i : Nat} {f : List Addr} (h : ∀ b ∈ f, b ∈ fp i) : ∀ j b, b ∈ updF fp i f j → b ∈ fp j := fun j b hb => by
  by_cases hj : j = i
  · subst hj; rw [updF_same] at hb; exact h b hb
  · rw [updF_ne hj] at hb; exact hb
/-- a place is frozen -/
theorem SR.fzV (S : SR K iov [] F H σ ρ fp) {a : Val} {v : V} {t : T} (h : fzVal ρ a = some (t, ρ')) (r : VR K F H σ a v fpv) : ∃ F' fp', SR K iov [] F' H σ ρ' fp' ∧ (TRep K F H v t fpv ∨ TRep K F' H v t fpv ∧ fpv = []) ∧ Fz F fp F' fp' := by
  cases a with
  | t u => cases h; exact ⟨F, fp, S, .inl r, .refl⟩
  | pt j k =>
    have e : fpv = [] := by cases k <;> exact r.1
    subst e
    unfold fzVal at h
    simp only at h
    split at h
    · cases h
    · rename_i x hx hno
      obtain ⟨ρ1, e1, e2⟩ := Option.map_eq_some_iff.mp h
      cases e2
      obtain ⟨f1, fq, f3, efp, ek, tr, q⟩ := S.stPt hx r e1
      have hin : ∀ b, b ∈ fq → b ∈ fp j := fun b hb => by rw [efp]; simp [hb]
      have tz : TRep K (fun b => F b ∨ b ∈ fq) H v (.fz x.toD) [] := by
        simp only [TRep, true_and]
        exact TRep.fz (fun b hb => .inl hb) x v fq (fun b hb => .inr hb) tr
      refine ⟨fun b => F b ∨ b ∈ fq, _, q (fun b => F b ∨ b ∈ fq) H [] (fun b hb => .inl hb) (fun b hb => hb.imp id .inl) (fun b o e _ => e) (fun b hb => hb.elim (S.trk b) fun z => (S.fpF j b (hin b z)).2) tz List.nodup_nil (fun b hb => (nomatch hb))
        (fun hk0 m l v' a vs w1 w2 e3 e4 => ⟨vs, e3, e4, .inl ?_⟩), .inr ⟨tz, rfl⟩, ⟨fun b hb => .inl hb, fun b hb => hb.imp id fun z => ⟨j, hin b z⟩, updF_le fun b hb => ?_⟩⟩
      · -- the root itself is frozen
        subst hk0 w2
        obtain ⟨_, r'⟩ := S.slot m _ w1 (by simp)
        rcases r' with r' | ⟨v0, a0, vs0, p1, p2, p3, p4, p5⟩
        · cases r'
        · have := r.2
          rw [p2] at this
          cases this
          rw [ek rfl]
          exact p5
      · rw [efp]
        simp only [List.append_nil, List.mem_append] at hb ⊢
        rcases hb with hb | hb
        · exact .inl (.inl hb)
        · exact .inr hb
    · cases h
end
end Mv

end
section
/-! The operations on trees are what the operators of the language do. -/
namespace Mv
open PySem PySem.Spec PyProof.Rows L2
section
variable {X : Cx} {K : PySem.W.Frag} {F F' : Addr → Prop} {H H' : Hp} {fa fb : List Addr} {t x y : T} {v vx vy : V}
theorem bits_okI {i : Int} (h : okI i = true) : Builtin.Int.intBits i ≤ 8192 := intBits_le (of_decide_eq_true h)
theorem log2_okI {i : Int} (h : okI i = true) : i.natAbs.log2 < 9000 := Nat.lt_of_lt_of_le (PySem.Flt.log2_lt_of (by decide : 0 < 8192) (of_decide_eq_true h)) (by decide)
/-- an operation on two values that leaves all as it is -/
def R2P (K : PySem.W.Frag) (x y t : T) : R2 := fun vx vy H Q => ∃ F fa fb, TRep K F H vx x fa ∧ TRep K F H vy y fb ∧ ∀ v H', PureRes K F H t v H' → Q v H'
theorem trep_int {i : Int} (h : TRep K F H v (.fz (.int i)) fa) : v = .int i := by simpa only [TRep, RepD] using h.2
theorem trep_str {i : Str} (h : TRep K F H v (.fz (.str i)) fa) : v = .str i := by simpa only [TRep, RepD] using h.2
theorem trep_bool {i : Bool} (h : TRep K F H v (.fz (.bool i)) fa) : v = .bl i := by simpa only [TRep, RepD] using h.2
theorem trep_none (h : TRep K F H v (.fz .none) fa) : v = .non := by simpa only [TRep, RepD] using h.2
theorem res_int {i : Int} : PureRes K F H (.fz (.int i)) (.int i) H := .same (by simp only [RepD])
theorem res_str {i : Str} : PureRes K F H (.fz (.str i)) (.str i) H := .same (by simp only [RepD])
theorem res_bool {i : Bool} : PureRes K F H (.fz (.bool i)) (.bl i) H := .same (by simp only [RepD])
theorem upd_keep {p : Addr} {o : HO} (hp : H p = none) : ∀ b u, H b = some u → upd H p o b = some u := fun b u e => by rw [upd_ne (ne_of_none e hp)]; exact e
theorem RepDs.append : ∀ {ds es : List D} {vs ws : List V}, RepDs K F H vs ds → RepDs K F H ws es → RepDs K F H (vs ++ ws) (ds ++ es)
  | [], _, [], _, _, h => h
  | [], _, _ :: _, _, h, _ => by simp only [RepDs] at h
  | _ :: _, _, [], _, h, _ => by simp only [RepDs] at h
  | d :: ds, es, v :: vs, ws, h, h2 => by
    simp only [RepDs] at h
    simp only [List.cons_append, RepDs]
    exact ⟨h.1, RepDs.append h.2 h2⟩
theorem RepDs.get : ∀ {ds : List D} {vs : List V} {k : Nat} {d : D}, RepDs K F H vs ds → ds[k]? = some d → ∃ v, vs[k]? = some v ∧ RepD K F H v d
  | [], _, _, _, _, e => by simp at e
  | _ :: _, [], _, _, h, _ => by simp only [RepDs] at h
  | d :: ds, v :: vs, 0, d', h, e => by simp only [RepDs] at h; simp at e; subst e; exact ⟨v, rfl, h.1⟩
  | d :: ds, v :: vs, k + 1, d', h, e => by
    simp only [RepDs] at h
    obtain ⟨v', a, b⟩ := RepDs.get (k := k) h.2 (by simpa using e)
    exact ⟨v', by simpa using a, b⟩
theorem RepDs.drop : ∀ (n : Nat) {ds : List D} {vs : List V}, RepDs K F H vs ds → RepDs K F H (vs.drop n) (ds.drop n)
  | 0, _, _, h => h
  | n + 1, [], [], h => h
  | n + 1, [], _ :: _, h => by simp only [RepDs] at h
  | n + 1, _ :: _, [], h => by simp only [RepDs] at h
  | n + 1, d :: ds, v :: vs, h => by simp only [RepDs] at h; exact RepDs.drop n h.2
theorem RepDs.take : ∀ (n : Nat) {ds : List D} {vs : List V}, RepDs K F H vs ds → RepDs K F H (vs.take n) (ds.take n)
  | 0, _, _, h => by simp only [List.take_zero, RepDs]
  | n + 1, [], [], h => by simp only [List.take_nil, RepDs]
  | n + 1, [], _ :: _, h => by simp only [RepDs] at h
  | n + 1, _ :: _, [], h => by simp only [RepDs] at h
  | n + 1, d :: ds, v :: vs, h => by simp only [RepDs] at h; simp only [List.take_succ_cons, RepDs]; exact ⟨h.1, RepDs.take n h.2⟩
theorem RepDs.rep (n : Nat) {ds : List D} {vs : List V} (h : RepDs K F H vs ds) : RepDs K F H (List.replicate n vs).flatten (List.replicate n ds).flatten := by
  induction n with
  | zero => simp only [List.replicate_zero, List.flatten_nil, RepDs]
  | succ n ih => simp only [List.replicate_succ, List.flatten_cons]; exact h.append ih
theorem TReps.fzs : ∀ {ds : List D} {vs : List V}, TReps K F H vs (Mv.fzs ds) fa ↔ fa = [] ∧ RepDs K F H vs ds := by
  intro ds
  induction ds generalizing fa with
  | nil => intro vs; cases vs <;> simp [Mv.fzs, TReps, RepDs]
  | cons d ds ih =>
    intro vs
    cases vs with
    | nil => simp [Mv.fzs, TReps, RepDs]
    | cons v vs =>
      have e : Mv.fzs (d :: ds) = .fz d :: Mv.fzs ds := rfl
      rw [e]
      simp only [TReps, RepDs, TRep]
      constructor
      · rintro ⟨f1, f2, rfl, ⟨rfl, h1⟩, h2⟩
        obtain ⟨rfl, h3⟩ := ih.mp h2
        exact ⟨rfl, h1, h3⟩
      · rintro ⟨rfl, h1, h2⟩
        exact ⟨[], [], rfl, ⟨rfl, h1⟩, ih.mpr ⟨rfl, h2⟩⟩
theorem unfzs_eq : ∀ {ts : List T} {ds : List D}, T.unfzs ts = some ds → ts = Mv.fzs ds
  | [], ds, h => by cases h; rfl
  | t :: ts, ds, h => by
    unfold T.unfzs at h
    cases t with
    | fz d =>
      cases e : T.unfzs ts with
      | none => rw [e] at h; simp [T.unfz] at h
      | some es =>
        rw [e] at h
        simp [T.unfz] at h
        subst h
        rw [unfzs_eq e]; rfl
    | lst ts => simp [T.unfz] at h
    | tup ts => simp [T.unfz] at h
    | dct ks ts => simp [T.unfz] at h
/-- a new list of frozen things -/
theorem res_fl {ds : List D} {vs : List V} {p : Addr} (hp : H p = none) (hF : ∀ b, F b → H b ≠ none) (h : RepDs K F H vs ds) : PureRes K F H (.fl ds) (.ref p) (upd H p (.lst vs)) := by
  refine ⟨F, [p], fun _ h => h, fun b h => .inl h, upd_keep hp, ?_, fun b hb => ?_, by simp⟩
  · unfold T.fl
    simp only [TRep]
    exact ⟨p, vs, [], rfl, rfl, fun f => hF p f hp, upd_same, TReps.fzs.mpr ⟨rfl, RepDs.mono (fun _ h => h) (fun a o _ e => upd_keep hp a o e) ds vs h⟩⟩
  · rw [List.mem_singleton.mp hb]; exact hp
/-- a new frozen tuple -/
theorem res_tup {ds : List D} {vs : List V} {p : Addr} (hp : H p = none) (h : RepDs K F H vs ds) : PureRes K F H (.fz (.tup ds)) (.ref p) (upd H p (.tup vs)) := by
  refine ⟨fun b => F b ∨ b = p, [], fun _ h => .inl h, fun b h => h.imp id fun z => ⟨by rw [z]; exact hp, by rw [z, upd_same]; simp⟩, upd_keep hp, ?_, fun b hb => (nomatch hb), List.nodup_nil⟩
  simp only [TRep, true_and, RepD]
  exact ⟨p, vs, rfl, .inl ⟨.inr rfl, .inl upd_same⟩, RepDs.mono (fun _ h => .inl h) (fun a o _ e => upd_keep hp a o e) ds vs h⟩
/-- a list of frozen things, to be read -/
theorem flat_rep {ds : List D} (e : x.flat = some ds) (h : TRep K F H vx x fa) : ∃ a vs, vx = .ref a ∧ SqL K H a vs ∧ RepDs K F H vs ds := by
  unfold T.flat at e
  split at e
  · cases e
    simp only [TRep, RepD] at h
    obtain ⟨_, a, vs, rfl, hl, hr⟩ := h
    exact ⟨a, vs, rfl, hl.sq, hr⟩
  · rename_i ts
    rw [unfzs_eq e] at h
    simp only [TRep] at h
    obtain ⟨a, vs, fq, rfl, rfl, nf, ha, hr⟩ := h
    exact ⟨a, vs, rfl, .inl (.inl ha), (TReps.fzs.mp hr).2⟩
  · cases e
theorem op_catR : OpR X (binaryOp .Add) (fun x y H Q => ∃ l b xs zs, x = .ref l ∧ y = .ref b ∧ SqL X.K H l xs ∧ SqL X.K H b zs ∧ xs.length + zs.length ≤ sizeLine ∧ ∀ p, H p = none → Q (.ref p) (upd H p (.lst (xs ++ zs)))) := by
  intro pins s σ H x y v u Q I rx ry h
  obtain ⟨l, b, xs, zs, rfl, rfl, hH, hB, hz, q⟩ := h
  cases rx
  cases ry
  obtain ⟨its, r, ⟨⟨c1, g1, d1, s1⟩, n, e, k1, k2, k3⟩, hl⟩ := I.list hH
  obtain ⟨its2, r2, ⟨⟨c2, g2, d2, s2⟩, n2, e2, m1, m2, m3⟩, hl2⟩ := I.list hB
  simp only at k1 k2 k3 m1 m2 m3
  subst k1 k2 k3 m1 m2 m3
  have l1 := r.length
  have l2 := r2.length
  refine concat_meets ⟨_, e, rfl⟩ ⟨_, e2, rfl⟩ noFill_list_add seq_list_add PySem.F.slot_list_add PySem.F.entry_list_add (PySem.F.args_list_add_2 _ _) (list_addW l b its.toArray its2.toArray n n2 none none s1 s2 (by rw [List.size_toArray, List.size_toArray]; omega)) ⟨e, e2, ?_⟩
  have ea : its.toArray ++ its2.toArray = (its ++ its2).toArray := by simp
  rw [ea]
  exact ⟨.ref _, _, I.lnew (t' := s.toks) (r.append r2) (by rw [List.length_append]; omega), rfl, q _ I.fresh⟩
theorem OpR.mono' {f : Value → Value → Sem Value} {r r' : R2} (h : OpR X f r) (k : ∀ x y H Q, r' x y H Q → r x y H Q) : OpR X f r' := fun pins s σ H x y v u Q I rx ry q => h pins s σ H x y v u Q I rx ry (k _ _ _ _ q)
/-- what a state knows of its frozen set -/
def R2T (K : PySem.W.Frag) (x y t : T) : R2 := fun vx vy H Q => ∃ F fa fb, (∀ b, F b → H b ≠ none) ∧ TRep K F H vx x fa ∧ TRep K F H vy y fb ∧ ∀ v H', PureRes K F H t v H' → Q v H'
theorem okLen_le {n : Nat} (h : okLen n = true) : n ≤ sizeLine := of_decide_eq_true h
theorem op_addT {x y t : T} (h : addT x y = some t) : OpR X (binaryOp .Add) (R2T X.K x y t) := by
  unfold addT at h
  split at h
  · cases h
    refine OpR.mono' op_add ?_
    rintro vx vy H Q ⟨F, fa, fb, hF, hx, hy, q⟩
    exact ⟨_, _, trep_int hx, trep_int hy, q _ _ res_int⟩
  · split at h
    · rename_i hl
      cases h
      refine OpR.mono' op_add_str ?_
      rintro vx vy H Q ⟨F, fa, fb, hF, hx, hy, q⟩
      exact ⟨_, _, trep_str hx, trep_str hy, okLen_le hl, q _ _ res_str⟩
    · cases h
  · rename_i xs ys
    split at h
    · rename_i hl
      cases h
      refine OpR.mono' op_catA ?_
      rintro vx vy H Q ⟨F, fa, fb, hF, hx, hy, q⟩
      simp only [TRep, RepD] at hx hy
      obtain ⟨_, a, vs, rfl, hl1, hr1⟩ := hx
      obtain ⟨_, b, ws, rfl, hl2, hr2⟩ := hy
      have e1 := hr1.len
      have e2 := hr2.len
      refine ⟨a, b, vs, ws, rfl, rfl, hl1.sq, hl2.sq, by rw [e1, e2]; exact okLen_le hl, fun e => ?_, fun _ e => ?_, fun _ _ p hp => q _ _ (res_tup hp (hr1.append hr2))⟩
      · subst e
        have : xs = [] := List.eq_nil_of_length_eq_zero e1.symm
        subst this
        exact q _ _ (.same (by simp only [List.nil_append, RepD]; exact ⟨b, ws, rfl, hl2, hr2⟩))
      · subst e
        have : ys = [] := List.eq_nil_of_length_eq_zero e2.symm
        subst this
        exact q _ _ (.same (by simp only [List.append_nil, RepD]; exact ⟨a, vs, rfl, hl1, hr1⟩))
    · cases h
  · split at h
    · rename_i xs ys ex ey
      split at h
      · rename_i hl
        cases h
        refine OpR.mono' op_catR ?_
        rintro vx vy H Q ⟨F, fa, fb, hF, hx, hy, q⟩
        obtain ⟨a, vs, rfl, h1, r1⟩ := flat_rep ex hx
        obtain ⟨b, ws, rfl, h2, r2⟩ := flat_rep ey hy
        exact ⟨a, b, vs, ws, rfl, rfl, h1, h2, by rw [r1.len, r2.len]; exact okLen_le hl, fun p hp => q _ _ (res_fl hp hF (r1.append r2))⟩
      · cases h
    · cases h
theorem op_mulT {x y t : T} (h : mulT x y = some t) : OpR X (binaryOp .Mult) (R2T X.K x y t) := by
  unfold mulT at h
  split at h
  · split at h
    · rename_i i j hl
      cases h
      rw [Bool.and_eq_true] at hl
      refine OpR.mono' op_mulX ?_
      rintro vx vy H Q ⟨F, fa, fb, hF, hx, hy, q⟩
      refine ⟨_, _, trep_int hx, trep_int hy, ?_, q _ _ res_int⟩
      have := bits_okI hl.1
      have := bits_okI hl.2
      unfold CMulX; omega
    · cases h
  · rename_i ts j
    split at h
    · rename_i ds e
      split at h
      · rename_i hl
        cases h
        simp only [Bool.and_eq_true, decide_eq_true_eq] at hl
        refine OpR.mono' op_rep ?_
        rintro vx vy H Q ⟨F, fa, fb, hF, hx, hy, q⟩
        rw [unfzs_eq e] at hx
        simp only [TRep] at hx
        obtain ⟨a, vs, fq, rfl, rfl, nf, ha, hr⟩ := hx
        have r := (TReps.fzs.mp hr).2
        exact ⟨a, j, vs, rfl, trep_int hy, ha, hl.1.1, hl.1.2, by rw [r.len]; exact okLen_le hl.2, fun p hp => q _ _ (res_fl hp hF (r.rep _))⟩
      · cases h
    · cases h
  · cases h
theorem op_arT {op : Operator} {x y t : T} (h : arT op x y = some t) : OpR X (binaryOp op) (R2T X.K x y t) := by
  unfold arT at h
  split at h
  · rename_i i j
    obtain ⟨k, e, rfl⟩ := Option.map_eq_some_iff.mp h
    unfold intOp at e
    split at e
    · cases e
      refine OpR.mono' op_add ?_
      rintro vx vy H Q ⟨F, fa, fb, hF, hx, hy, q⟩
      exact ⟨_, _, trep_int hx, trep_int hy, q _ _ res_int⟩
    · cases e
      refine OpR.mono' op_sub ?_
      rintro vx vy H Q ⟨F, fa, fb, hF, hx, hy, q⟩
      exact ⟨_, _, trep_int hx, trep_int hy, q _ _ res_int⟩
    · exact op_mulT (by unfold mulT; simp only; split at e <;> cases e; rename_i hh; rw [if_pos hh])
    · split at e
      · rename_i hl
        cases e
        simp only [Bool.and_eq_true, decide_eq_true_eq] at hl
        refine OpR.mono' op_fdivW ?_
        rintro vx vy H Q ⟨F, fa, fb, hF, hx, hy, q⟩
        exact ⟨_, _, trep_int hx, trep_int hy, ⟨hl.1, log2_okI hl.2⟩, q _ _ res_int⟩
      · cases e
    · split at e
      · rename_i hl
        cases e
        refine OpR.mono' op_mod ?_
        rintro vx vy H Q ⟨F, fa, fb, hF, hx, hy, q⟩
        exact ⟨_, _, trep_int hx, trep_int hy, of_decide_eq_true hl, q _ _ res_int⟩
      · cases e
    · split at e
      · rename_i hl
        cases e
        simp only [Bool.and_eq_true, decide_eq_true_eq] at hl
        have hp : OpR X (binaryOp .Pow) (rI (fun i j => 0 ≤ j ∧ (Builtin.Int.intBits i : Int) * j ≤ 2 ^ 27) fun i j => .int (i ^ j.toNat)) := opI fun _ _ _ _ _ _ _ hc q => pow_int hc.1 hc.2 q
        refine OpR.mono' hp ?_
        rintro vx vy H Q ⟨F, fa, fb, hF, hx, hy, q⟩
        refine ⟨_, _, trep_int hx, trep_int hy, ⟨hl.1.1, ?_⟩, q _ _ res_int⟩
        have b := bits_okI hl.2
        have : (Builtin.Int.intBits i : Int) * j ≤ 8192 * 1000 := Int.mul_le_mul (by omega) hl.1.2 hl.1.1 (by omega)
        omega
      · cases e
    · cases e
  · cases h
theorem op_binT {op : Operator} {x y t : T} (h : binT op x y = some t) : OpR X (binaryOp op) (R2T X.K x y t) := by
  unfold binT at h
  split at h
  · exact op_addT h
  · exact op_mulT h
  · exact op_arT h
end
end Mv

end
section
/-! Comparisons, subscripts, slices, truth, built-ins. -/
namespace Mv
open PySem PySem.Spec PyProof.Rows L2
section
variable {X : Cx} {K : PySem.W.Frag} {F F' : Addr → Prop} {H H' : Hp} {fa fb : List Addr} {t x y : T} {v vx vy : V} {b : Bool}
mutual
theorem shp_lay : ∀ (d : D) (n : Nat), D.shp n d = true → d.toPy.canLay0 = true ∧ d.toPy.depth ≤ n
  | .none, n, h => by simp [D.toPy, PyData.canLay0, PyData.depth]
  | .bool _, n, h => by simp [D.toPy, PyData.canLay0, PyData.depth]
  | .int _, n, h => by simp [D.toPy, PyData.canLay0, PyData.depth]
  | .str x, n, h => by
    have : PyData.strOk x = true := by cases n <;> simpa only [D.shp] using h
    simp [D.toPy, PyData.canLay0, PyData.depth, this]
  | .list xs, 0, h => by simp [D.shp] at h
  | .tup xs, 0, h => by simp [D.shp] at h
  | .list xs, n + 1, h => by
    simp only [D.shp] at h
    obtain ⟨a, b⟩ := shps_lay xs n h
    simp only [D.toPy, PyData.canLay0, PyData.depth]
    exact ⟨a, by omega⟩
  | .tup xs, n + 1, h => by
    simp only [D.shp] at h
    obtain ⟨a, b⟩ := shps_lay xs n h
    simp only [D.toPy, PyData.canLay0, PyData.depth]
    exact ⟨a, by omega⟩
  | .dict _ _, n, h => by cases n <;> simp [D.shp] at h
theorem shps_lay : ∀ (ds : List D) (n : Nat), D.shps n ds = true → PyData.canLayAll0 (D.toPys ds) = true ∧ PyData.depthAll (D.toPys ds) ≤ n
  | [], n, h => by simp [D.toPys, PyData.canLayAll0, PyData.depthAll]
  | d :: ds, n, h => by
    have s' : D.shp n d = true ∧ D.shps n ds = true := by cases n <;> simpa [D.shps] using h
    obtain ⟨a, b⟩ := shp_lay d n s'.1
    obtain ⟨a', b'⟩ := shps_lay ds n s'.2
    simp only [D.toPys, PyData.canLayAll0, PyData.depthAll, a, a', Bool.and_self, true_and]
    omega
end
theorem shp_shaped {d : D} (h : d.shp 60 = true) : SeqAt.shaped d.toPy = true := by
  obtain ⟨a, b⟩ := shp_lay d 60 h
  unfold SeqAt.shaped
  rw [a, Bool.true_and]
  exact decide_eq_true (by omega)
theorem shps_shaped {ds : List D} (h : D.shps 60 ds = true) : SeqAt.shaped (.list (D.toPys ds)) = true := by
  obtain ⟨a, b⟩ := shps_lay ds 60 h
  unfold SeqAt.shaped
  simp only [PyData.canLay0, PyData.depth, a, Bool.true_and]
  exact decide_eq_true (by omega)
/-- a comparison -/
def R2C (K : PySem.W.Frag) (x y : T) (b : Bool) : R2 := fun vx vy H Q => ∃ F fa fb, TRep K F H vx x fa ∧ TRep K F H vy y fb ∧ Q (.bl b) H
theorem op_deq (hu : X.A.units + 65 < cLine) {d e : D} (h : deq d e = some b) : OpR X (compareOp .Eq) (fun vx vy H Q => RD X.K H vx d ∧ RD X.K H vy e ∧ Q (.bl b) H) := by
  unfold deq at h
  split at h
  · rename_i x y
    cases h
    refine OpR.mono' op_eq ?_
    rintro vx vy H Q ⟨hx, hy, q⟩
    have hx : vx = .str x := by simpa only [RD, RepD] using hx
    have hy : vy = .str y := by simpa only [RD, RepD] using hy
    subst hx hy
    exact ⟨rfl, by simpa using q⟩
  · split at h
    · rename_i hs
      cases h
      rw [Bool.and_eq_true] at hs
      refine OpR.mono' (op_eqD (by omega)) ?_
      rintro vx vy H Q ⟨hx, hy, q⟩
      exact ⟨_, _, RD.dp _ _ _ hs.1 hx, RD.dp _ _ _ hs.2 hy, shp_shaped hs.1, shp_shaped hs.2, q⟩
    · cases h
theorem op_dne (hu : X.A.units + 65 < cLine) {d e : D} (h : deq d e = some b) : OpR X (compareOp .NotEq) (fun vx vy H Q => RD X.K H vx d ∧ RD X.K H vy e ∧ Q (.bl (!b)) H) := by
  unfold deq at h
  split at h
  · rename_i x y
    cases h
    refine OpR.mono' op_ne ?_
    rintro vx vy H Q ⟨hx, hy, q⟩
    have hx : vx = .str x := by simpa only [RD, RepD] using hx
    have hy : vy = .str y := by simpa only [RD, RepD] using hy
    subst hx hy
    exact ⟨rfl, by simpa using q⟩
  · split at h
    · rename_i hs
      cases h
      rw [Bool.and_eq_true] at hs
      refine OpR.mono' (op_neD (by omega)) ?_
      rintro vx vy H Q ⟨hx, hy, q⟩
      exact ⟨_, _, RD.dp _ _ _ hs.1 hx, RD.dp _ _ _ hs.2 hy, shp_shaped hs.1, shp_shaped hs.2, q⟩
    · cases h
theorem isNone_rep (h : TRep K F H v x fa) : decide (v = V.non) = isNone x := by
  cases x with
  | fz d =>
    cases d with
    | none => rw [trep_none h]; rfl
    | bool b => rw [trep_bool h]; rfl
    | int i => rw [trep_int h]; rfl
    | str i => rw [trep_str h]; rfl
    | list ds => simp only [TRep, RepD] at h; obtain ⟨_, a, vs, rfl, _⟩ := h; rfl
    | tup ds => simp only [TRep, RepD] at h; obtain ⟨_, a, vs, rfl, _⟩ := h; rfl
    | dict ks ds => simp only [TRep, RepD] at h; obtain ⟨_, a, vs, rfl, _⟩ := h; rfl
  | lst ts => simp only [TRep] at h; obtain ⟨a, vs, _, rfl, _⟩ := h; rfl
  | tup ts => simp only [TRep] at h; obtain ⟨a, vs, _, rfl, _⟩ := h; rfl
  | dct ks ts => simp only [TRep] at h; obtain ⟨a, vs, _, rfl, _⟩ := h; rfl
theorem isNone_non (h : TRep K F H v x fa) (e : isNone x = true) : v = .non := by
  rw [← isNone_rep h] at e; exact of_decide_eq_true e
theorem keyOf_rep {d : D} {k : Key} (e : keyOf d = some k) (h : RepD K F H v d) : v = kV k := by
  cases d <;> simp [keyOf] at e
  · subst e; simpa only [RepD, kV] using h
  · subst e; simpa only [RepD, kV] using h
theorem valV_zip {k : Key} : ∀ {ks : List Key} {vs : List V}, vs.length = ks.length → (valV (ks.zip vs) k).isSome = ks.any fun k' => decide (k' = k)
  | [], [], _ => rfl
  | [], _ :: _, h => by simp at h
  | _ :: _, [], h => by simp at h
  | k' :: ks, v :: vs, h => by
    rw [List.zip_cons_cons]
    by_cases e : k' = k
    · rw [valV_pos (p := (k', v)) e]; simp [e]
    · rw [valV_neg (p := (k', v)) e, valV_zip (by simpa using h)]
      simp [e]
theorem flat_V {d : D} (f : flatD d = true) (h : RepD K F H v d) : flatV v = true ∧ Dp K H v d.toPy := by
  have hr : RD K H v d := h.rd
  cases d with
  | none => have : v = .non := by simpa only [RepD] using h
            subst this; exact ⟨rfl, .non⟩
  | bool b => have : v = .bl b := by simpa only [RepD] using h
              subst this; exact ⟨rfl, .bl b⟩
  | int i => have : v = .int i := by simpa only [RepD] using h
             subst this; exact ⟨rfl, .int i⟩
  | str i => have : v = .str i := by simpa only [RepD] using h
             subst this; exact ⟨rfl, .str i⟩
  | list ds => cases f
  | tup ds => cases f
  | dict ks ds => cases f
theorem eqV_flat {d e : D} {v w : V} (f : flatD d = true) (g : flatD e = true) (h : RepD K F H v d) (h' : RepD K F H w e) : eqV v w = PyData.eqv d.toPy e.toPy := by
  cases d <;> first | (cases f; done) | skip
  all_goals (cases e <;> first | (cases g; done) | skip)
  all_goals (simp only [RepD] at h h'; subst h h'; simp [eqV, D.toPy, PyData.eqv])
theorem flats_V {d : D} {v : V} (f : flatD d = true) (h : RepD K F H v d) : ∀ {ds : List D} {vs : List V}, ds.all flatD = true → RepDs K F H vs ds → vs.all flatV = true ∧ inV v vs = ds.any fun z => PyData.eqv z.toPy d.toPy
  | [], [], _, _ => ⟨rfl, rfl⟩
  | [], _ :: _, _, h => by simp only [RepDs] at h
  | _ :: _, [], _, h => by simp only [RepDs] at h
  | e :: es, w :: ws, g, r => by
    simp only [RepDs] at r
    rw [List.all_cons, Bool.and_eq_true] at g
    obtain ⟨a, b⟩ := flats_V f h g.2 r.2
    refine ⟨by rw [List.all_cons, a, (flat_V g.1 r.1).1]; rfl, ?_⟩
    rw [List.any_cons, ← b]
    show (eqV w v || inV v ws) = _
    rw [eqV_flat g.1 f r.1 h]
theorem op_inT (hu : X.A.units + 65 < cLine) (h : inT x y = some b) : OpR X (compareOp .In) (R2C X.K x y b) ∧ OpR X (compareOp .NotIn) (R2C X.K x y (!b)) := by
  unfold inT at h
  split at h
  · rename_i ks ts
    split at h
    · rename_i d
      obtain ⟨k, e, rfl⟩ := Option.map_eq_some_iff.mp h
      have g : ∀ {H vx vy F fa fb}, TRep X.K F H vx (.fz d) fa → TRep X.K F H vy (.dct ks ts) fb → ∃ a vs, vx = kV k ∧ vy = .ref a ∧ H a = some (.dK (ks.zip vs)) ∧ (valV (ks.zip vs) k).isSome = ks.any fun k' => decide (k' = k) := by
        intro H vx vy F fa fb hx hy
        simp only [TRep] at hx hy
        obtain ⟨a, vs, fq, rfl, _, _, ha, hl, _⟩ := hy
        exact ⟨a, vs, keyOf_rep e hx.2, rfl, ha, valV_zip hl⟩
      constructor
      · rintro pins s σ H vx vy v u Q I rx ry ⟨F, fa, fb, hx, hy, q⟩
        obtain ⟨a, vs, rfl, rfl, ha, ev⟩ := g hx hy
        cases ry
        exact d_in (by omega) I (DGet.k (k := k) ha) rx fun s3 I3 => ⟨.bl _, H, I3, rfl, by rw [ev]; exact q⟩
      · rintro pins s σ H vx vy v u Q I rx ry ⟨F, fa, fb, hx, hy, q⟩
        obtain ⟨a, vs, rfl, rfl, ha, ev⟩ := g hx hy
        cases ry
        exact d_notIn (by omega) I (DGet.k (k := k) ha) rx fun s3 I3 => ⟨.bl _, H, I3, rfl, by rw [ev]; exact q⟩
    · cases h
  · rename_i ks ts
    split at h
    · rename_i d
      obtain ⟨k, e, rfl⟩ := Option.map_eq_some_iff.mp h
      have g : ∀ {H vx vy F fa fb}, TRep X.K F H vx (.fz d) fa → TRep X.K F H vy (.fz (.dict ks ts)) fb → ∃ a vs, vx = kV k ∧ vy = .ref a ∧ H a = some (.dK (ks.zip vs)) ∧ (valV (ks.zip vs) k).isSome = ks.any fun k' => decide (k' = k) := by
        intro H vx vy F fa fb hx hy
        simp only [TRep, RepD] at hx hy
        obtain ⟨_, a, vs, rfl, _, ha, hl, _⟩ := hy
        exact ⟨a, vs, keyOf_rep e hx.2, rfl, ha, valV_zip hl⟩
      constructor
      · rintro pins s σ H vx vy v u Q I rx ry ⟨F, fa, fb, hx, hy, q⟩
        obtain ⟨a, vs, rfl, rfl, ha, ev⟩ := g hx hy
        cases ry
        exact d_in (by omega) I (DGet.k (k := k) ha) rx fun s3 I3 => ⟨.bl _, H, I3, rfl, by rw [ev]; exact q⟩
      · rintro pins s σ H vx vy v u Q I rx ry ⟨F, fa, fb, hx, hy, q⟩
        obtain ⟨a, vs, rfl, rfl, ha, ev⟩ := g hx hy
        cases ry
        exact d_notIn (by omega) I (DGet.k (k := k) ha) rx fun s3 I3 => ⟨.bl _, H, I3, rfl, by rw [ev]; exact q⟩
    · cases h
  · rename_i ds
    split at h
    · rename_i d
      split at h
      · rename_i hf
        cases h
        rw [Bool.and_eq_true] at hf
        constructor
        · refine OpR.mono' op_in_seq ?_
          rintro vx vy H Q ⟨F, fa, fb, hx, hy, q⟩
          simp only [TRep, RepD] at hx hy
          obtain ⟨_, a, vs, rfl, hl, hr⟩ := hy
          obtain ⟨g1, g2⟩ := flats_V hf.1 hx.2 hf.2 hr
          exact ⟨a, vs, rfl, .inr hl.sq, (flat_V hf.1 hx.2).1, g1, by simpa [g2] using q⟩
        · refine OpR.mono' op_notIn_seq ?_
          rintro vx vy H Q ⟨F, fa, fb, hx, hy, q⟩
          simp only [TRep, RepD] at hx hy
          obtain ⟨_, a, vs, rfl, hl, hr⟩ := hy
          obtain ⟨g1, g2⟩ := flats_V hf.1 hx.2 hf.2 hr
          exact ⟨a, vs, rfl, .inr hl.sq, (flat_V hf.1 hx.2).1, g1, by simpa [g2] using q⟩
      · cases h
    · cases h
  · split at h
    · rename_i ds e
      split at h
      · rename_i hs
        cases h
        rw [Bool.and_eq_true] at hs
        have g : ∀ {H vx vy F fa fb}, TRep X.K F H vx x fa → TRep X.K F H vy y fb → Dp X.K H vx x.toD.toPy ∧ Dp X.K H vy (.list (D.toPys ds)) := by
          intro H vx vy F fa fb hx hy
          obtain ⟨a, vs, rfl, hl, hr⟩ := flat_rep e hy
          exact ⟨RD.dp _ _ _ hs.1 hx.rd, .lst hl (RDs.dp ds vs 60 hs.2 (RepDs.mono (fun _ _ => trivial) (fun _ _ _ e => e) ds vs hr))⟩
        have e2 : ∀ ds : List D, ((D.toPys ds).any fun z => PyData.eqv z x.toD.toPy) = ds.any fun z => PyData.eqv z.toPy x.toD.toPy := by
          intro ds
          induction ds with
          | nil => rfl
          | cons d ds ih => simp only [D.toPys, List.any_cons, ih]
        constructor
        · refine OpR.mono' (op_inD hu) ?_
          rintro vx vy H Q ⟨F, fa, fb, hx, hy, q⟩
          obtain ⟨g1, g2⟩ := g hx hy
          exact ⟨_, _, g1, g2, shp_shaped hs.1, shps_shaped hs.2, by rw [e2]; exact q⟩
        · refine OpR.mono' (op_notInD hu) ?_
          rintro vx vy H Q ⟨F, fa, fb, hx, hy, q⟩
          obtain ⟨g1, g2⟩ := g hx hy
          exact ⟨_, _, g1, g2, shp_shaped hs.1, shps_shaped hs.2, by rw [e2]; exact q⟩
      · cases h
    · cases h
theorem op_cmpT (hu : X.A.units + 65 < cLine) {op : CmpOp} (h : cmpT op x y = some b) : OpR X (compareOp op) (R2C X.K x y b) := by
  have lt : ∀ {i j : Int} {op : CmpOp} {p : Int → Int → Bool}, OpR X (compareOp op) (rI0 fun i j => .bl (p i j)) → OpR X (compareOp op) (R2C X.K (.fz (.int i)) (.fz (.int j)) (p i j)) := fun h => by
    refine OpR.mono' h ?_
    rintro vx vy H Q ⟨F, fa, fb, hx, hy, q⟩
    exact ⟨_, _, trep_int hx, trep_int hy, q⟩
  unfold cmpT at h
  split at h
  · refine OpR.mono' (op_deq hu h) ?_
    rintro vx vy H Q ⟨F, fa, fb, hx, hy, q⟩
    exact ⟨hx.rd, hy.rd, q⟩
  · obtain ⟨k, e, rfl⟩ := Option.map_eq_some_iff.mp h
    refine OpR.mono' (op_dne hu e) ?_
    rintro vx vy H Q ⟨F, fa, fb, hx, hy, q⟩
    exact ⟨hx.rd, hy.rd, q⟩
  · split at h
    · rename_i hn
      cases h
      refine OpR.mono' op_isN ?_
      rintro vx vy H Q ⟨F, fa, fb, hx, hy, q⟩
      exact ⟨isNone_non hy hn, by rw [isNone_rep hx]; exact q⟩
    · cases h
  · split at h
    · rename_i hn
      cases h
      refine OpR.mono' op_notN ?_
      rintro vx vy H Q ⟨F, fa, fb, hx, hy, q⟩
      exact ⟨isNone_non hy hn, by rw [isNone_rep hx]; exact q⟩
    · cases h
  · exact (op_inT hu h).1
  · obtain ⟨k, e, rfl⟩ := Option.map_eq_some_iff.mp h
    exact (op_inT hu e).2
  · split at h
    · cases h; exact lt op_lt
    · cases h
  · split at h
    · cases h; exact lt op_le
    · cases h
  · split at h
    · cases h; exact lt op_gt
    · cases h
  · split at h
    · cases h; exact lt op_ge
    · cases h
/-! ### subscripts -/
theorem findK_T {k : Key} : ∀ {ks : List Key} {ts : List T} {vs : List V} {fq}, TReps K F H vs ts fq → vs.length = ks.length → (∀ t, findK k ks ts = some t → ∃ v f2, valV (ks.zip vs) k = some v ∧ TRep K F H v t f2) ∧ (findK k ks ts = none → valV (ks.zip vs) k = none)
  | [], [], [], _, _, _ => ⟨fun t e => by simp [findK] at e, fun _ => rfl⟩
  | [], _ :: _, _, _, h, hl => by
    have := h.len
    simp_all
  | [], [], _ :: _, _, h, _ => by simp only [TReps] at h
  | _ :: _, ts, [], _, h, hl => by simp at hl
  | _ :: _, [], _ :: _, _, h, hl => by simp only [TReps] at h
  | k' :: ks, t0 :: ts, v :: vs, _, h, hl => by
    simp only [TReps] at h
    obtain ⟨f1, f2, rfl, h1, h2⟩ := h
    obtain ⟨g1, g2⟩ := findK_T (k := k) (ks := ks) h2 (by simpa using hl)
    rw [List.zip_cons_cons]
    by_cases e : k' = k
    · simp only [findK, e, if_true]
      refine ⟨fun t e' => ?_, fun e' => (nomatch e')⟩
      cases e'
      exact ⟨v, f1, valV_pos (p := (k, v)) rfl, h1⟩
    · simp only [findK, if_neg e]
      rw [valV_neg (p := (k', v)) e]
      exact ⟨g1, g2⟩
theorem dict_rep {ks : List Key} {ts : List T} (e : dictOf x = some (ks, ts)) (h : TRep K F H v x fa) : ∃ a vs fq, v = .ref a ∧ H a = some (.dK (ks.zip vs)) ∧ vs.length = ks.length ∧ TReps K F H vs ts fq := by
  unfold dictOf at e
  split at e
  · cases e
    simp only [TRep] at h
    obtain ⟨a, vs, fq, h1, h2, h3, h4, h5, h6, h7⟩ := h
    exact ⟨a, vs, fq, h1, h4, h5, h7⟩
  · cases e
    simp only [TRep, RepD] at h
    obtain ⟨_, a, vs, h1, h2, h4, h5, h6, h7⟩ := h
    exact ⟨a, vs, [], h1, h4, h5, TReps.fzs.mpr ⟨rfl, h7⟩⟩
  · cases e
theorem place_at {α : Type} {i : Int} {n : Nat} {xs : List α} {k : Nat} {a : α} (h : place i n = some k) (e : xs.length = n) (g : xs[k]? = some a) : atI xs i = some a := by
  unfold atI; unfold place at h; rw [e, h]; exact g
theorem rIxL_rd {p : Addr} {xs : List V} (h : Rd H p (.lst xs)) : SqL K H p xs := .inl h
/-- reading a child: by its rule -/
def IxT (K : PySem.W.Frag) (x y t : T) : R2 := fun vx vy H Q => ∃ F fa fb, TRep K F H vx x fa ∧ TRep K F H vy y fb ∧ ∀ v f1 f2 f3, fa = f1 ++ f2 ++ f3 → TRep K F H v t f2 → (∀ k, (getIx x y).map (·.2) = some (some k) → ∃ a vs, vx = .ref a ∧ H a = some (.lst vs) ∧ vs[k]? = some v) → Q v H
theorem ix_T {x y t : T} {k : Option Nat} (h : getIx x y = some (t, k)) : IxR X (IxT X.K x y t) := by
  have key : (∃ i, y = .fz (.int i)) ∧ ((∃ ds i, x = .fz (.list ds) ∧ y = .fz (.int i) ∧ ∃ k d, place i ds.length = some k ∧ ds[k]? = some d ∧ t = .fz d) ∨ (∃ ds i, x = .fz (.tup ds) ∧ y = .fz (.int i) ∧ ∃ k d, place i ds.length = some k ∧ ds[k]? = some d ∧ t = .fz d) ∨
      (∃ ts i, x = .lst ts ∧ y = .fz (.int i) ∧ ∃ k, place i ts.length = some k ∧ ts[k]? = some t) ∨ (∃ ts i, x = .tup ts ∧ y = .fz (.int i) ∧ ∃ k, place i ts.length = some k ∧ ts[k]? = some t)) := by
    unfold getIx at h
    split at h
    · split at h
      · rename_i ds i k hk
        obtain ⟨d, e1, e2⟩ := Option.map_eq_some_iff.mp h
        cases e2
        exact ⟨⟨_, rfl⟩, .inl ⟨_, _, rfl, rfl, _, d, hk, e1, rfl⟩⟩
      · cases h
    · split at h
      · rename_i ds i k hk
        obtain ⟨d, e1, e2⟩ := Option.map_eq_some_iff.mp h
        cases e2
        exact ⟨⟨_, rfl⟩, .inr (.inl ⟨_, _, rfl, rfl, _, d, hk, e1, rfl⟩)⟩
      · cases h
    · split at h
      · rename_i ds i k hk
        obtain ⟨d, e1, e2⟩ := Option.map_eq_some_iff.mp h
        cases e2
        exact ⟨⟨_, rfl⟩, .inr (.inr (.inl ⟨_, _, rfl, rfl, _, hk, e1⟩))⟩
      · cases h
    · split at h
      · rename_i ds i k hk
        obtain ⟨d, e1, e2⟩ := Option.map_eq_some_iff.mp h
        cases e2
        exact ⟨⟨_, rfl⟩, .inr (.inr (.inr ⟨_, _, rfl, rfl, _, hk, e1⟩))⟩
      · cases h
    · cases h
  intro value slice pins s σ H vx vy v u Q I rx ry ⟨F, fa, fb, hx, hy, q⟩ hsub
  rcases key.2 with ⟨ds, i, rfl, rfl, k', d, hk, hg, rfl⟩ | ⟨ds, i, rfl, rfl, k', d, hk, hg, rfl⟩ | ⟨ts, i, rfl, rfl, k', hk, hg⟩ | ⟨ts, i, rfl, rfl, k', hk, hg⟩
  · simp only [TRep, RepD] at hx
    obtain ⟨rfl, a, vs, rfl, hl, hr⟩ := hx
    obtain ⟨w, e1, e2⟩ := hr.get hg
    refine ix_list value slice pins s σ H _ _ v u Q I rx ry ⟨a, vs, i, w, rfl, trep_int hy, hl.sq, place_at hk hr.len e1, q w [] [] [] rfl (by simpa only [TRep, true_and] using e2) fun k e => ?_⟩ hsub
    simp [getIx, hk, hg] at e
  · simp only [TRep, RepD] at hx
    obtain ⟨rfl, a, vs, rfl, hl, hr⟩ := hx
    obtain ⟨w, e1, e2⟩ := hr.get hg
    refine ix_tup value slice pins s σ H _ _ v u Q I rx ry ⟨a, vs, i, w, rfl, trep_int hy, hl.sq, place_at hk hr.len e1, q w [] [] [] rfl (by simpa only [TRep, true_and] using e2) fun k e => ?_⟩ hsub
    simp [getIx, hk, hg] at e
  · simp only [TRep] at hx
    obtain ⟨a, vs, fq, rfl, rfl, nf, ha, hr⟩ := hx
    obtain ⟨w, e1⟩ : ∃ w, vs[k']? = some w := by
      have h1 := (List.getElem?_eq_some_iff.mp hg).1
      rw [← hr.len] at h1
      exact ⟨_, List.getElem?_eq_getElem h1⟩
    obtain ⟨f1, f2, f3, e2, r⟩ := hr.get hg e1
    refine ix_list value slice pins s σ H _ _ v u Q I rx ry ⟨a, vs, i, w, rfl, trep_int hy, SqL.of ha, place_at hk hr.len e1, q w (a :: f1) f2 f3 (by rw [e2]; simp) r fun k e => ?_⟩ hsub
    simp [getIx, hk, hg] at e
    subst e
    exact ⟨a, vs, rfl, ha, e1⟩
  · simp only [TRep] at hx
    obtain ⟨a, vs, fq, rfl, rfl, nf, ha, hr⟩ := hx
    obtain ⟨w, e1⟩ : ∃ w, vs[k']? = some w := by
      have h1 := (List.getElem?_eq_some_iff.mp hg).1
      rw [← hr.len] at h1
      exact ⟨_, List.getElem?_eq_getElem h1⟩
    obtain ⟨f1, f2, f3, e2, r⟩ := hr.get hg e1
    refine ix_tup value slice pins s σ H _ _ v u Q I rx ry ⟨a, vs, i, w, rfl, trep_int hy, SqT.of ha, place_at hk hr.len e1, q w (a :: f1) f2 f3 (by rw [e2]; simp) r fun k e => ?_⟩ hsub
    simp [getIx, hk, hg] at e
/-! ### slices -/
theorem op_slT (hF : True) {x t : T} {lo hi : Option Int} (h : slT x lo hi = some t) : SlR X (fun vx lo' hi' H Q => lo' = lo ∧ hi' = hi ∧ ∃ F fa, (∀ b, F b → H b ≠ none) ∧ TRep X.K F H vx x fa ∧ ∀ v H', PureRes X.K F H t v H' → Q v H') := by
  unfold slT at h
  intro pins s σ H vx v vl vu lo' hi' sl Q I rx hs pl pu ⟨e1, e2, F, fa, hF, hx, q⟩
  subst e1 e2
  split at h
  · rename_i ds
    cases h
    simp only [TRep, RepD] at hx
    obtain ⟨_, a, vs, rfl, hl, hr⟩ := hx
    have el := hr.len
    have hcut : RepDs X.K F H (cutV vs lo' hi') (slD ds lo' hi') := by
      unfold cutV slD; rw [el]; exact (hr.drop _).take _
    refine sl_tupA pins s σ H _ v vl vu lo' hi' sl Q I rx hs pl pu ⟨a, vs, rfl, hl.sq, fun w => ?_, fun _ p hp => q _ _ (res_tup hp hcut)⟩
    have e : slD ds lo' hi' = ds := by
      unfold slD; rw [el] at w; rw [w.1, w.2]; simp
    rw [e] at q
    exact q _ _ (.same (by simp only [RepD]; exact ⟨a, vs, rfl, hl, hr⟩))
  · obtain ⟨ds, e, rfl⟩ := Option.map_eq_some_iff.mp h
    obtain ⟨a, vs, rfl, hl, hr⟩ := flat_rep e hx
    have el := hr.len
    have hcut : RepDs X.K F H (cutV vs lo' hi') (slD ds lo' hi') := by
      unfold cutV slD; rw [el]; exact (hr.drop _).take _
    exact sl_list pins s σ H _ v vl vu lo' hi' sl Q I rx hs pl pu ⟨a, vs, rfl, hl, fun p hp => q _ _ (res_fl hp hF hcut)⟩
/-! ### truth -/
theorem truT_rep {x : T} (h : truT x = some b) (hx : TRep K F H v x fa) : TruV K v H b := by
  unfold truT at h
  split at h
  · cases h; rw [trep_bool hx]; rfl
  · cases h; rw [trep_none hx]; rfl
  · cases h; rw [trep_int hx]; rfl
  · rename_i ds
    cases h
    simp only [TRep, RepD] at hx
    obtain ⟨_, a, vs, rfl, hl, hr⟩ := hx
    refine .inl ⟨vs, hl.sq, ?_⟩
    have := hr.len
    cases vs <;> cases ds <;> simp_all
  · rename_i ds
    cases h
    simp only [TRep, RepD] at hx
    obtain ⟨_, a, vs, rfl, hl, hr⟩ := hx
    refine .inr (.inl ⟨vs, hl.sq, ?_⟩)
    have := hr.len
    cases vs <;> cases ds <;> simp_all
  · rename_i ts
    cases h
    simp only [TRep] at hx
    obtain ⟨a, vs, fq, rfl, rfl, nf, ha, hr⟩ := hx
    refine .inl ⟨vs, SqL.of ha, ?_⟩
    have := hr.len
    cases vs <;> cases ts <;> simp_all
  · rename_i ks ts
    cases h
    simp only [TRep] at hx
    obtain ⟨a, vs, fq, rfl, rfl, nf, ha, hl, hd, hr⟩ := hx
    refine .inr (.inr ⟨_, ha, ?_⟩)
    cases ks <;> cases vs <;> simp_all
  · cases h
end
end Mv

end
section
/-! Built-in functions on trees. -/
namespace Mv
open PySem PySem.Spec PyProof.Rows L2
def bltN : Blt → Str
  | .len => "len" | .abs => "abs" | .int => "int" | .list => "list" | .repr => "repr" | .sorted => "sorted" | .all => "all" | .any => "any" | .sum => "sum"
  | .max1 => "max" | .min1 => "min" | .max2 => "max" | .min2 => "min" | .divmod => "divmod"
  | _ => "isinstance"
def bltV : Blt → Value
  | .len => .builtin "len" | .abs => .builtin "abs" | .int => .type "int" | .list => .type "list" | .repr => .builtin "repr" | .sorted => .builtin "sorted" | .all => .builtin "all" | .any => .builtin "any" | .sum => .builtin "sum"
  | .max1 => .builtin "max" | .min1 => .builtin "min" | .max2 => .builtin "max" | .min2 => .builtin "min" | .divmod => .builtin "divmod"
  | _ => .builtin "isinstance"
theorem bltV_boot : ∀ f, bootBuiltins (bltN f) = some (bltV f)
  | .len => PySem.boot_len | .abs => boot_abs | .int => boot_int | .list => boot_list | .repr => boot_repr | .sorted => boot_sorted | .all => boot_all | .any => boot_any | .sum => boot_sum
  | .max1 => boot_max | .min1 => boot_min | .max2 => boot_max | .min2 => boot_min | .divmod => boot_divmod
  | .isint => boot_isinstance | .isbool => boot_isinstance | .isstr => boot_isinstance | .islist => boot_isinstance | .istup => boot_isinstance
/-- the class that an isinstance asks -/
def isTy : Blt → Option String
  | .isint => some "int" | .isbool => some "bool" | .isstr => some "str" | .islist => some "list" | .istup => some "tuple"
  | _ => none
section
variable {X : Cx} {K : PySem.W.Frag} {F F' : Addr → Prop} {H H' : Hp} {fa fb : List Addr} {t x y : T} {v vx vy : V} {b : Bool}
def CB (K : PySem.W.Frag) (ts : List T) (t : T) : List V → Hp → VK → Prop := fun vs H Q => ∃ F fa, (∀ b, F b → H b ≠ none) ∧ TReps K F H vs ts fa ∧ ∀ v H', PureRes K F H t v H' → Q v H'
theorem CallR.mono' {f : Value} {r r' : List V → Hp → VK → Prop} (h : CallR X f r) (k : ∀ xs H Q, r' xs H Q → r xs H Q) : CallR X f r' := fun pins s σ H xs us Q I r q => h pins s σ H xs us Q I r (k _ _ _ q)
theorem treps1 {vs : List V} (h : TReps K F H vs [x] fa) : ∃ v, vs = [v] ∧ TRep K F H v x fa := by
  cases vs with
  | nil => simp only [TReps] at h
  | cons v vs =>
    simp only [TReps] at h
    obtain ⟨f1, f2, rfl, h1, h2⟩ := h
    cases vs with
    | nil => simp only [TReps] at h2; subst h2; exact ⟨v, rfl, by simpa using h1⟩
    | cons w ws => simp only [TReps] at h2
theorem treps2 {vs : List V} (h : TReps K F H vs [x, y] fa) : ∃ v w f1 f2, vs = [v, w] ∧ TRep K F H v x f1 ∧ TRep K F H w y f2 := by
  cases vs with
  | nil => simp only [TReps] at h
  | cons v vs =>
    simp only [TReps] at h
    obtain ⟨f1, f2, rfl, h1, h2⟩ := h
    obtain ⟨w, rfl, h3⟩ := treps1 h2
    exact ⟨v, w, f1, f2, rfl, h1, h3⟩
theorem intsOf_eq : ∀ {ds : List D} {ns : List Int}, intsOf ds = some ns → ds = ns.map D.int
  | [], ns, h => by simp [intsOf] at h; subst h; rfl
  | d :: ds, ns, h => by
    cases d <;> simp [intsOf] at h
    obtain ⟨ms, e, rfl⟩ := h
    rw [intsOf_eq e]; rfl
theorem boolsOf_eq : ∀ {ds : List D} {ns : List Bool}, boolsOf ds = some ns → ds = ns.map D.bool
  | [], ns, h => by simp [boolsOf] at h; subst h; rfl
  | d :: ds, ns, h => by
    cases d <;> simp [boolsOf] at h
    obtain ⟨ms, e, rfl⟩ := h
    rw [boolsOf_eq e]; rfl
theorem rep_ints : ∀ {ns : List Int} {vs : List V}, RepDs K F H vs (ns.map D.int) → vs = ns.map V.int
  | [], [], _ => rfl
  | [], _ :: _, h => by simp only [List.map_nil, RepDs] at h
  | _ :: _, [], h => by simp only [List.map_cons, RepDs] at h
  | n :: ns, v :: vs, h => by
    simp only [List.map_cons, RepDs, RepD] at h
    rw [h.1, rep_ints h.2]; rfl
theorem rep_bools : ∀ {ns : List Bool} {vs : List V}, RepDs K F H vs (ns.map D.bool) → vs = ns.map V.bl
  | [], [], _ => rfl
  | [], _ :: _, h => by simp only [List.map_nil, RepDs] at h
  | _ :: _, [], h => by simp only [List.map_cons, RepDs] at h
  | n :: ns, v :: vs, h => by
    simp only [List.map_cons, RepDs, RepD] at h
    rw [h.1, rep_bools h.2]; rfl
theorem ints_rep : ∀ (ns : List Int), RepDs K F H (ns.map V.int) (ns.map D.int)
  | [] => by simp only [List.map_nil, RepDs]
  | n :: ns => by simp only [List.map_cons, RepDs, RepD, true_and]; exact ints_rep ns
theorem flat_ints {ds : List D} {ns : List Int} (e : x.flat = some ds) (e2 : intsOf ds = some ns) (h : TRep K F H v x fa) : ∃ a, v = .ref a ∧ SqL K H a (ns.map V.int) := by
  obtain ⟨a, vs, rfl, hl, hr⟩ := flat_rep e h
  rw [intsOf_eq e2] at hr
  exact ⟨a, rfl, by rw [← rep_ints hr]; exact hl⟩
theorem flat_bools {ds : List D} {ns : List Bool} (e : x.flat = some ds) (e2 : boolsOf ds = some ns) (h : TRep K F H v x fa) : ∃ a, v = .ref a ∧ SqL K H a (ns.map V.bl) := by
  obtain ⟨a, vs, rfl, hl, hr⟩ := flat_rep e h
  rw [boolsOf_eq e2] at hr
  exact ⟨a, rfl, by rw [← rep_bools hr]; exact hl⟩
theorem sortI_eq {ns ms : List Int} (p : ms.Perm ns) (s : ms.Pairwise (· ≤ ·)) : ms = sortI ns := by
  have h1 : (sortI ns).Pairwise (· ≤ ·) := by
    have := List.pairwise_mergeSort (le := fun a b : Int => decide (a ≤ b)) (fun a b c h1 h2 => by simp at *; omega) (fun a b => by simp; omega) ns
    exact this.imp fun h => by simpa using h
  have h2 : ms.Perm (sortI ns) := p.trans (List.mergeSort_perm ns _).symm
  exact List.Perm.eq_of_pairwise (le := (· ≤ ·)) (fun a b _ _ h1 h2 => Int.le_antisymm h1 h2) s h1 h2
theorem maxI_spec : ∀ (n : Int) (ns : List Int), maxI n ns ∈ n :: ns ∧ ∀ y ∈ n :: ns, y ≤ maxI n ns
  | n, [] => by simp [maxI]
  | n, m :: ms => by
    unfold maxI
    obtain ⟨a, b⟩ := maxI_spec (if m > n then m else n) ms
    constructor
    · rcases List.mem_cons.mp a with e | e
      · rw [e]; split <;> simp
      · simp [e]
    · intro y hy
      have h0 := b _ List.mem_cons_self
      rcases List.mem_cons.mp hy with rfl | hy
      · split at h0 <;> rename_i hh <;> (try rw [if_pos hh]) <;> (try rw [if_neg hh]) <;> omega
      · rcases List.mem_cons.mp hy with rfl | hy
        · split at h0 <;> rename_i hh <;> (try rw [if_pos hh]) <;> (try rw [if_neg hh]) <;> omega
        · exact b y (List.mem_cons_of_mem _ hy)
theorem minI_spec : ∀ (n : Int) (ns : List Int), minI n ns ∈ n :: ns ∧ ∀ y ∈ n :: ns, minI n ns ≤ y
  | n, [] => by simp [minI]
  | n, m :: ms => by
    unfold minI
    obtain ⟨a, b⟩ := minI_spec (if m < n then m else n) ms
    constructor
    · rcases List.mem_cons.mp a with e | e
      · rw [e]; split <;> simp
      · simp [e]
    · intro y hy
      have h0 := b _ List.mem_cons_self
      rcases List.mem_cons.mp hy with rfl | hy
      · split at h0 <;> rename_i hh <;> (try rw [if_pos hh]) <;> (try rw [if_neg hh]) <;> omega
      · rcases List.mem_cons.mp hy with rfl | hy
        · split at h0 <;> rename_i hh <;> (try rw [if_pos hh]) <;> (try rw [if_neg hh]) <;> omega
        · exact b y (List.mem_cons_of_mem _ hy)
theorem call_reprD (hu : X.A.units + 65 < cLine) (gd : X.A.guards = some []) {d : D} (h : reprOk d = true) : CallR X (.builtin "repr") (fun xs H Q => ∃ v, xs = [v] ∧ RD X.K H v d ∧ Q (.str d.toPy.shown) H) := by
  intro pins s σ H xs us Q I r ⟨v, e, hd, q⟩
  subst e
  unfold reprOk at h
  simp only [Bool.and_eq_true, decide_eq_true_eq] at h
  obtain ⟨⟨h1, h2⟩, h3⟩ := h
  obtain ⟨u, rfl, rv⟩ := vals1 r
  have dp := RD.dp d v 60 h1 hd
  obtain ⟨as, rd⟩ := Dp.reads I d.toPy v u dp rv
  obtain ⟨l1, l2⟩ := shp_lay d 60 h1
  have big : ∀ a, u = .ref a → wpAny (model X.prog X.w) X.A (call (.builtin "repr") [u]) (EP X pins σ Q) X.xe s := fun a e => by
    subst e
    exact repr_of_reads' rd h2 (PyData.noDict_hsm (PyData.hasDict_of_canLay _ l1)) gd (by omega) (fun _ _ e => e) (fun h' u tk hk => ⟨.str _, H, I.kept hk, ⟨_, rfl⟩, q⟩) h3
  cases d with
  | none =>
    have : v = .non := by simpa only [RD, RepD] using hd
    subst this; cases rv
    exact PySem.P.repr_of_none ⟨.str _, H, I.tok _, ⟨_, rfl⟩, by simpa only [D.toPy, PyData.shown] using q⟩
  | bool b =>
    have : v = .bl b := by simpa only [RD, RepD] using hd
    subst this; cases rv
    exact PySem.P.repr_of_bool ⟨.str _, H, I.tok _, ⟨_, rfl⟩, by simpa only [D.toPy, PyData.shown] using q⟩
  | int i =>
    have : v = .int i := by simpa only [RD, RepD] using hd
    subst this; obtain ⟨tk, rfl⟩ := rv
    have h2' : i.natAbs.log2 < 1920 := by simpa only [D.toPy, PyData.showable, decide_eq_true_eq] using h2
    exact PySem.P.repr_of_int h2' ⟨.str _, H, I.tok _, ⟨_, rfl⟩, by simpa only [D.toPy, PyData.shown] using q⟩
  | str x =>
    have : v = .str x := by simpa only [RD, RepD] using hd
    subst this; obtain ⟨tk, rfl⟩ := rv
    exact PySem.P.repr_of_str ⟨.str _, H, I.tok _, ⟨_, rfl⟩, by simpa only [D.toPy, PyData.shown] using q⟩ (by simpa only [D.toPy, PyData.shown] using h3)
  | list ds =>
    simp only [RD, RepD] at hd
    obtain ⟨a, vs, rfl, _⟩ := hd
    exact big a rv
  | tup ds =>
    simp only [RD, RepD] at hd
    obtain ⟨a, vs, rfl, _⟩ := hd
    exact big a rv
  | dict ks ds => simp [D.shp] at h1
theorem call_appB (hc : X.calm = true) (hu : X.A.units + 65 < cLine) (gd : X.A.guards = some []) {f : Blt} {ts : List T} (h : appB f ts = some t) (hf : isTy f = none) : CallR X (bltV f) (CB X.K ts t) := by
  unfold appB at h
  split at h <;> (try (cases hf; done))
  · rename_i ds
    cases h
    refine CallR.mono' call_len ?_
    rintro vs H Q ⟨F, fa, hF, hr, q⟩
    obtain ⟨v, rfl, hv⟩ := treps1 hr
    simp only [TRep, RepD] at hv
    obtain ⟨_, a, ws, rfl, hl, hr⟩ := hv
    exact ⟨_, ds.length, rfl, .inl ⟨ws, hl.sq, hr.len.symm⟩, q _ _ res_int⟩
  · rename_i ds
    cases h
    refine CallR.mono' call_len ?_
    rintro vs H Q ⟨F, fa, hF, hr, q⟩
    obtain ⟨v, rfl, hv⟩ := treps1 hr
    simp only [TRep, RepD] at hv
    obtain ⟨_, a, ws, rfl, hl, hr⟩ := hv
    exact ⟨_, ds.length, rfl, .inr ⟨ws, hl.sq, hr.len.symm⟩, q _ _ res_int⟩
  · rename_i ts
    cases h
    refine CallR.mono' call_len ?_
    rintro vs H Q ⟨F, fa, hF, hr, q⟩
    obtain ⟨v, rfl, hv⟩ := treps1 hr
    simp only [TRep] at hv
    obtain ⟨a, ws, fq, rfl, rfl, nf, ha, hr⟩ := hv
    exact ⟨_, ts.length, rfl, .inl ⟨ws, SqL.of ha, hr.len.symm⟩, q _ _ res_int⟩
  · cases h
    refine CallR.mono' call_abs ?_
    rintro vs H Q ⟨F, fa, hF, hr, q⟩
    obtain ⟨v, rfl, hv⟩ := treps1 hr
    exact ⟨_, by rw [trep_int hv], q _ _ res_int⟩
  · cases h
    refine CallR.mono' call_int1 ?_
    rintro vs H Q ⟨F, fa, hF, hr, q⟩
    obtain ⟨v, rfl, hv⟩ := treps1 hr
    exact .inl ⟨_, by rw [trep_int hv], q _ _ res_int⟩
  · cases h
    refine CallR.mono' call_int1 ?_
    rintro vs H Q ⟨F, fa, hF, hr, q⟩
    obtain ⟨v, rfl, hv⟩ := treps1 hr
    exact .inr ⟨_, by rw [trep_bool hv], q _ _ res_int⟩
  · obtain ⟨ds, e, rfl⟩ := Option.map_eq_some_iff.mp h
    refine CallR.mono' call_list_of ?_
    rintro vs H Q ⟨F, fa, hF, hr, q⟩
    obtain ⟨v, rfl, hv⟩ := treps1 hr
    obtain ⟨a, ws, rfl, hl, hr⟩ := flat_rep e hv
    exact ⟨a, ws, rfl, .inl hl, fun l hl => q _ _ (res_fl hl hF hr)⟩
  · split at h
    · rename_i hok
      cases h
      refine CallR.mono' (call_reprD hu gd hok) ?_
      rintro vs H Q ⟨F, fa, hF, hr, q⟩
      obtain ⟨v, rfl, hv⟩ := treps1 hr
      exact ⟨v, rfl, hv.rd, q _ _ res_str⟩
    · cases h
  · split at h
    · rename_i ds e
      obtain ⟨ns, e2, rfl⟩ := Option.map_eq_some_iff.mp h
      refine CallR.mono' cr_sortedI ?_
      rintro vs H Q ⟨F, fa, hF, hr, q⟩
      obtain ⟨v, rfl, hv⟩ := treps1 hr
      obtain ⟨a, rfl, hs⟩ := flat_ints e e2 hv
      exact ⟨a, ns, rfl, hs, fun ms p pm srt hp => q _ _ (by rw [sortI_eq pm srt]; exact res_fl hp hF (ints_rep _))⟩
    · cases h
  · split at h
    · rename_i ds e
      obtain ⟨ns, e2, rfl⟩ := Option.map_eq_some_iff.mp h
      refine CallR.mono' (cr_all hc) ?_
      rintro vs H Q ⟨F, fa, hF, hr, q⟩
      obtain ⟨v, rfl, hv⟩ := treps1 hr
      obtain ⟨a, rfl, hs⟩ := flat_bools e e2 hv
      exact ⟨a, ns, rfl, hs, q _ _ res_bool⟩
    · cases h
  · split at h
    · rename_i ds e
      obtain ⟨ns, e2, rfl⟩ := Option.map_eq_some_iff.mp h
      refine CallR.mono' (cr_any hc) ?_
      rintro vs H Q ⟨F, fa, hF, hr, q⟩
      obtain ⟨v, rfl, hv⟩ := treps1 hr
      obtain ⟨a, rfl, hs⟩ := flat_bools e e2 hv
      exact ⟨a, ns, rfl, hs, q _ _ res_bool⟩
    · cases h
  · split at h
    · rename_i ds e
      obtain ⟨ns, e2, rfl⟩ := Option.map_eq_some_iff.mp h
      refine CallR.mono' (cr_sum hc) ?_
      rintro vs H Q ⟨F, fa, hF, hr, q⟩
      obtain ⟨v, rfl, hv⟩ := treps1 hr
      obtain ⟨a, rfl, hs⟩ := flat_ints e e2 hv
      exact ⟨a, ns, rfl, hs, q _ _ res_int⟩
    · cases h
  · split at h
    · rename_i ds e
      split at h
      · rename_i n ns e2
        cases h
        refine CallR.mono' (cr_max hc) ?_
        rintro vs H Q ⟨F, fa, hF, hr, q⟩
        obtain ⟨v, rfl, hv⟩ := treps1 hr
        obtain ⟨a, rfl, hs⟩ := flat_ints e e2 hv
        refine ⟨a, n :: ns, rfl, hs, by simp, fun m hm hle => ?_⟩
        obtain ⟨g1, g2⟩ := maxI_spec n ns
        have : m = maxI n ns := Int.le_antisymm (g2 m hm) (hle _ g1)
        rw [this]
        exact q _ _ res_int
      · cases h
    · cases h
  · split at h
    · rename_i ds e
      split at h
      · rename_i n ns e2
        cases h
        refine CallR.mono' (cr_min hc) ?_
        rintro vs H Q ⟨F, fa, hF, hr, q⟩
        obtain ⟨v, rfl, hv⟩ := treps1 hr
        obtain ⟨a, rfl, hs⟩ := flat_ints e e2 hv
        refine ⟨a, n :: ns, rfl, hs, by simp, fun m hm hle => ?_⟩
        obtain ⟨g1, g2⟩ := minI_spec n ns
        have : m = minI n ns := Int.le_antisymm (hle _ g1) (g2 m hm)
        rw [this]
        exact q _ _ res_int
      · cases h
    · cases h
  · cases h
    refine CallR.mono' (call_max2 hc) ?_
    rintro vs H Q ⟨F, fa, hF, hr, q⟩
    obtain ⟨v, w, f1, f2, rfl, hv, hw⟩ := treps2 hr
    exact ⟨_, _, by rw [trep_int hv, trep_int hw], q _ _ res_int⟩
  · cases h
    refine CallR.mono' (call_min2 hc) ?_
    rintro vs H Q ⟨F, fa, hF, hr, q⟩
    obtain ⟨v, w, f1, f2, rfl, hv, hw⟩ := treps2 hr
    exact ⟨_, _, by rw [trep_int hv, trep_int hw], q _ _ res_int⟩
  · split at h
    · rename_i i j hl
      cases h
      simp only [Bool.and_eq_true, decide_eq_true_eq] at hl
      refine CallR.mono' call_divmodW ?_
      rintro vs H Q ⟨F, fa, hF, hr, q⟩
      obtain ⟨v, w, f1, f2, rfl, hv, hw⟩ := treps2 hr
      refine ⟨i, j, by rw [trep_int hv, trep_int hw], ⟨hl.1, PyProof.noPylong_of_log2 (log2_okI hl.2)⟩, fun p hp => q _ _ (res_tup hp ?_)⟩
      simp only [RepDs, RepD, and_self]
    · cases h
  · cases h
end
end Mv

end
section
/-! The evaluation of codes is sound: one lemma a construct. -/
namespace Mv
open PySem PySem.Spec PyProof.Rows L2
def tE (K : PySem.W.Frag) (iov : Nat → Option V) (ρ : Env) (a : Val) (ρ' : Env) (wr : Bool) : TE := fun σ H Q => ∃ F fp, SR K iov [] F H σ ρ fp ∧
  ∀ v H' F' fp' fpv, SR K iov [] F' H' σ ρ' fp' → VR K F' H' σ a v fpv → Post F H fp F' H' fp' fpv wr → Q v H'
def tT (K : PySem.W.Frag) (iov : Nat → Option V) (ρ : Env) (b : Bool) (ρ' : Env) (wr : Bool) : TT := fun σ H Q => ∃ F fp, SR K iov [] F H σ ρ fp ∧
  ∀ H' F' fp', SR K iov [] F' H' σ ρ' fp' → Post F H fp F' H' fp' [] wr → Q b H'
def tA (K : PySem.W.Frag) (iov : Nat → Option V) (ρ : Env) (as : List Val) (ρ' : Env) (wr : Bool) : TA := fun σ H Q => ∃ F fp, SR K iov [] F H σ ρ fp ∧
  ∀ vs H' F' fp' fpv, SR K iov [] F' H' σ ρ' fp' → VRs K F' H' σ as vs fpv → Post F H fp F' H' fp' fpv wr → Q vs H'
theorem PE.imp' {X : Cx} {e : Expr} {t t' : TE} (h : PE X e t) (k : ∀ σ H Q, t' σ H Q → t σ H Q) : PE X e t' := ⟨fun pins s σ H Q I q => h.run pins s σ H Q I (k _ _ _ q)⟩
theorem PT.imp' {X : Cx} {e : Expr} {t t' : TT} (h : PT X e t) (k : ∀ σ H Q, t' σ H Q → t σ H Q) : PT X e t' := ⟨fun pins s σ H Q I q => h.run pins s σ H Q I (k _ _ _ q)⟩
theorem PW.imp' {X : Cx} {e : Expr} {t t' : TT} (h : PW X e t) (k : ∀ σ H Q, t' σ H Q → t σ H Q) : PW X e t' := ⟨fun w pins s σ H Q I q => h.run w pins s σ H Q I (k _ _ _ q)⟩
theorem PA.imp' {X : Cx} {e : List Expr} {t t' : TA} (h : PA X e t) (k : ∀ σ H Q, t' σ H Q → t σ H Q) : PA X e t' := ⟨fun p pins s σ H Q I q => h.run p pins s σ H Q I (k _ _ _ q)⟩
section
variable {X : Cx} {iov : Nat → Option V} {F F1 F2 F' : Addr → Prop} {H H1 H2 H' : Hp} {fp fp1 fp2 fp' : Fp} {fa fb fx fpv : List Addr} {t x y : T} {v vx vy : V} {b : Bool} {ρ ρ1 ρ2 ρ3 ρ' : Env} {wr wa wb wc : Bool} {va vb vc : Val} {σ : L2.St}
theorem Post.fin (P : Post F H fp F2 H2 fp2 fx wr) (h : ∀ b ∈ fx, ¬ F2 b ∧ H2 b ≠ none) (P' : Post F2 H2 fp2 F' H' fp' fpv false) : Post F H fp F' H' fp' fpv wr := by
  have := (P.trans P' h).drop
  simpa using this
theorem Post.sizes (P : Post F H fp F' H' fp' fpv wr) {w : Bool} (h : wr = w) : Post F H fp F' H' fp' fpv w := h ▸ P
theorem offs (h1 : ∀ b ∈ fa, ¬ F b ∧ H b ≠ none) (h2 : ∀ b ∈ fb, ¬ F b ∧ H b ≠ none) : ∀ b ∈ fa ++ fb, ¬ F b ∧ H b ≠ none := fun b hb => (List.mem_append.mp hb).elim (h1 b) (h2 b)
/-- two values, one behind the other -/
theorem two {R : V → V → Hp → Prop} {ta tb : TE} (hta : ta = tE X.K iov ρ va ρ1 wa) (htb : tb = tE X.K iov ρ1 vb ρ2 wb) (st : stands va wb = true) (S : SR X.K iov [] F H σ ρ fp)
    (k : ∀ vx vy H2 F2 fp2 fa fb, SR X.K iov [] F2 H2 σ ρ2 fp2 → VR X.K F2 H2 σ va vx fa → VR X.K F2 H2 σ vb vy fb → Post F H fp F2 H2 fp2 (fa ++ fb) (wa || wb) → R vx vy H2) :
    ta σ H fun x H1 => tb σ H1 fun y H2 => R x y H2 := by
  subst hta htb
  refine ⟨F, fp, S, fun vx H1 F1 fp1 fa S1 V1 P1 => ⟨F1, fp1, S1, fun vy H2 F2 fp2 fb S2 V2 P2 => ?_⟩⟩
  exact k vx vy H2 F2 fp2 fa fb S2 (V1.step P2 (fun i b hb => (S1.fpF i b hb).1) P1.disv st) V2 (P1.trans P2 V1.fps)
variable {e e1 e2 e3 : Expr} {pos : Pos}
theorem s_bin {op : Operator} (ha : PE X e1 (tE X.K iov ρ va ρ1 wa)) (hb : PE X e2 (tE X.K iov ρ1 vb ρ2 wb)) (st : stands va wb = true) (rx : Mv.resolve ρ2 va = some x) (ry : Mv.resolve ρ2 vb = some y) (h : binT op x y = some t) :
    PE X (.BinOp e1 op e2 pos) (tE X.K iov ρ (.t t) ρ2 (wa || wb)) := by
  refine PE.imp' (pe_op (op_binT h) ha hb) ?_
  rintro σ H Q ⟨F, fp, S, k⟩
  refine two rfl rfl st S fun vx vy H2 F2 fp2 fa fb S2 V1 V2 P => ?_
  obtain ⟨g1, r1⟩ := S2.rslv rx V1
  obtain ⟨g2, r2⟩ := S2.rslv ry V2
  refine ⟨F2, g1, g2, S2.trk, r1, r2, fun v H' pr => ?_⟩
  obtain ⟨F', fpv, S', tr, P'⟩ := S2.pure pr
  exact k v H' F' fp2 fpv S' tr (P.fin (offs V1.fps V2.fps) P')
theorem vr_bool (S : SR X.K iov [] F H σ ρ fp) : VR X.K F H σ (.t (.fz (.bool b))) (.bl b) [] := by
  show TRep _ _ _ _ _ _
  simp only [TRep, RepD, and_self]
theorem vr_int {i : Int} : VR X.K F H σ (.t (.fz (.int i))) (.int i) [] := by
  show TRep _ _ _ _ _ _
  simp only [TRep, RepD, and_self]
theorem s_cmp (hu : X.A.units + 65 < cLine) {op : CmpOp} (ha : PE X e1 (tE X.K iov ρ va ρ1 wa)) (hb : PE X e2 (tE X.K iov ρ1 vb ρ2 wb)) (st : stands va wb = true) (rx : Mv.resolve ρ2 va = some x) (ry : Mv.resolve ρ2 vb = some y) (h : cmpT op x y = some b)
    (hm : behindInMarks op e2 = false) : PE X (.Compare e1 [op] [e2] pos) (tE X.K iov ρ (.t (.fz (.bool b))) ρ2 (wa || wb)) := by
  refine PE.imp' (pe_cmpR (op_cmpT hu h) ha hb hm) ?_
  rintro σ H Q ⟨F, fp, S, k⟩
  refine two rfl rfl st S fun vx vy H2 F2 fp2 fa fb S2 V1 V2 P => ?_
  obtain ⟨g1, r1⟩ := S2.rslv rx V1
  obtain ⟨g2, r2⟩ := S2.rslv ry V2
  exact ⟨F2, g1, g2, r1, r2, k _ H2 F2 fp2 [] S2 (vr_bool S2) P.drop0⟩
theorem s_cmpT (hu : X.A.units + 65 < cLine) {op : CmpOp} (ha : PE X e1 (tE X.K iov ρ va ρ1 wa)) (hb : PE X e2 (tE X.K iov ρ1 vb ρ2 wb)) (st : stands va wb = true) (rx : Mv.resolve ρ2 va = some x) (ry : Mv.resolve ρ2 vb = some y) (h : cmpT op x y = some b)
    (hm : behindInMarks op e2 = false) : PT X (.Compare e1 [op] [e2] pos) (tT X.K iov ρ b ρ2 (wa || wb)) := by
  refine PT.imp' (pt_cmpR (op_cmpT hu h) ha hb hm) ?_
  rintro σ H Q ⟨F, fp, S, k⟩
  refine two (R := fun x y H2 => R2C X.K _ _ b x y H2 fun x H' => ∃ k, x = .bl k ∧ Q k H') rfl rfl st S fun vx vy H2 F2 fp2 fa fb S2 V1 V2 P => ?_
  obtain ⟨g1, r1⟩ := S2.rslv rx V1
  obtain ⟨g2, r2⟩ := S2.rslv ry V2
  exact ⟨F2, g1, g2, r1, r2, _, rfl, k H2 F2 fp2 S2 P.drop0⟩
theorem s_neg {i : Int} (ha : PE X e1 (tE X.K iov ρ (.t (.fz (.int i))) ρ1 wa)) : PE X (.UnaryOp .USub e1 pos) (tE X.K iov ρ (.t (.fz (.int (-i)))) ρ1 wa) := by
  refine PE.imp' (pe_un un_neg ha) ?_
  rintro σ H Q ⟨F, fp, S, k⟩
  refine ⟨F, fp, S, fun vx H1 F1 fp1 fa S1 V1 P1 => ⟨i, trep_int V1, k _ H1 F1 fp1 [] S1 vr_int P1.drop0⟩⟩
theorem s_notv {c : Bool} (ha : PE X e1 (tE X.K iov ρ (.t (.fz (.bool c))) ρ1 wa)) : PE X (.UnaryOp .Not e1 pos) (tE X.K iov ρ (.t (.fz (.bool (!c)))) ρ1 wa) := by
  refine PE.imp' (pe_not ha) ?_
  rintro σ H Q ⟨F, fp, S, k⟩
  refine ⟨F, fp, S, fun vx H1 F1 fp1 fa S1 V1 P1 => ⟨c, trep_bool V1, k _ H1 F1 fp1 [] S1 (vr_bool S1) P1.drop0⟩⟩
theorem s_const_int {i : Int} {j} : PE X (.Constant (.int i) j pos) (tE X.K iov ρ (.t (.fz (.int i))) ρ false) := by
  refine PE.imp' pe_int ?_
  rintro σ H Q ⟨F, fp, S, k⟩
  exact k _ H F fp [] S vr_int (.refl S)
theorem s_const_bool {i : Bool} {j} : PE X (.Constant (.bool i) j pos) (tE X.K iov ρ (.t (.fz (.bool i))) ρ false) := by
  refine PE.imp' pe_bl ?_
  rintro σ H Q ⟨F, fp, S, k⟩
  exact k _ H F fp [] S (vr_bool S) (.refl S)
theorem s_const_none {j} : PE X (.Constant .none j pos) (tE X.K iov ρ (.t (.fz .none)) ρ false) := by
  refine PE.imp' pe_non ?_
  rintro σ H Q ⟨F, fp, S, k⟩
  exact k _ H F fp [] S (by show TRep _ _ _ _ _ _; simp only [TRep, RepD, and_self]) (.refl S)
theorem s_const_str {i : Str} {j} : PE X (.Constant (.str i) j pos) (tE X.K iov ρ (.t (.fz (.str i))) ρ false) := by
  refine PE.imp' pe_str ?_
  rintro σ H Q ⟨F, fp, S, k⟩
  exact k _ H F fp [] S (by show TRep _ _ _ _ _ _; simp only [TRep, RepD, and_self]) (.refl S)
/-- a constant of the module -/
def GlV (X : Cx) (nm : Str) (d : D) : Prop := ∃ u v, X.mg nm = some u ∧ RelV v u ∧ RepD X.K (fun _ => False) (fun _ => none) v d
theorem s_gl {nm : Str} {d : D} (hg : Gl X nm) (g : GlV X nm d) (hd : (nm == ("__debug__" : Str)) = false) : PE X (.Name nm pos) (tE X.K iov ρ (.t (.fz d)) ρ false) := by
  obtain ⟨u, v, h1, h2, h3⟩ := g
  refine PE.imp' (pe_glob hg h1 h2 hd) ?_
  rintro σ H Q ⟨F, fp, S, k⟩
  exact k _ H F fp [] S (by show TRep _ _ _ _ _ _; simp only [TRep, true_and]; exact RepD.mono (fun _ h => h.elim) (fun _ _ h _ => h.elim) d v h3) (.refl S)
theorem Post.mvd (S : SR X.K iov [] F H σ ρ fp) {i : Nat} : Post F H fp F H (updF fp i []) (fp i) false where
  sub := fun _ h => h
  new := fun _ h => .inl h
  keep := fun _ _ h _ => h
  there := fun _ h => h
  fresh := fun j b hb => .inl ⟨j, updF_le (fun _ h => by cases h) j b hb⟩
  freshv := fun b hb => .inl ⟨i, hb⟩
  disv := fun j b hb hc => by
    by_cases hj : j = i
    · subst hj; rw [updF_same] at hb; cases hb
    · rw [updF_ne hj] at hb; exact hj (S.dis j i b hb hc)
  nodv := S.nod i
theorem s_mv {i : Nat} {nm : Str} (hN : X.N[i]? = some nm) (hv : Vis X.env.scope nm) (hd : (nm == ("__debug__" : Str)) = false) (hcd : (nm == ("__classdict__" : Str)) = false) (h : ρ[i]? = some (Slot.ow t)) :
    PE X (.Name nm pos) (tE X.K iov ρ (.t t) ((kills i .none ρ).set i .no) false) := by
  refine PE.imp' (pe_var hN hv hd hcd) ?_
  rintro σ H Q ⟨F, fp, S, k⟩
  obtain ⟨v, e, r, S'⟩ := S.move h
  exact ⟨v, e, k v H F _ (fp i) S' r (.mvd S)⟩
theorem getPt_fz {j k : Nat} {d : D} (S : SR X.K iov [] F H σ ρ fp) {v : V} (h : getPt ρ j (some k) = some (.fz d)) (r : VR X.K F H σ (.pt j (some k)) v fpv) : TRep X.K F H v (.fz d) [] := by
  obtain ⟨_, fq, _, _, q⟩ := S.gtPt h r
  simp only [TRep, true_and] at q ⊢
  exact q.2
theorem s_var {i : Nat} {nm : Str} (hN : X.N[i]? = some nm) (hv : Vis X.env.scope nm) (hd : (nm == ("__debug__" : Str)) = false) (hcd : (nm == ("__classdict__" : Str)) = false) (h : rdName ρ i = some va) :
    PE X (.Name nm pos) (tE X.K iov ρ va ρ false) := by
  refine PE.imp' (pe_var hN hv hd hcd) ?_
  rintro σ H Q ⟨F, fp, S, k⟩
  have go : ∀ t, slotT ρ[i]? = some t → va = (match t with | .fz d => .t (.fz d) | _ => .pt i .none) → tVar i σ H Q := fun t e1 e2 => by
    obtain ⟨v, e, r⟩ := S.slT e1
    refine ⟨v, e, k v H F fp [] S ?_ (.refl S)⟩
    cases t with
    | fz d => subst e2; show TRep _ _ _ _ _ _; simp only [TRep, true_and] at r ⊢; exact r.2
    | lst ts => subst e2; exact ⟨rfl, e⟩
    | tup ts => subst e2; exact ⟨rfl, e⟩
    | dct ks ts => subst e2; exact ⟨rfl, e⟩
  unfold rdName at h
  split at h
  · rename_i t e; exact go t (by rw [e]; rfl) (Option.some.inj h).symm
  · rename_i t e; exact go t (by rw [e]; rfl) (Option.some.inj h).symm
  · rename_i j l e
    obtain ⟨_, r⟩ := S.slot i _ e (by simp)
    rcases r with r | ⟨v, a, vs, h1, h2, h3, h4, h5⟩
    · cases r
    · refine ⟨v, h1, k v H F fp [] S ?_ (.refl S)⟩
      have r : VR X.K F H σ (.pt j (some l)) v [] := ⟨rfl, a, vs, h2, h3, h4⟩
      split at h
      · rename_i d e; cases h; exact getPt_fz S e r
      · cases h; exact r
      · cases h
  · cases h
theorem s_ite {c : Bool} {ec : Expr} {tc : TT} (hc : PT X ec (tT X.K iov ρ c ρ1 wc)) (ha : c = true → PE X e1 (tE X.K iov ρ1 va ρ2 wa)) (hb : c = false → PE X e2 (tE X.K iov ρ1 va ρ2 wa)) : PE X (.IfExp ec e1 e2 pos) (tE X.K iov ρ va ρ2 (wc || wa)) := by
  have pn : ∀ e, PE X e (fun _ _ _ => False) := fun e => ⟨fun _ _ _ _ _ _ q => q.elim⟩
  cases c with
  | true =>
    refine PE.imp' (pe_ifExp hc (ha rfl) (pn e2)) ?_
    rintro σ H Q ⟨F, fp, S, k⟩
    refine ⟨F, fp, S, fun H1 F1 fp1 S1 P1 => ?_⟩
    refine iteT ?_
    exact ⟨F1, fp1, S1, fun v H2 F2 fp2 fpv S2 V2 P2 => k v H2 F2 fp2 fpv S2 V2 (P1.trans P2 fun _ h => (nomatch h))⟩
  | false =>
    refine PE.imp' (pe_ifExp hc (pn e1) (hb rfl)) ?_
    rintro σ H Q ⟨F, fp, S, k⟩
    refine ⟨F, fp, S, fun H1 F1 fp1 S1 P1 => ?_⟩
    refine iteF ?_
    exact ⟨F1, fp1, S1, fun v H2 F2 fp2 fpv S2 V2 P2 => k v H2 F2 fp2 fpv S2 V2 (P1.trans P2 fun _ h => (nomatch h))⟩
theorem Post.more (P : Post F H fp F' H' fp' fpv wa) {w : Bool} (h : wa = true → w = true) : Post F H fp F' H' fp' fpv w :=
  ⟨P.sub, P.new, fun b o e z => P.keep b o e (z.imp (fun z => by cases wa with | false => rfl | true => rw [h rfl] at z; cases z) id), P.there, P.fresh, P.freshv, P.disv, P.nodv⟩
theorem tE.more {w : Bool} (he : PE X e (tE X.K iov ρ va ρ1 wa)) (h : wa = true → w = true) : PE X e (tE X.K iov ρ va ρ1 w) :=
  PE.imp' he fun σ H Q ⟨F, fp, S, k⟩ => ⟨F, fp, S, fun v H1 F1 fp1 fpv S1 V1 P1 => k v H1 F1 fp1 fpv S1 V1 (P1.more h)⟩
theorem tT.more {w : Bool} (he : PT X e (tT X.K iov ρ b ρ1 wa)) (h : wa = true → w = true) : PT X e (tT X.K iov ρ b ρ1 w) :=
  PT.imp' he fun σ H Q ⟨F, fp, S, k⟩ => ⟨F, fp, S, fun H1 F1 fp1 S1 P1 => k H1 F1 fp1 S1 (P1.more h)⟩
theorem tW.more {w : Bool} (he : PW X e (tT X.K iov ρ b ρ1 wa)) (h : wa = true → w = true) : PW X e (tT X.K iov ρ b ρ1 w) :=
  PW.imp' he fun σ H Q ⟨F, fp, S, k⟩ => ⟨F, fp, S, fun H1 F1 fp1 S1 P1 => k H1 F1 fp1 S1 (P1.more h)⟩
/-- and, or as values -/
theorem s_boolop {op : BoolOp} {k1 : Bool} {es : List Expr} (ha : PE X e1 (tE X.K iov ρ (.t (.fz (.bool k1))) ρ1 wa)) (hb : (decide (op = .And)) = k1 → PE X (.BoolOp op (e2 :: es) pos) (tE X.K iov ρ1 vb ρ2 wb)) (hn : ¬ (decide (op = .And)) = k1 → vb = .t (.fz (.bool k1)) ∧ ρ2 = ρ1) :
    PE X (.BoolOp op (e1 :: e2 :: es) pos) (tE X.K iov ρ vb ρ2 (wa || wb)) := by
  have pn : ∀ e, PE X e (fun _ _ _ => False) := fun e => ⟨fun _ _ _ _ _ _ q => q.elim⟩
  by_cases h : (decide (op = .And)) = k1
  · have hb' := hb h
    clear hb
    cases op with
    | And =>
      have h : k1 = true := h.symm
      subst h
      refine PE.imp' (pe_and ha hb') ?_
      rintro σ H Q ⟨F, fp, S, k⟩
      refine ⟨F, fp, S, fun v H1 F1 fp1 fa S1 V1 P1 => ⟨true, trep_bool V1, ?_⟩⟩
      refine iteT ?_
      exact ⟨F1, fp1, S1, fun v H2 F2 fp2 fpv S2 V2 P2 => k v H2 F2 fp2 fpv S2 V2 (P1.drop0.trans P2 fun _ h => (nomatch h))⟩
    | Or =>
      have h : k1 = false := h.symm
      subst h
      refine PE.imp' (pe_or ha hb') ?_
      rintro σ H Q ⟨F, fp, S, k⟩
      refine ⟨F, fp, S, fun v H1 F1 fp1 fa S1 V1 P1 => ⟨false, trep_bool V1, ?_⟩⟩
      refine iteF ?_
      exact ⟨F1, fp1, S1, fun v H2 F2 fp2 fpv S2 V2 P2 => k v H2 F2 fp2 fpv S2 V2 (P1.drop0.trans P2 fun _ h => (nomatch h))⟩
  · obtain ⟨rfl, rfl⟩ := hn h
    cases op with
    | And =>
      have h : k1 = false := by cases k1 <;> simp_all
      subst h
      refine PE.imp' (pe_and ha (pn _)) ?_
      rintro σ H Q ⟨F, fp, S, k⟩
      refine ⟨F, fp, S, fun v H1 F1 fp1 fa S1 V1 P1 => ⟨false, trep_bool V1, ?_⟩⟩
      refine iteF ?_
      exact k _ H1 F1 fp1 [] S1 (vr_bool S1) (P1.drop0.more (by simp_all))
    | Or =>
      have h : k1 = true := by cases k1 <;> simp_all
      subst h
      refine PE.imp' (pe_or ha (pn _)) ?_
      rintro σ H Q ⟨F, fp, S, k⟩
      refine ⟨F, fp, S, fun v H1 F1 fp1 fa S1 V1 P1 => ⟨true, trep_bool V1, ?_⟩⟩
      refine iteT ?_
      exact k _ H1 F1 fp1 [] S1 (vr_bool S1) (P1.drop0.more (by simp_all))
/-- tests -/
theorem t_not (ha : PT X e1 (tT X.K iov ρ b ρ1 wa)) : PT X (.UnaryOp .Not e1 pos) (tT X.K iov ρ (!b) ρ1 wa) :=
  PT.imp' (pt_not ha) fun σ H Q ⟨F, fp, S, k⟩ => ⟨F, fp, S, fun H1 F1 fp1 S1 P1 => k H1 F1 fp1 S1 P1⟩
theorem t_val (ha : PE X e1 (tE X.K iov ρ va ρ1 wa)) (rx : Mv.resolve ρ1 va = some x) (h : truT x = some b) (he : ∀ whole, isTrue e1 X.env whole = (do let v ← whole; standAt e1.pos; holding [v] (truthy v))) : PT X e1 (tT X.K iov ρ b ρ1 wa) := by
  refine PT.imp' (pt_truth ha he) ?_
  rintro σ H Q ⟨F, fp, S, k⟩
  refine ⟨F, fp, S, fun v H1 F1 fp1 fa S1 V1 P1 => ?_⟩
  obtain ⟨g1, r1⟩ := S1.rslv rx V1
  exact ⟨b, truT_rep h r1, k H1 F1 fp1 S1 P1.drop0⟩
theorem t_bool1 {op : BoolOp} (ha : PT X e1 (tT X.K iov ρ b ρ1 wa)) : PW X (.BoolOp op [e1] pos) (tT X.K iov ρ b ρ1 wa) := by
  cases op with
  | And => exact pw_and1 ha
  | Or => exact pw_or1 ha
theorem t_bool {op : BoolOp} {k1 : Bool} {es : List Expr} (ha : PT X e1 (tT X.K iov ρ k1 ρ1 wa)) (hb : (decide (op = .And)) = k1 → PW X (.BoolOp op (e2 :: es) pos) (tT X.K iov ρ1 b ρ2 wb)) (hn : ¬ (decide (op = .And)) = k1 → b = k1 ∧ ρ2 = ρ1) :
    PW X (.BoolOp op (e1 :: e2 :: es) pos) (tT X.K iov ρ b ρ2 (wa || wb)) := by
  have pn : ∀ e, PW X e (fun _ _ _ => False) := fun e => ⟨fun _ _ _ _ _ _ _ q => q.elim⟩
  by_cases h : (decide (op = .And)) = k1
  · have hb' := hb h
    clear hb
    cases op with
    | And =>
      have h : k1 = true := h.symm
      subst h
      refine PW.imp' (pw_and ha hb') ?_
      rintro σ H Q ⟨F, fp, S, k⟩
      refine ⟨F, fp, S, fun H1 F1 fp1 S1 P1 => ?_⟩
      refine iteT ?_
      exact ⟨F1, fp1, S1, fun H2 F2 fp2 S2 P2 => k H2 F2 fp2 S2 (P1.trans P2 fun _ h => (nomatch h))⟩
    | Or =>
      have h : k1 = false := h.symm
      subst h
      refine PW.imp' (pw_or ha hb') ?_
      rintro σ H Q ⟨F, fp, S, k⟩
      refine ⟨F, fp, S, fun H1 F1 fp1 S1 P1 => ?_⟩
      refine iteF ?_
      exact ⟨F1, fp1, S1, fun H2 F2 fp2 S2 P2 => k H2 F2 fp2 S2 (P1.trans P2 fun _ h => (nomatch h))⟩
  · obtain ⟨rfl, rfl⟩ := hn h
    cases op with
    | And =>
      have h : b = false := by cases b <;> simp_all
      subst h
      refine PW.imp' (pw_and ha (pn _)) ?_
      rintro σ H Q ⟨F, fp, S, k⟩
      refine ⟨F, fp, S, fun H1 F1 fp1 S1 P1 => ?_⟩
      refine iteF ?_
      exact k H1 F1 fp1 S1 (P1.more (by simp_all))
    | Or =>
      have h : b = true := by cases b <;> simp_all
      subst h
      refine PW.imp' (pw_or ha (pn _)) ?_
      rintro σ H Q ⟨F, fp, S, k⟩
      refine ⟨F, fp, S, fun H1 F1 fp1 S1 P1 => ?_⟩
      refine iteT ?_
      exact k H1 F1 fp1 S1 (P1.more (by simp_all))
end
end Mv

end
section
/-! Displays, arguments, subscripts, slices, built-ins, dicts read. -/
namespace Mv
open PySem PySem.Spec PyProof.Rows L2
section
variable {X : Cx} {iov : Nat → Option V} {F F1 F2 F' : Addr → Prop} {H H1 H2 H' : Hp} {fp fp1 fp2 fp' : Fp} {fa fb fx fpv : List Addr} {t x y : T} {v vx vy : V} {b : Bool} {ρ ρ1 ρ2 ρ3 ρ' : Env} {wr wa wb wc : Bool} {va vb vc : Val} {σ : L2.St} {e e1 e2 e3 : Expr} {es : List Expr} {pos : Pos} {as : List Val}
def plainE : Expr → Bool
  | .Starred _ _ => false
  | _ => true
theorem star_plain (h : plainE e = true) (env : PySem.Env) : starEach (e :: es) env = (false, eval e env) :: starEach es env := by
  cases e <;> first | rfl | cases h
theorem a_nil : PA X [] (tA X.K iov ρ [] ρ false) := PA.imp' pa_nil fun σ H Q ⟨F, fp, S, k⟩ => k [] H F fp [] S rfl (.refl S)
theorem a_cons (hp : plainE e = true) (ha : PE X e (tE X.K iov ρ va ρ1 wa)) (hb : PA X es (tA X.K iov ρ1 as ρ2 wb)) (st : stands va wb = true) : PA X (e :: es) (tA X.K iov ρ (va :: as) ρ2 (wa || wb)) := by
  refine PA.imp' (pa_cons ha hb (star_plain hp _)) ?_
  rintro σ H Q ⟨F, fp, S, k⟩
  refine ⟨F, fp, S, fun vx H1 F1 fp1 fa S1 V1 P1 => ⟨F1, fp1, S1, fun vs H2 F2 fp2 fb S2 V2 P2 => ?_⟩⟩
  exact k (vx :: vs) H2 F2 fp2 (fa ++ fb) S2 ⟨fa, fb, rfl, V1.step P2 (fun i b hb => (S1.fpF i b hb).1) P1.disv st, V2⟩ (P1.trans P2 V1.fps)
/-- the places among some values are frozen -/
theorem SR.fzVs : ∀ {as : List Val} {vs : List V} {ts : List T} {F fp fpv ρ ρ'}, SR X.K iov [] F H σ ρ fp → fzVals ρ as = some (ts, ρ') → VRs X.K F H σ as vs fpv → (∀ i b, b ∈ fp i → b ∉ fpv) → fpv.Nodup →
    ∃ F' fp', SR X.K iov [] F' H σ ρ' fp' ∧ TReps X.K F' H vs ts fpv ∧ Fz F fp F' fp'
  | [], [], ts, F, fp, fpv, ρ, ρ', S, h, r, hd, nd => by
    simp only [fzVals, Option.some.injEq, Prod.mk.injEq] at h
    obtain ⟨rfl, rfl⟩ := h
    exact ⟨F, fp, S, by simp only [TReps]; exact r, .refl⟩
  | [], _ :: _, _, _, _, _, _, _, _, _, r, _, _ => r.elim
  | _ :: _, [], _, _, _, _, _, _, _, _, r, _, _ => r.elim
  | a :: as, v :: vs, ts, F, fp, fpv, ρ, ρ', S, h, r, hd, nd => by
    obtain ⟨f1, f2, rfl, r1, r2⟩ := r
    unfold fzVals at h
    split at h
    · rename_i t ρ1 e1
      split at h
      · rename_i ts' ρ2 e2
        cases h
        have hd1 : ∀ i b, b ∈ fp i → b ∉ f1 := fun i b hb z => hd i b hb (List.mem_append_left _ z)
        have hd2 : ∀ i b, b ∈ fp i → b ∉ f2 := fun i b hb z => hd i b hb (List.mem_append_right _ z)
        have nd' := List.nodup_append.mp nd
        obtain ⟨F1, fp1, S1, tr, Z1⟩ := S.fzV e1 r1
        have tr1 : TRep X.K F1 H v t f1 := by
          rcases tr with tr | ⟨tr, e⟩
          · exact Z1.tmp tr hd1
          · rw [e]; rw [e] at tr; exact tr
        have r2' := VRs.fz Z1 r2 hd2
        obtain ⟨F2, fp2, S2, trs, Z2⟩ := SR.fzVs S1 e2 r2' (fun i b hb => hd2 i b (Z1.le i b hb)) nd'.2.1
        refine ⟨F2, fp2, S2, ?_, Z1.trans Z2⟩
        simp only [TReps]
        exact ⟨f1, f2, rfl, Z2.tmp tr1 (fun i b hb => hd1 i b (Z1.le i b hb)), trs⟩
      · cases h
    · cases h
theorem unfzs_rep {ts : List T} {ds : List D} {vs : List V} (e : T.unfzs ts = some ds) (h : TReps X.K F H vs ts fa) : fa = [] ∧ RepDs X.K F H vs ds := by
  rw [unfzs_eq e] at h
  exact TReps.fzs.mp h
/-- a new list, a new tuple of trees -/
theorem new_obj {o : HO} {p : Addr} (S : SR X.K iov [] F H σ ρ fp) (hp : H p = none) : SR X.K iov [] F (upd H p o) σ ρ fp :=
  S.step (fun _ h => h) (fun i b hb => (S.fpF i b hb).1) (upd_keep hp) fun b f => by
    have := S.trk b f
    cases e : H b with
    | none => exact absurd e this
    | some u => rw [upd_keep hp b u e]; simp
theorem Post.newO {o : HO} {p : Addr} (P : Post F H fp F' H' fp' fpv wr) (hp : H' p = none) (hv : ∀ b ∈ fpv, H' b ≠ none) (hf : ∀ i b, b ∈ fp' i → H' b ≠ none) : Post F H fp F' (upd H' p o) fp' (p :: fpv) wr where
  sub := P.sub
  new := P.new
  keep := fun b u e w => upd_keep hp b u (P.keep b u e w)
  there := fun b e => by
    have := P.there b e
    cases e' : H' b with
    | none => exact absurd e' this
    | some u => rw [upd_keep hp b u e']; simp
  fresh := P.fresh
  freshv := fun b hb => by
    rcases List.mem_cons.mp hb with rfl | hb
    · refine .inr ?_
      cases e : H b with
      | none => rfl
      | some u => exact absurd hp (P.there b (by rw [e]; simp))
    · exact P.freshv b hb
  disv := fun i b hb z => by
    rcases List.mem_cons.mp z with rfl | z
    · exact hf i b hb hp
    · exact P.disv i b hb z
  nodv := List.nodup_cons.mpr ⟨fun z => hv p z hp, P.nodv⟩
theorem s_list {ts : List T} (hn : es.length ≤ 1000) (ha : PA X es (tA X.K iov ρ as ρ1 wa)) (hl : as.length = es.length) (h : fzVals ρ1 as = some (ts, ρ2)) : PE X (.List es pos) (tE X.K iov ρ (.t (.lst ts)) ρ2 wa) := by
  refine PE.imp' (pe_lst ha) ?_
  rintro σ H Q ⟨F, fp, S, k⟩
  refine ⟨F, fp, S, fun vs H1 F1 fp1 fa S1 V1 P1 => ⟨?_, fun p hp => ?_⟩⟩
  · rw [← V1.len, hl]; exact Nat.le_trans hn (by rw [sizeLine_eq]; decide)
  · obtain ⟨F2, fp2, S2, tr, Z⟩ := SR.fzVs S1 h V1 P1.disv P1.nodv
    have P2 := P1.fz Z
    have of := TReps.fps _ _ _ tr
    refine k _ _ F2 fp2 (p :: fa) (new_obj S2 hp) ?_ (P2.newO hp (fun b hb => (of b hb).2) fun i b hb => (S2.fpF i b hb).2)
    show TRep _ _ _ _ _ _
    simp only [TRep]
    exact ⟨p, vs, fa, rfl, rfl, fun f => S2.trk p f hp, upd_same, TReps.mono (fun _ h => h) ts vs fa (fun b hb => (of b hb).1) (fun b o _ e => upd_keep hp b o e) tr⟩
theorem s_tup {ts : List T} {kk : Nat} (hn : es.length ≤ 1000) (ha : PA X es (tA X.K iov ρ as ρ1 wa)) (hl : as.length = es.length) (h : fzVals ρ1 as = some (ts, ρ2)) : PE X (.Tuple es kk pos) (tE X.K iov ρ (.t (mkTup ts)) ρ2 wa) := by
  refine PE.imp' (pe_tup ha) ?_
  rintro σ H Q ⟨F, fp, S, k⟩
  refine ⟨F, fp, S, fun vs H1 F1 fp1 fa S1 V1 P1 => ⟨?_, fun p hp => ?_⟩⟩
  · rw [← V1.len, hl]; exact Nat.le_trans hn (by rw [sizeLine_eq]; decide)
  · obtain ⟨F2, fp2, S2, tr, Z⟩ := SR.fzVs S1 h V1 P1.disv P1.nodv
    have P2 := P1.fz Z
    have of := TReps.fps _ _ _ tr
    unfold mkTup at k
    cases e : T.unfzs ts with
    | some ds =>
      rw [e] at k
      obtain ⟨ef, rd⟩ := unfzs_rep e tr
      obtain ⟨F3, fpv, S3, tr3, P3⟩ := S2.pure (res_tup hp rd)
      exact k _ _ F3 fp2 fpv S3 tr3 (P2.fin of P3)
    | none =>
      rw [e] at k
      refine k _ _ F2 fp2 (p :: fa) (new_obj S2 hp) ?_ (P2.newO hp (fun b hb => (of b hb).2) fun i b hb => (S2.fpF i b hb).2)
      show TRep _ _ _ _ _ _
      simp only [TRep]
      exact ⟨p, vs, fa, rfl, rfl, fun f => S2.trk p f hp, upd_same, TReps.mono (fun _ h => h) ts vs fa (fun b hb => (of b hb).1) (fun b o _ e => upd_keep hp b o e) tr⟩
theorem s_dict0 : PE X (.Dict [] [] pos) (tE X.K iov ρ (.t (.dct [] [])) ρ false) := by
  refine PE.imp' pe_dnewK ?_
  rintro σ H Q ⟨F, fp, S, k⟩
  intro p hp
  refine k _ _ F fp [p] (new_obj S hp) ?_ ((Post.refl S).newO hp (fun b hb => (nomatch hb)) fun i b hb => (S.fpF i b hb).2)
  show TRep _ _ _ _ _ _
  simp only [TRep]
  exact ⟨p, [], [], rfl, rfl, fun f => S.trk p f hp, upd_same, rfl, List.nodup_nil, by simp only [TReps]⟩
/-! ### subscripts -/
def plainIx : Expr → Bool
  | .Slice _ _ _ _ => false
  | _ => true
theorem plainIx_ok (h : plainIx e = true) : PlainIx e := fun o i => by
  cases e <;> first | rfl | cases h
theorem VR.tree (S : SR X.K iov [] F H σ ρ fp) {a : Val} {v : V} (h : Mv.resolve ρ a = some t) (r : VR X.K F H σ a v fpv) (hd : ∀ i b, b ∈ fp i → b ∉ fpv) : ∃ fq, TRep X.K F H v t fq ∧ ((a = .t t ∧ fq = fpv) ∨ ∃ j l, a = .pt j l ∧ fpv = [] ∧ getPt ρ j l = some t ∧ ∀ b ∈ fq, b ∈ fp j) := by
  cases a with
  | t u => cases h; exact ⟨fpv, r, .inl ⟨rfl, rfl⟩⟩
  | pt i k =>
    obtain ⟨f1, fq, f3, e, q⟩ := S.gtPt h r
    exact ⟨fq, q, .inr ⟨i, k, rfl, by cases k <;> exact r.1, h, fun b hb => by rw [e]; simp [hb]⟩⟩
theorem Post.part (P : Post F H fp F' H' fp' fpv wr) (hs : ∃ f1 f3, fpv = f1 ++ fx ++ f3) : Post F H fp F' H' fp' fx wr := by
  obtain ⟨f1, f3, rfl⟩ := hs
  refine ⟨P.sub, P.new, P.keep, P.there, P.fresh, fun b hb => P.freshv b (by simp [hb]), fun i b hb z => P.disv i b hb (by simp [z]), ?_⟩
  exact (List.nodup_append.mp (List.nodup_append.mp P.nodv).1).2.1
theorem s_ix {i t : T} {k : Option Nat} (hx : plainIx e2 = true) (ha : PE X e1 (tE X.K iov ρ va ρ1 wa)) (hb : PE X e2 (tE X.K iov ρ1 (.t i) ρ2 wb)) (st : stands va wb = true) (rx : Mv.resolve ρ2 va = some x) (hg : getIx x i = some (t, k)) (h : ixVal ρ2 va i = some vc) :
    PE X (.Subscript e1 e2 pos) (tE X.K iov ρ vc ρ2 (wa || wb)) := by
  refine PE.imp' (pe_ix (ix_T hg) ha hb (plainIx_ok hx)) ?_
  rintro σ H Q ⟨F, fp, S, kk⟩
  refine two rfl rfl st S fun vx vy H2 F2 fp2 fa fb S2 V1 V2 P => ?_
  have da : ∀ i b, b ∈ fp2 i → b ∉ fa := fun i b hb z => P.disv i b hb (List.mem_append_left _ z)
  obtain ⟨fq, tr, alt⟩ := V1.tree S2 rx da
  refine ⟨F2, fq, fb, tr, V2, fun v f1 f2 f3 ef trc hk => ?_⟩
  rcases alt with ⟨rfl, rfl⟩ | ⟨j, l, rfl, rfl, hgp, _⟩
  · simp only [ixVal, hg, Option.map_some, Option.some.injEq] at h
    subst h
    exact kk v H2 F2 fp2 f2 S2 trc (P.part ⟨f1, f3 ++ fb, by rw [ef]; simp⟩)
  · simp only [ixVal, hgp, hg] at h
    cases t with
    | fz d =>
      simp only [Option.some.injEq] at h
      subst h
      refine kk v H2 F2 fp2 [] S2 ?_ P.drop0
      show TRep _ _ _ _ _ _
      simp only [TRep, true_and] at trc ⊢
      exact trc.2
    | _ =>
      cases k with
      | none => simp at h
      | some k =>
        simp only at h
        split at h
        · rename_i hl
          simp only [Option.some.injEq] at h
          subst h hl
          obtain ⟨a, vs, e1, e2, e3⟩ := hk k (by rw [hg]; rfl)
          subst e1
          have hσ : σ[j]? = some (some (.ref a)) := V1.2
          exact kk v H2 F2 fp2 [] S2 ⟨rfl, a, vs, hσ, e2, e3⟩ P.drop0
        · cases h
/-- d[k] of a dict -/
theorem s_dix (hu : X.A.units + 65 < cLine) {ks : List Key} {ts : List T} {d : D} {dk : T} (hx : NoSl e2) (ha : PE X e1 (tE X.K iov ρ va ρ1 wa)) (hb : PE X e2 (tE X.K iov ρ1 (.t dk) ρ2 wb)) (st : stands va wb = true) (rx : Mv.resolve ρ2 va = some x) (hd : dictOf x = some (ks, ts)) (hf : dGet ks ts dk = some d) :
    PE X (.Subscript e1 e2 pos) (tE X.K iov ρ (.t (.fz d)) ρ2 (wa || wb)) := by
  unfold dGet at hf
  split at hf
  · rename_i dk
    split at hf
    · rename_i kk hk
      split at hf
      · rename_i t0 ht
        refine PE.imp' (pe_dget (by omega) ha hb hx) ?_
        rintro σ H Q ⟨F, fp, S, k⟩
        refine two rfl rfl st S fun vx vy H2 F2 fp2 fa fb S2 V1 V2 P => ?_
        obtain ⟨fq, tr⟩ := S2.rslv rx V1
        have V2 : TRep X.K F2 H2 vy (.fz dk) fb := V2
        simp only [TRep] at V2
        obtain ⟨a, vs, f2, rfl, h1, h2, h4⟩ := dict_rep hd tr
        have ek := keyOf_rep hk V2.2
        subst ek
        obtain ⟨v, g2, e1, r⟩ := (findK_T h4 h2).1 _ ht
        cases t0 with
        | fz d0 =>
          cases hf
          refine ⟨a, v, rfl, ?_, k v H2 F2 fp2 [] S2 ?_ P.drop0⟩
          · rw [← e1]; exact DGet.k h1
          · show TRep _ _ _ _ _ _
            simp only [TRep, true_and] at r ⊢
            exact r.2
        | _ => cases hf
      · cases hf
    · cases hf
  · cases hf
theorem s_get2 (hu : X.A.units + 65 < cLine) {x1 x3 : T} {ks ks1 : List Key} {ts ts1 : List T} {d dk df : D} {kk : Key} {apos cpos : Pos} (m : M2 X e1 "get" apos e2 e3 cpos) (ha : PE X e1 (tE X.K iov ρ va ρ1 wa)) (hb : PE X e2 (tE X.K iov ρ1 (.t (.fz dk)) ρ2 wb)) (hc : PE X e3 (tE X.K iov ρ2 (.t (.fz df)) ρ3 wc))
    (st : stands va (wb || wc) = true) (r1 : Mv.resolve ρ1 va = some x1) (d1 : dictOf x1 = some (ks1, ts1)) (r3 : Mv.resolve ρ3 va = some x3) (d3 : dictOf x3 = some (ks, ts)) (hk : keyOf dk = some kk) (hf : (findK kk ks ts = some (.fz d)) ∨ (findK kk ks ts = none ∧ d = df)) :
    PE X (.Call (.Attribute e1 "get" apos) [e2, e3] [] cpos) (tE X.K iov ρ (.t (.fz d)) ρ3 (wa || (wb || wc))) := by
  refine PE.imp' (pe_dget2 (by omega) ha hb hc m) ?_
  rintro σ H Q ⟨F, fp, S, k⟩
  have st1 : stands va wb = true := by cases va with | t _ => rfl | pt i l => cases l <;> cases wb <;> simp_all [stands]
  have st2 : stands va wc = true := by cases va with | t _ => rfl | pt i l => cases l <;> cases wc <;> simp_all [stands]
  refine ⟨F, fp, S, fun vx H1 F1 fp1 fa S1 V1 P1 => ?_⟩
  obtain ⟨q1, t1⟩ := S1.rslv r1 V1
  obtain ⟨a, vs1, _, rfl, h1, _⟩ := dict_rep d1 t1
  refine ⟨a, rfl, .inl ⟨_, .inl h1⟩, F1, fp1, S1, fun vy H2 F2 fp2 fb S2 V2 P2 => ⟨F2, fp2, S2, fun vz H3 F3 fp3 fc S3 V3 P3 => ?_⟩⟩
  have V1' := V1.step P2 (fun i b hb => (S1.fpF i b hb).1) P1.disv st1
  have P12 := P1.trans P2 V1.fps
  have V1'' := V1'.step P3 (fun i b hb => (S2.fpF i b hb).1) (fun i b hb z => P12.disv i b hb (List.mem_append_left _ z)) st2
  have V2' := VR.step P3 (fun i b hb => (S2.fpF i b hb).1) V2 P2.disv (rfl : stands (.t (.fz dk)) wc = true)
  obtain ⟨q3, t3⟩ := S3.rslv r3 V1''
  obtain ⟨a', vs3, _, ea, h3, l3, tr3⟩ := dict_rep d3 t3
  cases ea
  have V2' : TRep X.K F3 H3 vy (.fz dk) fb := V2'
  have V3 : TRep X.K F3 H3 vz (.fz df) fc := V3
  simp only [TRep] at V2' V3
  have ek := keyOf_rep hk V2'.2
  subst ek
  have P := (P12.trans P3 (offs V1'.fps V2.fps)).drop0
  rcases hf with hf | ⟨hf, rfl⟩
  · obtain ⟨v, g2, e1, r⟩ := (findK_T tr3 l3).1 _ hf
    refine ⟨some v, by rw [← e1]; exact DGet.k h3, k v H3 F3 fp3 [] S3 ?_ (P.sizes (by cases wa <;> cases wb <;> rfl))⟩
    show TRep _ _ _ _ _ _
    simp only [TRep, true_and] at r ⊢
    exact r.2
  · have e1 := (findK_T tr3 l3).2 hf
    refine ⟨none, by rw [← e1]; exact DGet.k h3, k vz H3 F3 fp3 [] S3 ?_ (P.sizes (by cases wa <;> cases wb <;> rfl))⟩
    show TRep _ _ _ _ _ _
    simp only [TRep, true_and]
    exact V3.2
theorem s_fzv (ha : PE X e (tE X.K iov ρ va ρ1 wa)) (h : fzVal ρ1 va = some (t, ρ2)) : PE X e (tE X.K iov ρ (.t (.fz t.toD)) ρ2 wa) := by
  refine PE.imp' ha ?_
  rintro σ H Q ⟨F, fp, S, k⟩
  refine ⟨F, fp, S, fun v H1 F1 fp1 fa S1 V1 P1 => ?_⟩
  obtain ⟨F2, fp2, S2, tr, Z⟩ := S1.fzV h V1
  have P2 := P1.fz Z
  have tr2 : TRep X.K F2 H1 v t fa := by
    rcases tr with tr | ⟨tr, e⟩
    · exact Z.tmp tr P1.disv
    · rw [e]; rw [e] at tr; exact tr
  have of := TRep.fps _ _ _ tr2
  -- the temporary's objects are frozen too
  have hn : ∀ i b, b ∈ fp2 i → ¬ (F2 b ∨ b ∈ fa) := fun i b hb z => z.elim (S2.fpF i b hb).1 (P2.disv i b hb)
  refine k v H1 (fun b => F2 b ∨ b ∈ fa) fp2 [] (S2.step (fun _ h => .inl h) hn (fun _ _ e => e) fun b hb => hb.elim (S2.trk b) fun z => (of b z).2) ?_ ?_
  · show TRep _ _ _ _ _ _
    simp only [TRep, true_and]
    exact TRep.fz (fun _ h => .inl h) t v fa (fun _ h => .inr h) tr2
  · exact ⟨fun b h => .inl (P2.sub b h), fun b h => h.elim (P2.new b) fun z => (P2.freshv b z).elim (fun z => .inr (.inl z)) fun z => .inr (.inr z), P2.keep, P2.there, P2.fresh, fun b h => (nomatch h), fun i b h z => (nomatch z), List.nodup_nil⟩
/-! ### slices, built-ins -/
theorem slice2 {R : V → Option Int → Option Int → Hp → Prop} {tl th : TO} {lo hi : Option Int} (S : SR X.K iov [] F H σ ρ fp) : True := trivial
theorem s_blt (hc : X.calm = true) (hu : X.A.units + 65 < cLine) (gd : X.A.guards = some []) {f : Blt} {ts : List T} {p : Pos} {nm : Str} (en : nm = bltN f) (hg : Gl X nm) (hm : X.mg nm = none) (hp : plainE e = true) (hps : (backTo pos (starEach es X.env)).any (·.1) = false) (ha : PA X (e :: es) (tA X.K iov ρ as ρ1 wa)) (hr : Mv.resolves ρ1 as = some ts) (h : appB f ts = some t) (hf : isTy f = none) :
    PE X (.Call (.Name nm p) (e :: es) [] pos) (tE X.K iov ρ (.t t) ρ1 wa) := by
  subst en
  have hv := bltV_boot f
  have go : ∀ r : List V → Hp → VK → Prop, (∀ vs H Q, r vs H Q = CB X.K ts t vs H Q) → PE X (.Call (.Name (bltN f) p) (e :: es) [] pos) (tCB r (tA X.K iov ρ as ρ1 wa)) → PE X (.Call (.Name (bltN f) p) (e :: es) [] pos) (tE X.K iov ρ (.t t) ρ1 wa) := fun r er hpe => by
    refine PE.imp' hpe ?_
    rintro σ H Q ⟨F, fp, S, k⟩
    refine ⟨F, fp, S, fun vs H1 F1 fp1 fa S1 V1 P1 => ?_⟩
    show r vs H1 Q
    rw [er]
    obtain ⟨g1, r1⟩ := S1.rslvs hr V1
    refine ⟨F1, g1, S1.trk, r1, fun v H' pr => ?_⟩
    obtain ⟨F', fpv, S', tr, P'⟩ := S1.pure pr
    exact k v H' F' fp1 fpv S' tr (P1.fin V1.fps P')
  have hn : bltN f ≠ "__name__" := by cases f <;> decide
  have hdb : (bltN f == ("__debug__" : Str)) = false := by cases f <;> decide
  have key := call_appB hc hu gd h hf
  cases hvv : bltV f with
  | builtin id =>
    rw [hvv] at hv key
    exact go _ (fun _ _ _ => rfl) (pe_callB key hg hm hv ha hn hdb (star_plain hp _) hps)
  | type T =>
    rw [hvv] at hv key
    exact go _ (fun _ _ _ => rfl) (pe_callTy key hg hm hv ha hn hdb (star_plain hp _) hps)
  | _ => cases f <;> cases hvv
end
end Mv

end
section
/-! Slices, isinstance, the promise of a def and its call. -/
namespace Mv
open PySem PySem.Spec PyProof.Rows L2
def tO (K : PySem.W.Frag) (iov : Nat → Option V) (ρ : Env) (l : Option Int) (ρ' : Env) (wr : Bool) : TO := fun σ H Q => ∃ F fp, SR K iov [] F H σ ρ fp ∧
  ∀ H' F' fp', SR K iov [] F' H' σ ρ' fp' → Post F H fp F' H' fp' [] wr → Q l H'
section
variable {X : Cx} {iov : Nat → Option V} {F F1 F2 F' : Addr → Prop} {H H1 H2 H' : Hp} {fp fp1 fp2 fp' : Fp} {fa fb fx fpv : List Addr} {t x y : T} {v vx vy : V} {b : Bool} {ρ ρ1 ρ2 ρ3 ρ' : Env} {wr wa wb wc : Bool} {va vb vc : Val} {σ : L2.St} {e e1 e2 e3 : Expr} {es : List Expr} {pos : Pos} {as : List Val}
theorem PO.imp' {X : Cx} {e : Option Expr} {t t' : TO} (h : PO X e t) (k : ∀ σ H Q, t' σ H Q → t σ H Q) : PO X e t' := ⟨fun pins s σ H Q I q => h.run pins s σ H Q I (k _ _ _ q)⟩
theorem o_none : PO X none (tO X.K iov ρ none ρ false) := PO.imp' po_none fun σ H Q ⟨F, fp, S, k⟩ => k H F fp S (.refl S)
theorem o_some {i : Int} (ha : PE X e (tE X.K iov ρ (.t (.fz (.int i))) ρ1 wa)) : PO X (some e) (tO X.K iov ρ (some i) ρ1 wa) :=
  PO.imp' (po_some ha) fun σ H Q ⟨F, fp, S, k⟩ => ⟨F, fp, S, fun v H1 F1 fp1 fa S1 V1 P1 => ⟨i, trep_int V1, k H1 F1 fp1 S1 P1.drop0⟩⟩
theorem s_sl {lo hi : Option Expr} {l h : Option Int} {p2 : Pos} (ha : PE X e (tE X.K iov ρ va ρ1 wa)) (hl : PO X lo (tO X.K iov ρ1 l ρ2 wb)) (hh : PO X hi (tO X.K iov ρ2 h ρ3 wc)) (st : stands va (wb || wc) = true) (rx : Mv.resolve ρ3 va = some x) (hs : slT x l h = some t) :
    PE X (.Subscript e (.Slice lo hi none p2) pos) (tE X.K iov ρ (.t t) ρ3 (wa || (wb || wc))) := by
  refine PE.imp' (pe_slice (op_slT trivial hs) ha hl hh) ?_
  rintro σ H Q ⟨F, fp, S, k⟩
  have st1 : stands va wb = true := by cases va with | t _ => rfl | pt i l => cases l <;> cases wb <;> simp_all [stands]
  have st2 : stands va wc = true := by cases va with | t _ => rfl | pt i l => cases l <;> cases wc <;> simp_all [stands]
  refine ⟨F, fp, S, fun vx H1 F1 fp1 fa S1 V1 P1 => ⟨F1, fp1, S1, fun H2 F2 fp2 S2 P2 => ⟨F2, fp2, S2, fun H3 F3 fp3 S3 P3 => ?_⟩⟩⟩
  have V1' := V1.step P2 (fun i b hb => (S1.fpF i b hb).1) P1.disv st1
  have P12 := P1.trans P2 V1.fps
  rw [List.append_nil] at P12
  have V1'' := V1'.step P3 (fun i b hb => (S2.fpF i b hb).1) P12.disv st2
  have P := P12.trans P3 V1'.fps
  obtain ⟨g1, r1⟩ := S3.rslv rx V1''
  refine ⟨rfl, rfl, F3, g1, S3.trk, r1, fun v H' pr => ?_⟩
  obtain ⟨F', fpv, S', tr, P'⟩ := S3.pure pr
  refine k v H' F' fp3 fpv S' tr ((P.fin ?_ P').sizes (by cases wa <;> cases wb <;> rfl))
  rw [List.append_nil]
  exact V1''.fps
/-! ### isinstance -/
def tyOf : T → Option String
  | .fz .none => some "NoneType" | .fz (.bool _) => some "bool" | .fz (.int _) => some "int" | .fz (.str _) => some "str"
  | .fz (.list _) => some "list" | .fz (.tup _) => some "tuple" | .fz (.dict _ _) => some "dict" | .lst _ => some "list" | .tup _ => some "tuple" | .dct _ _ => some "dict"
theorem tyX_rep {x : T} (h : TRep X.K F H v x fa) : ∃ n, tyOf x = some n ∧ TyX X.K H v (.type n) := by
  cases x with
  | fz d =>
    cases d with
    | none => rw [trep_none h]; exact ⟨_, rfl, .base .non⟩
    | bool b => rw [trep_bool h]; exact ⟨_, rfl, .base (.bl b)⟩
    | int i => rw [trep_int h]; exact ⟨_, rfl, .base (.int i)⟩
    | str i => rw [trep_str h]; exact ⟨_, rfl, .base (.str i)⟩
    | list ds =>
      simp only [TRep, RepD] at h
      obtain ⟨_, a, vs, rfl, ⟨_, hl | ⟨o, hl⟩⟩ | ⟨o, its, n, h1, h2, _⟩, _⟩ := h
      · exact ⟨_, rfl, .base (.lst hl)⟩
      · exact ⟨_, rfl, .base (.frz hl)⟩
      · exact ⟨_, rfl, .kList h1 h2⟩
    | tup ds =>
      simp only [TRep, RepD] at h
      obtain ⟨_, a, vs, rfl, ⟨_, hl | ⟨o, hl⟩⟩ | ⟨o, its, n, h1, h2, _⟩, _⟩ := h
      · exact ⟨_, rfl, .base (.tup hl)⟩
      · exact ⟨_, rfl, .fTuple hl⟩
      · exact ⟨_, rfl, .kTuple h1 h2⟩
    | dict ks ds =>
      simp only [TRep, RepD] at h
      obtain ⟨_, a, vs, rfl, _, h1, _⟩ := h
      exact ⟨_, rfl, .base (.dK h1)⟩
  | lst ts => simp only [TRep] at h; obtain ⟨a, vs, _, rfl, _, _, h1, _⟩ := h; exact ⟨_, rfl, .base (.lst h1)⟩
  | tup ts => simp only [TRep] at h; obtain ⟨a, vs, _, rfl, _, _, h1, _⟩ := h; exact ⟨_, rfl, .base (.tup h1)⟩
  | dct ks ts => simp only [TRep] at h; obtain ⟨a, vs, _, rfl, _, _, h1, _⟩ := h; exact ⟨_, rfl, .base (.dK h1)⟩
theorem isTy_kit {f : Blt} {T n : String} (hT : isTy f = some T) (hn : tyOf x = some n) : ∃ b, appB f [x] = some (.fz (.bool b)) ∧ kitB n T = some b := by
  cases f <;> simp [isTy] at hT <;> subst hT <;> cases x <;> (try (rename_i d; cases d)) <;> simp [tyOf] at hn <;> subst hn <;> first | exact ⟨true, rfl, by decide +kernel⟩ | exact ⟨false, rfl, by decide +kernel⟩
theorem s_isi {f : Blt} {T : String} {nm : Str} {p p2 : Pos} (hT : isTy f = some T) (hv : bootBuiltins nm = some (.type T)) (hg : Gl X "isinstance") (hm : X.mg "isinstance" = none) (hg2 : Gl X nm) (hm2 : X.mg nm = none) (hn2 : nm ≠ "__name__") (hd2 : (nm == ("__debug__" : Str)) = false) (hp : plainE e = true)
    (ha : PE X e (tE X.K iov ρ va ρ1 wa)) (rx : Mv.resolve ρ1 va = some x) (h : appB f [x] = some t) : PE X (.Call (.Name "isinstance" p) [e, .Name nm p2] [] pos) (tE X.K iov ρ (.t t) ρ1 wa) := by
  refine PE.imp' (pe_callB call_isi hg hm boot_isinstance (pa_cons ha (pa_cons (pe_bltn hg2 hm2 hv (show RelV (.ty T) (.type T) from rfl) hn2 hd2) pa_nil rfl) (star_plain hp _)) (by decide) (by decide) (star_plain hp _) rfl) ?_
  rintro σ H Q ⟨F, fp, S, k⟩
  refine ⟨F, fp, S, fun v H1 F1 fp1 fa S1 V1 P1 => ?_⟩
  obtain ⟨g1, r1⟩ := S1.rslv rx V1
  obtain ⟨n, e1, ty⟩ := tyX_rep r1
  obtain ⟨b, e2, kt⟩ := isTy_kit hT e1
  rw [e2] at h; cases h
  exact ⟨v, .ty T, .type n, .type T, b, rfl, .ty T, ty, kit_ty kt, k _ H1 F1 fp1 [] S1 (vr_bool S1) P1.drop0⟩
/-! ### the promise of a def -/
/-- the arguments that are changed -/
def pick : List Bool → List V → List V
  | true :: io, v :: vs => v :: pick io vs
  | false :: io, _ :: vs => pick io vs
  | _, _ => []
def spF (K : PySem.W.Frag) (f : Fn) : Sp := fun vs H Q _ => vs.length = f.io.length ∧ ∃ F ts fpa t ios, TReps K F H vs ts fpa ∧ fpa.Nodup ∧ (∀ b, F b → H b ≠ none) ∧ f.run ts = some (t, ios) ∧
  ∀ v H' F' fpv fpi, (∀ b, F b → F' b) → (∀ b, F' b → F b ∨ b ∈ fpa ∨ H b = none) → (∀ b o, H b = some o → b ∉ fpa → H' b = some o) → (∀ b, H b ≠ none → H' b ≠ none) → (∀ b, F' b → H' b ≠ none) →
    TRep K F' H' v t fpv → TReps K F' H' (pick f.io vs) ios fpi → (fpv ++ fpi).Nodup → (∀ b ∈ fpv ++ fpi, b ∈ fpa ∨ H b = none) → Q v H'
/-- a def keeps its promise wherever no repr runs around it -/
structure FnG (P : Program) (w : World) (K : PySem.W.Frag) (mg : Str → Option Value) (base : Heap) (k : Nat) (f : Addr) (fd : FuncData) (ps : List Str) (sp : Sp) : Prop where
  len : ∀ vs H Q E, sp vs H Q E → vs.length = ps.length
  run : ∀ (A : Around) (outer : List PySem.Env) (s : Shared) (H : Hp) (args : Args) (us : List Value) (vs : List V) (Q : VK) (E : XK), A.guards = some [] → Room k A → Env0 P w K mg base A outer s H → BindsTo s fd args (ps.zip us) → Vals vs us → sp vs H Q E →
    codeAny (model P w) A (.call (.ref f) args) (CR CX0 outer P w H s Q E) s
theorem FnG.mono {P : Program} {w : World} {K : PySem.W.Frag} {mg : Str → Option Value} {base : Heap} {j k : Nat} {f : Addr} {fd : FuncData} {ps : List Str} {sp : Sp} (F : FnG P w K mg base j f fd ps sp) (h : j ≤ k) : FnG P w K mg base k f fd ps sp :=
  ⟨F.len, fun A outer s H args us vs Q E hg hr => F.run A outer s H args us vs Q E hg (hr.mono h)⟩
/-- a def of the module, to be called -/
def permL {α : Type} (perm : List Nat) (vs : List α) : List α := perm.filterMap fun i => vs[i]?
abbrev Kbs := List (List Str × List Nat)
def BindsAll (fd : FuncData) (ps : List Str) (kb : Kbs) : Prop := (∀ us : List Value, us.length = ps.length → bindArgs fd ⟨us, []⟩ = pure (ps.zip us)) ∧
  ∀ q ∈ kb, ∀ us : List Value, us.length = q.1.length → bindArgs fd ⟨[], q.1.zip us⟩ = pure (ps.zip (permL q.2 us))
structure FnAt (X : Cx) (nm : Str) (ps : List Str) (kb : Kbs) (f : Fn) : Prop where
  ex : ∃ (a : Addr) (fd : FuncData) (k : Nat), X.mg nm = some (.ref a) ∧ PySem.W.keepIn X.K (.ref a) = true ∧ Room k X.A ∧ BindsAll fd ps kb ∧ FnG X.prog X.w X.K X.mg X.base k a fd ps (spF X.K f)
  io : f.io.length = ps.length
theorem e_call {nm : Str} {ps : List Str} {kb : Kbs} {f : Fn} {p : Pos} {ta : TA} (F : FnAt X nm ps kb f) (gd : X.A.guards = some []) (hg : Gl X nm) (hdb : (nm == ("__debug__" : Str)) = false) (he : starEach (e :: es) X.env = (false, eval e X.env) :: starEach es X.env) (hpl : (backTo pos (starEach es X.env)).any (·.1) = false) (ha : PA X (e :: es) ta) :
    PE X (.Call (.Name nm p) (e :: es) [] pos) (fun σ H Q => ta σ H fun vs H1 => spF X.K f vs H1 Q E0) := by
  obtain ⟨a, fd, k, h1, h2, hr, hb, G⟩ := F.ex
  refine ⟨fun pins s σ H Q I h => ?_⟩
  refine wpAny_Call_Name_kw (ld_glob I hg h1 ?_ hdb)
  refine PySem.W.callWith_K (h₀ := X.base) I.ok.mod.kin h2 (thn (ha.run pos pins s σ H _ I h) fun us s1 ⟨vs, H1, I1, r, q⟩ => ⟨I1.kIn, ?_⟩) he hpl
  have hl : us.length = ps.length := r.length ▸ G.len _ _ _ _ q
  refine wpAny_call (codeAny_mono (G.run X.A X.stack s1 H1 ⟨us, []⟩ us vs Q E0 gd hr I1.env0 (.of_eq (hb.1 us hl)) r q) fun r' s' hq => ?_)
  cases r' with
  | error e' => exact hq.elim
  | ok fl =>
    cases fl with
    | ret u => exact I1.after hq
    | next => exact hq.elim
    | brk => exact hq.elim
    | cont => exact hq.elim
theorem e_callk {nm : Str} {ps : List Str} {kb : Kbs} {f : Fn} {p : Pos} {ta : TA} {kws : List Keyword} {ks : List Str} {perm : List Nat} (F : FnAt X nm ps kb f) (gd : X.A.guards = some []) (hg : Gl X nm) (hdb : (nm == ("__debug__" : Str)) = false) (hq : (ks, perm) ∈ kb) (hkw : PK X kws ta) (hks : kws.map (·.arg) = ks.map some) (hkl : kws.length = ks.length)
    (hpn : ∀ i ∈ perm, i < ks.length) : PE X (.Call (.Name nm p) [] kws pos) (fun σ H Q => ta σ H fun vs H1 => vs.length = ks.length ∧ spF X.K f (permL perm vs) H1 Q E0) := by
  obtain ⟨a, fd, k, h1, h2, hr, hb, G⟩ := F.ex
  have nms : ∀ (kws : List Keyword) (ks : List Str), kws.map (·.arg) = ks.map some → (backToKw pos (keywordEach kws X.env)).all (·.1.isSome) = true ∧ (backToKw pos (keywordEach kws X.env)).filterMap (·.1) = ks ∧ (backToKw pos (keywordEach kws X.env)).any (·.1.isNone) = false := by
    intro kws
    induction kws with
    | nil =>
      intro ks h
      cases ks with
      | nil => exact ⟨rfl, rfl, rfl⟩
      | cons _ _ => simp at h
    | cons kw kws ih =>
      intro ks h
      cases ks with
      | nil => simp at h
      | cons k ks =>
        simp only [List.map_cons, List.cons.injEq] at h
        obtain ⟨q1, q2, q3⟩ := ih ks h.2
        obtain ⟨n, v, pp⟩ := kw
        obtain rfl : n = some k := h.1
        have e : backToKw pos (keywordEach (⟨some k, v, pp⟩ :: kws) X.env) = (some k, do let v ← eval v X.env; standAt pos; pure v) :: backToKw pos (keywordEach kws X.env) := rfl
        rw [e]
        exact ⟨by simp [q1], by simp [q2], by simp [q3]⟩
  obtain ⟨n1, n2, n3⟩ := nms kws ks hks
  refine ⟨fun pins s σ H Q I h => ?_⟩
  refine wpAny_Call_Name_kw (ld_glob I hg h1 ?_ hdb)
  refine PySem.W.callWith_KW0 (h₀ := X.base) I.ok.mod.kin h2 n1 (thn (hkw.run pos pins s σ H _ I h) fun us s1 ⟨vs, H1, I1, r, hlv, q⟩ => ⟨I1.kIn, ?_⟩) (by rw [n3]; rfl)
  rw [n2]
  have hl : us.length = ks.length := r.length ▸ hlv
  have rp : Vals (permL perm vs) (permL perm us) := by
    have : ∀ (perm : List Nat), (∀ i ∈ perm, i < ks.length) → Vals (permL perm vs) (permL perm us) := by
      intro perm
      induction perm with
      | nil => intro _; exact .nil
      | cons i is ih =>
        intro hp
        have hi : i < vs.length := by rw [hlv]; exact hp i (by simp)
        have e1 : vs[i]? = some vs[i] := List.getElem?_eq_getElem hi
        obtain ⟨u, hu, ru⟩ := r.get e1
        have z1 : permL (i :: is) vs = vs[i] :: permL is vs := by simp [permL, List.filterMap_cons, e1]
        have z2 : permL (i :: is) us = u :: permL is us := by simp [permL, List.filterMap_cons, hu]
        rw [z1, z2]
        exact .cons ru (ih fun j hj => hp j (by simp [hj]))
    exact this perm hpn
  refine wpAny_call (codeAny_mono (G.run X.A X.stack s1 H1 ⟨[] ++ [], ks.zip us⟩ (permL perm us) (permL perm vs) Q E0 gd hr I1.env0 (.of_eq (hb.2 _ hq us hl)) rp q) fun r' s' hq => ?_)
  cases r' with
  | error e' => exact hq.elim
  | ok fl =>
    cases fl with
    | ret u => exact I1.after hq
    | next => exact hq.elim
    | brk => exact hq.elim
    | cont => exact hq.elim
/-- keywords, read as arguments -/
theorem k_nil : PK X [] (tA X.K iov ρ [] ρ false) := ⟨fun pos pins s σ H Q I ⟨F, fp, S, k⟩ => (pk_nil (X := X)).run pos pins s σ H Q I (k [] H F fp [] S rfl (.refl S))⟩
theorem k_cons {nm : Option Str} {kp : Pos} {kws : List Keyword} (ha : PE X e (tE X.K iov ρ va ρ1 wa)) (hb : PK X kws (tA X.K iov ρ1 as ρ2 wb)) (st : stands va wb = true) : PK X (⟨nm, e, kp⟩ :: kws) (tA X.K iov ρ (va :: as) ρ2 (wa || wb)) :=
  ⟨fun pos pins s σ H Q I ⟨F, fp, S, k⟩ => (pk_cons ha hb).run pos pins s σ H Q I ⟨F, fp, S, fun vx H1 F1 fp1 fa S1 V1 P1 => ⟨F1, fp1, S1, fun vs H2 F2 fp2 fb S2 V2 P2 => k (vx :: vs) H2 F2 fp2 (fa ++ fb) S2 ⟨fa, fb, rfl, V1.step P2 (fun i b hb => (S1.fpF i b hb).1) P1.disv st, V2⟩ (P1.trans P2 V1.fps)⟩⟩⟩
end
end Mv

end
section
/-! A call of a def of the module. -/
namespace Mv
open PySem PySem.Spec PyProof.Rows L2
section
variable {X : Cx} {K : PySem.W.Frag} {iov : Nat → Option V} {F F1 F2 F' Fc : Addr → Prop} {H H1 H2 H' : Hp} {fp fp1 fp2 fp' : Fp} {fa fb fx fpv : List Addr} {t x y : T} {v vx vy : V} {b : Bool} {ρ ρ1 ρ2 ρ3 ρ' : Env} {wr wa wb wc : Bool} {va vb vc : Val} {σ : L2.St} {e e1 e2 e3 : Expr} {es : List Expr} {pos : Pos} {as : List Val}
theorem argTs_len : ∀ {io : List Bool} {as : List Val} {ts : List T}, argTs ρ io as = some ts → as.length = io.length
  | [], [], _, _ => rfl
  | [], _ :: _, _, h => by simp [argTs] at h
  | true :: io, [], _, h => by simp [argTs] at h
  | false :: io, [], _, h => by simp [argTs] at h
  | true :: io, a :: as, ts, h => by
    cases a with
    | t u => simp [argTs] at h
    | pt i k =>
      cases k with
      | some k => simp [argTs] at h
      | none =>
        simp only [argTs] at h
        split at h
        · rename_i t0 ts0 e1 e2
          simp [argTs_len e2]
        · cases h
  | false :: io, a :: as, ts, h => by
    simp only [argTs] at h
    split at h
    · rename_i t0 ts0 e1 e2
      simp [argTs_len e2]
    · cases h
theorem args_rep (S : SR K iov [] F H σ ρ fp) (hF : ∀ b, F b → Fc b) : ∀ {io : List Bool} {as : List Val} {vs : List V} {fa : List Addr} {ts : List T}, VRs K F H σ as vs fa → argTs ρ io as = some ts →
    (∀ i ∈ rdSlots io as, ∀ b ∈ fp i, Fc b) → (∀ b ∈ fa, Fc b) → (∀ i ∈ ioSlots io as, ∀ b ∈ fp i, ¬ Fc b) → (ioSlots io as).Nodup →
    ∃ fpa, TReps K Fc H vs ts fpa ∧ (∀ b ∈ fpa, ∃ i ∈ ioSlots io as, b ∈ fp i) ∧ fpa.Nodup
  | [], [], [], fa, ts, _, h, _, _, _, _ => by
    simp only [argTs, Option.some.injEq] at h
    subst h
    exact ⟨[], by simp only [TReps], fun b hb => (nomatch hb), List.nodup_nil⟩
  | [], [], _ :: _, _, _, h, _, _, _, _, _ => h.elim
  | _, _ :: _, [], _, _, h, _, _, _, _, _ => h.elim
  | [], _ :: _, _, _, _, _, h, _, _, _, _ => by simp [argTs] at h
  | true :: io, [], _, _, _, _, h, _, _, _, _ => by simp [argTs] at h
  | false :: io, [], _, _, _, _, h, _, _, _, _ => by simp [argTs] at h
  | true :: io, a :: as, v :: vs, fa, ts, hv, h, hrd, hfa, hio, hnd => by
    cases a with
    | t u => simp [argTs] at h
    | pt i k =>
      cases k with
      | some k => simp [argTs] at h
      | none =>
        simp only [argTs] at h
        split at h
        · rename_i t0 ts0 e1 e2
          cases h
          obtain ⟨f1, f2, rfl, r1, r2⟩ := hv
          simp only [ioSlots, List.nodup_cons] at hio hnd
          have hrd' : ∀ j ∈ rdSlots io as, ∀ b ∈ fp j, Fc b := hrd
          obtain ⟨fpa, q1, q2, q3⟩ := args_rep S hF r2 e2 hrd' (fun b hb => hfa b (List.mem_append_right _ hb)) (fun j hj => hio j (List.mem_cons_of_mem _ hj)) hnd.2
          obtain ⟨v', hv', tr⟩ := S.slT e1
          have rv := r1.2
          rw [hv'] at rv; cases rv
          refine ⟨fp i ++ fpa, ?_, fun b hb => ?_, List.nodup_append.mpr ⟨S.nod i, q3, fun b hb c hc e => ?_⟩⟩
          · simp only [TReps]
            exact ⟨fp i, fpa, rfl, TRep.mono hF _ _ _ (hio i List.mem_cons_self) (fun _ _ _ e => e) tr, q1⟩
          · rcases List.mem_append.mp hb with hb | hb
            · exact ⟨i, List.mem_cons_self, hb⟩
            · obtain ⟨j, hj, z⟩ := q2 b hb
              exact ⟨j, List.mem_cons_of_mem _ hj, z⟩
          · subst e
            obtain ⟨j, hj, z⟩ := q2 b hc
            have := S.dis i j b hb z
            subst this
            exact hnd.1 hj
        · cases h
  | false :: io, a :: as, v :: vs, fa, ts, hv, h, hrd, hfa, hio, hnd => by
    simp only [argTs] at h
    split at h
    · rename_i t0 ts0 e1 e2
      cases h
      obtain ⟨f1, f2, rfl, r1, r2⟩ := hv
      have hio' : ioSlots (false :: io) (a :: as) = ioSlots io as := by cases a <;> rfl
      rw [hio'] at hio hnd
      have hrd' : ∀ j ∈ rdSlots io as, ∀ b ∈ fp j, Fc b := fun j hj => hrd j (by cases a with | t u => exact hj | pt i k => exact List.mem_cons_of_mem _ hj)
      obtain ⟨fpa, q1, q2, q3⟩ := args_rep S hF r2 e2 hrd' (fun b hb => hfa b (List.mem_append_right _ hb)) hio hnd
      refine ⟨fpa, ?_, by rw [hio']; exact q2, q3⟩
      simp only [TReps]
      refine ⟨[], fpa, rfl, ?_, q1⟩
      simp only [TRep, true_and]
      cases a with
      | t u =>
        cases e1
        exact TRep.fz hF _ _ _ (fun b hb => hfa b (List.mem_append_left _ hb)) r1
      | pt i k =>
        obtain ⟨g1, gq, g3, eg, tr⟩ := S.gtPt e1 r1
        exact TRep.fz hF _ _ _ (fun b hb => hrd i List.mem_cons_self b (by rw [eg]; simp [hb])) tr
    · cases h
theorem killAll_get (i : Nat) : ∀ (is : List Nat) (ρ : Env), (∀ t, (killAll ρ is)[i]? = some (Slot.ow t) ↔ ρ[i]? = some (Slot.ow t)) ∧ (∀ t, (killAll ρ is)[i]? = some (Slot.io t) ↔ ρ[i]? = some (Slot.io t)) ∧ (∀ j k, (killAll ρ is)[i]? = some (Slot.al j k) → ρ[i]? = some (Slot.al j k) ∧ j ∉ is) ∧ ((killAll ρ is)[i]? = none ↔ ρ[i]? = none)
  | [], ρ => ⟨fun _ => .rfl, fun _ => .rfl, fun _ _ h => ⟨h, by simp⟩, .rfl⟩
  | m :: is, ρ => by
    obtain ⟨a, b, c, d⟩ := killAll_get i is ρ
    unfold killAll
    refine ⟨fun t => ?_, fun t => ?_, fun j k h => ?_, ?_⟩
    · rw [kills_get, ← a t]
      cases h : (killAll ρ is)[i]? with
      | none => simp
      | some s => cases s <;> simp [kill] <;> split <;> simp
    · rw [kills_get, ← b t]
      cases h : (killAll ρ is)[i]? with
      | none => simp
      | some s => cases s <;> simp [kill] <;> split <;> simp
    · rw [kills_get] at h
      cases h' : (killAll ρ is)[i]? with
      | none => rw [h'] at h; cases h
      | some s =>
        rw [h'] at h
        have h2 := kill_al (Option.some.inj h)
        obtain ⟨q1, q2⟩ := c j k (by rw [h', h2.1])
        exact ⟨q1, fun z => (List.mem_cons.mp z).elim (fun z => h2.2 ⟨z, .inl rfl⟩) q2⟩
    · rw [kills_get, ← d]; simp
theorem killAll_len : ∀ (is : List Nat) (ρ : Env), (killAll ρ is).length = ρ.length
  | [], _ => rfl
  | i :: is, ρ => by unfold killAll kills; rw [List.length_map, killAll_len is ρ]
/-- the changed arguments come back, one after another -/
theorem putIo_ok : ∀ {io : List Bool} {as : List Val} {vs : List V} {ios : List T} {fpi : List Addr} {ρ ρ' : Env} {fp : Fp} {fa : List Addr} {Fa : Addr → Prop} {Ha : Hp}, SR K iov (ioSlots io as) F H σ ρ fp → (ioSlots io as).Nodup → putIo ρ io as ios = some ρ' → VRs K Fa Ha σ as vs fa → TReps K F H (pick io vs) ios fpi → fpi.Nodup →
    (∀ i b, b ∈ fp i → b ∉ fpi) → (∀ i ∈ ioSlots io as, ∀ u v, ρ[i]? = some (Slot.io u) → σ[i]? = some (some v) → iov i = some v) → (∀ (m j l : Nat), ρ[m]? = some (Slot.al j l) → j ∉ ioSlots io as) →
    ∃ fp', SR K iov [] F H σ ρ' fp' ∧ ∀ i b, b ∈ fp' i → b ∈ fp i ∨ b ∈ fpi
  | [], [], vs, ios, fpi, ρ, ρ', fp, fa, Fa, Ha, S, _, h, _, r, _, _, _, _ => by
    cases ios with
    | nil => simp only [putIo, Option.some.injEq] at h; subst h; exact ⟨fp, S, fun i b hb => .inl hb⟩
    | cons t ts => simp [putIo] at h
  | [], _ :: _, _, _, _, _, _, _, _, _, _, _, _, h, _, _, _, _, _, _ => by simp [putIo] at h
  | true :: io, [], _, _, _, _, _, _, _, _, _, _, _, h, _, _, _, _, _, _ => by simp [putIo] at h
  | false :: io, [], _, _, _, _, _, _, _, _, _, _, _, h, _, _, _, _, _, _ => by simp [putIo] at h
  | true :: io, a :: as, [], _, _, _, _, _, _, _, _, _, _, _, h, _, _, _, _, _ => h.elim
  | false :: io, a :: as, [], _, _, _, _, _, _, _, _, _, _, _, h, _, _, _, _, _ => h.elim
  | false :: io, a :: as, v :: vs, ios, fpi, ρ, ρ', fp, fa, Fa, Ha, S, nd, h, hv, r, ni, di, hio, hal => by
    have hio' : ioSlots (false :: io) (a :: as) = ioSlots io as := by cases a <;> rfl
    rw [hio'] at S nd hio hal
    obtain ⟨f1, f2, rfl, r1, r2⟩ := hv
    have h' : putIo ρ io as ios = some ρ' := by cases a <;> exact h
    exact putIo_ok S nd h' r2 r ni di hio hal
  | true :: io, a :: as, v :: vs, ios, fpi, ρ, ρ', fp, fa, Fa, Ha, S, nd, h, hv, r, ni, di, hio, hal => by
    obtain ⟨f1, f2, rfl, r1, r2⟩ := hv
    cases a with
    | t u => simp [putIo] at h
    | pt i k =>
      cases k with
      | some k => simp [putIo] at h
      | none =>
        cases ios with
        | nil => simp [putIo] at h
        | cons t ts =>
          simp only [putIo] at h
          obtain ⟨ρ1, e1, e2⟩ := Option.bind_eq_some_iff.mp h
          simp only [ioSlots] at S nd hio hal
          simp only [pick, TReps] at r
          obtain ⟨g1, g2, rfl, t1, t2⟩ := r
          have hσ : σ[i]? = some (some v) := r1.2
          have nd' := List.nodup_cons.mp nd
          have ni' := List.nodup_append.mp ni
          have S1 := S.setSlot (i := i) (y := t) (fq := g1) (v := v) (F' := F) (H' := H) e1 hσ (fun u hu => hio i List.mem_cons_self u v hu hσ) (fun _ h => h) (fun j b _ hb => (S.fpF j b hb).1) (fun _ _ _ e => e) S.trk t1 ni'.1 (fun j b _ hb z => di j b hb (List.mem_append_left _ z))
            (fun m j l v' a vs q1 q2 q3 q4 q5 q6 => ⟨vs, q4, q5, q6.imp id fun z => by
              by_cases hj : j = i
              · subst hj; exact absurd List.mem_cons_self q2
              · rw [updF_ne hj]; exact z⟩) (fun m l q => hal m i l q)
          have ef : (i :: ioSlots io as).filter (· ≠ i) = ioSlots io as := by
            rw [List.filter_cons_of_neg (by simp)]
            exact List.filter_eq_self.mpr fun x hx => by simp; exact fun z => nd'.1 (z ▸ hx)
          rw [ef] at S1
          have keepS : ∀ m, m ≠ i → ρ1[m]? = ρ[m]? := fun m hm => by
            rcases setSlotT_eq e1 with ⟨_, rfl⟩ | ⟨_, rfl⟩ <;> rw [List.getElem?_set_ne (Ne.symm hm)]
          obtain ⟨fp', q1, q2⟩ := putIo_ok S1 nd'.2 e2 r2 t2 ni'.2.1 (fun j b hb z => by
              by_cases hj : j = i
              · subst hj; rw [updF_same] at hb; exact ni'.2.2 b hb b z rfl
              · rw [updF_ne hj] at hb; exact di j b hb (List.mem_append_right _ z))
            (fun j hj u w e3 e4 => hio j (List.mem_cons_of_mem _ hj) u w (by rw [← keepS j fun z => nd'.1 (z ▸ hj)]; exact e3) e4)
            (fun m j l q z => by
              by_cases hm : m = i
              · subst hm
                rcases setSlotT_eq e1 with ⟨⟨u, hu⟩, rfl⟩ | ⟨⟨u, hu⟩, rfl⟩ <;> rw [List.getElem?_set_self (List.getElem?_eq_some_iff.mp hu).1] at q <;> cases q
              · exact hal m j l (by rw [← keepS m hm]; exact q) (List.mem_cons_of_mem _ z))
          refine ⟨fp', q1, fun j b hb => ?_⟩
          rcases q2 j b hb with hb | hb
          · by_cases hj : j = i
            · subst hj; rw [updF_same] at hb; exact .inr (List.mem_append_left _ hb)
            · rw [updF_ne hj] at hb; exact .inl hb
          · exact .inr (List.mem_append_right _ hb)
/-- what a change leaves where some temporaries were handed over -/
structure PostX (F : Addr → Prop) (H : Hp) (fp : Fp) (fa : List Addr) (F' : Addr → Prop) (H' : Hp) (fp' : Fp) (fpv : List Addr) : Prop where
  sub : ∀ b, F b → F' b
  new : ∀ b, F' b → F b ∨ (∃ i, b ∈ fp i) ∨ b ∈ fa ∨ H b = none
  keep : ∀ b o, H b = some o → (∀ i, b ∉ fp i) → H' b = some o
  there : ∀ b, H b ≠ none → H' b ≠ none
  fresh : ∀ i b, b ∈ fp' i → (∃ j, b ∈ fp j) ∨ b ∈ fa ∨ H b = none
  freshv : ∀ b, b ∈ fpv → (∃ j, b ∈ fp j) ∨ b ∈ fa ∨ H b = none
  disv : ∀ i b, b ∈ fp' i → b ∉ fpv
  nodv : fpv.Nodup
theorem Post.transX (P : Post F H fp F1 H1 fp1 fa wr) (Q : PostX F1 H1 fp1 fa F2 H2 fp2 fpv) : Post F H fp F2 H2 fp2 fpv true := by
  have nn : ∀ b, H1 b = none → H b = none := fun b z => by
    cases e : H b with
    | none => rfl
    | some o => exact absurd z (P.there b (by rw [e]; simp))
  have lift : ∀ b, ((∃ i, b ∈ fp1 i) ∨ b ∈ fa ∨ H1 b = none) → (∃ i, b ∈ fp i) ∨ H b = none := fun b h => by
    rcases h with ⟨i, h⟩ | h | h
    · exact P.fresh i b h
    · exact P.freshv b h
    · exact .inr (nn b h)
  refine ⟨fun b h => Q.sub b (P.sub b h), fun b h => ?_, fun b o e w => ?_, fun b h => Q.there b (P.there b h), fun i b h => lift b (Q.fresh i b h), fun b h => lift b (Q.freshv b h), Q.disv, Q.nodv⟩
  · rcases Q.new b h with h | h
    · exact P.new b h
    · exact .inr (lift b h)
  · rcases w with w | w
    · cases w
    · refine Q.keep b o (P.keep b o e (.inr w)) fun i hi => ?_
      rcases P.fresh i b hi with ⟨j, z⟩ | z
      · exact w j z
      · rw [e] at z; cases z
mutual
theorem noTup_fp : ∀ (t : T) (v : V) (fq : List Addr), T.noTup t = true → TRep K F H v t fq → ∀ b ∈ fq, ∃ o, H b = some o ∧ ∀ xs ob, o ≠ .tup xs ∧ o ≠ .frz ob (.tup xs)
  | .fz d, v, fq, _, h => by simp only [TRep] at h; rw [h.1]; intro b hb; cases hb
  | .lst ts, v, fq, e, h => by
    simp only [TRep] at h
    obtain ⟨a, vs, fr, rfl, rfl, nf, ha, hr⟩ := h
    intro b hb
    rcases List.mem_cons.mp hb with rfl | hb
    · exact ⟨_, ha, fun _ _ => ⟨(fun z => by cases z), (fun z => by cases z)⟩⟩
    · exact noTups_fp ts vs fr (by simpa only [T.noTup] using e) hr b hb
  | .tup ts, v, fq, e, h => by simp [T.noTup] at e
  | .dct ks ts, v, fq, e, h => by
    simp only [TRep] at h
    obtain ⟨a, vs, fr, rfl, rfl, nf, ha, _, _, hr⟩ := h
    intro b hb
    rcases List.mem_cons.mp hb with rfl | hb
    · exact ⟨_, ha, fun _ _ => ⟨(fun z => by cases z), (fun z => by cases z)⟩⟩
    · exact noTups_fp ts vs fr (by simpa only [T.noTup] using e) hr b hb
theorem noTups_fp : ∀ (ts : List T) (vs : List V) (fq : List Addr), T.noTups ts = true → TReps K F H vs ts fq → ∀ b ∈ fq, ∃ o, H b = some o ∧ ∀ xs ob, o ≠ .tup xs ∧ o ≠ .frz ob (.tup xs)
  | [], [], fq, _, h => by simp only [TReps] at h; rw [h]; intro b hb; cases hb
  | [], _ :: _, _, _, h => by simp only [TReps] at h
  | _ :: _, [], _, _, h => by simp only [TReps] at h
  | t :: ts, v :: vs, fq, e, h => by
    simp only [TReps] at h
    obtain ⟨f1, f2, rfl, h1, h2⟩ := h
    simp only [T.noTups, Bool.and_eq_true] at e
    intro b hb
    rcases List.mem_append.mp hb with hb | hb
    · exact noTup_fp t v f1 e.1 h1 b hb
    · exact noTups_fp ts vs f2 e.2 h2 b hb
end
/-- what is borrowed doesn't lie in what is immutable -/
def NoT (BR : Addr → Prop) (H : Hp) : Prop := ∀ b, BR b → ∃ o, H b = some o ∧ ∀ xs ob, o ≠ .tup xs ∧ o ≠ .frz ob (.tup xs)
theorem rd_not {BR : Addr → Prop} (hB : NoT BR H) {a : Addr} {xs : List V} (h : Rd H a (.tup xs)) : ¬ BR a := fun hb => by
  obtain ⟨o, e, q⟩ := hB a hb
  rcases h with h | ⟨ob, h⟩
  · rw [e] at h; cases h; exact (q xs default).1 rfl
  · rw [e] at h; cases h; exact (q xs ob).2 rfl
mutual
theorem imm_minus {BR : Addr → Prop} (hB : NoT BR H) : ∀ (d : D) (v : V), d.imm = true → RepD K F H v d → RepD K (fun b => F b ∧ ¬ BR b) H v d
  | .none, v, _, h => by simpa only [RepD] using h
  | .bool _, v, _, h => by simpa only [RepD] using h
  | .int _, v, _, h => by simpa only [RepD] using h
  | .str _, v, _, h => by simpa only [RepD] using h
  | .list _, v, e, h => by simp [D.imm] at e
  | .dict _ _, v, e, h => by simp [D.imm] at e
  | .tup ds, v, e, h => by
    simp only [RepD] at h ⊢
    obtain ⟨a, vs, rfl, hl, hr⟩ := h
    refine ⟨a, vs, rfl, ?_, imms_minus hB ds vs (by simpa only [D.imm] using e) hr⟩
    rcases hl with ⟨f, r⟩ | w
    · exact .inl ⟨⟨f, rd_not hB r⟩, r⟩
    · exact .inr w
theorem imms_minus {BR : Addr → Prop} (hB : NoT BR H) : ∀ (ds : List D) (vs : List V), D.imm.D.imms ds = true → RepDs K F H vs ds → RepDs K (fun b => F b ∧ ¬ BR b) H vs ds
  | [], [], _, h => by simp only [RepDs]
  | [], _ :: _, _, h => by simp only [RepDs] at h
  | _ :: _, [], _, h => by simp only [RepDs] at h
  | d :: ds, v :: vs, e, h => by
    simp only [RepDs] at h ⊢
    simp only [D.imm.D.imms, Bool.and_eq_true] at e
    exact ⟨imm_minus hB d v e.1 h.1, imms_minus hB ds vs e.2 h.2⟩
end
mutual
theorem timm_minus {BR : Addr → Prop} (hB : NoT BR H) : ∀ (t : T) (v : V) (fq : List Addr), t.imm = true → TRep K F H v t fq → TRep K (fun b => F b ∧ ¬ BR b) H v t fq
  | .fz d, v, fq, e, h => by simp only [TRep] at h ⊢; exact ⟨h.1, imm_minus hB d v (by simpa only [T.imm] using e) h.2⟩
  | .lst ts, v, fq, e, h => by
    simp only [TRep] at h ⊢
    obtain ⟨a, vs, fr, h1, h2, nf, ha, hr⟩ := h
    exact ⟨a, vs, fr, h1, h2, fun z => nf z.1, ha, timms_minus hB ts vs fr (by simpa only [T.imm] using e) hr⟩
  | .tup ts, v, fq, e, h => by
    simp only [TRep] at h ⊢
    obtain ⟨a, vs, fr, h1, h2, nf, ha, hr⟩ := h
    exact ⟨a, vs, fr, h1, h2, fun z => nf z.1, ha, timms_minus hB ts vs fr (by simpa only [T.imm] using e) hr⟩
  | .dct ks ts, v, fq, e, h => by
    simp only [TRep] at h ⊢
    obtain ⟨a, vs, fr, h1, h2, nf, ha, h3, h4, hr⟩ := h
    exact ⟨a, vs, fr, h1, h2, fun z => nf z.1, ha, h3, h4, timms_minus hB ts vs fr (by simpa only [T.imm] using e) hr⟩
theorem timms_minus {BR : Addr → Prop} (hB : NoT BR H) : ∀ (ts : List T) (vs : List V) (fq : List Addr), T.imms ts = true → TReps K F H vs ts fq → TReps K (fun b => F b ∧ ¬ BR b) H vs ts fq
  | [], [], _, _, h => by simpa only [TReps] using h
  | [], _ :: _, _, _, h => by simp only [TReps] at h
  | _ :: _, [], _, _, h => by simp only [TReps] at h
  | t :: ts, v :: vs, fq, e, h => by
    simp only [TReps] at h ⊢
    simp only [T.imms, Bool.and_eq_true] at e
    obtain ⟨f1, f2, h0, h1, h2⟩ := h
    exact ⟨f1, f2, h0, timm_minus hB t v f1 e.1 h1, timms_minus hB ts vs f2 e.2 h2⟩
end
theorem callF_sp {f : Fn} {vs : List V} {Q : VK} {E : XK} (S : SR K iov [] F H σ ρ fp) (V : VRs K F H σ as vs fa) (dv : ∀ i b, b ∈ fp i → b ∉ fa) (h : callF f ρ as = some (t, ρ'))
    (k : ∀ v H' F' fp' fpv, SR K iov [] F' H' σ ρ' fp' → TRep K F' H' v t fpv → PostX F H fp fa F' H' fp' fpv → Q v H') : spF K f vs H Q E := by
  unfold callF at h
  split at h
  · rename_i hok
    split at h
    · rename_i ts hts
      split at h
      · rename_i t' ios hrun
        split at h
        · rename_i hbr
          obtain ⟨ρ2, hput, e⟩ := Option.map_eq_some_iff.mp h
          cases e
          unfold ioOk at hok
          simp only [Bool.and_eq_true, decide_eq_true_eq, List.all_eq_true, Bool.not_eq_true', List.contains_eq_mem, decide_eq_false_iff_not] at hok
          obtain ⟨hnd, hdj⟩ := hok
          have ofa := V.fps
          -- borrowed, frozen
          let BR : Addr → Prop := fun b => ∃ i ∈ rdSlots f.io as, b ∈ fp i
          let Fc : Addr → Prop := fun b => F b ∨ BR b ∨ b ∈ fa
          have hion : ∀ i ∈ ioSlots f.io as, ∀ b ∈ fp i, ¬ Fc b := fun i hi b hb z => by
            rcases z with z | ⟨j, hj, z⟩ | z
            · exact (S.fpF i b hb).1 z
            · have := S.dis i j b hb z
              subst this
              exact hdj i hj hi
            · exact dv i b hb z
          obtain ⟨fpa, ar, ain, and_⟩ := args_rep (Fc := Fc) S (fun b h => .inl h) V hts (fun i hi b hb => .inr (.inl ⟨i, hi, hb⟩)) (fun b hb => .inr (.inr hb)) hion hnd
          refine ⟨by rw [← V.len]; exact argTs_len hts, Fc, ts, fpa, t, ios, ar, and_, fun b hb => ?_, hrun, fun v H' F' fpv fpi hsub hnew hkeep hthere htrk tr trs nd hfr => ?_⟩
          · rcases hb with hb | ⟨i, _, hb⟩ | hb
            · exact S.trk b hb
            · exact (S.fpF i b hb).2
            · exact (ofa b hb).2
          have nofpa : ∀ j, j ∉ ioSlots f.io as → ∀ b ∈ fp j, b ∉ fpa := fun j hj b hb z => by
            obtain ⟨i, hi, w⟩ := ain b z
            have := S.dis j i b hb w
            subst this
            exact hj hi
          -- what is borrowed is still there
          have minus : TRep K (fun b => F' b ∧ ¬ BR b) H' v t fpv ∧ TReps K (fun b => F' b ∧ ¬ BR b) H' (pick f.io vs) ios fpi := by
            rw [Bool.or_eq_true] at hbr
            rcases hbr with hbr | hbr
            · have nb : ∀ b, ¬ BR b := fun b ⟨i, hi, _⟩ => by
                rw [List.isEmpty_iff.mp hbr] at hi; cases hi
              have eq : (fun b => F' b ∧ ¬ BR b) = F' := funext fun b => propext ⟨fun z => z.1, fun z => ⟨z, nb b⟩⟩
              rw [eq]; exact ⟨tr, trs⟩
            · simp only [Bool.and_eq_true] at hbr
              have hB : NoT BR H' := fun b ⟨i, hi, hb⟩ => by
                have := List.all_eq_true.mp hbr.2 i hi
                split at this
                · rename_i u hu
                  obtain ⟨v', _, tr'⟩ := S.slT hu
                  obtain ⟨o, e1, e2⟩ := noTup_fp u v' _ this tr' b hb
                  exact ⟨o, hkeep b o e1 (nofpa i (fun z => hdj i hi z) b hb), e2⟩
                · cases this
              exact ⟨timm_minus hB t v fpv hbr.1.1 tr, timms_minus hB ios _ fpi hbr.1.2 trs⟩
          have nd' := List.nodup_append.mp nd
          have F2off : ∀ j, j ∉ ioSlots f.io as → ∀ b ∈ fp j, ¬ (F' b ∧ ¬ BR b) := fun j hj b hb z => by
            rcases hnew b z.1 with w | w | w
            · rcases w with w | w | w
              · exact (S.fpF j b hb).1 w
              · exact z.2 w
              · exact dv j b hb w
            · exact nofpa j hj b hb w
            · exact (S.fpF j b hb).2 w
          have Fk : ∀ b o, F b → H b = some o → H' b = some o := fun b o fb e => hkeep b o e fun z => by
            obtain ⟨i, hi, w⟩ := ain b z
            exact (S.fpF i b w).1 fb
          have Fsub : ∀ b, F b → (F' b ∧ ¬ BR b) := fun b fb => ⟨hsub b (.inl fb), fun ⟨i, _, w⟩ => (S.fpF i b w).1 fb⟩
          -- the state with the changed slots open
          have S1 : SR K iov (ioSlots f.io as) (fun b => F' b ∧ ¬ BR b) H' σ (killAll ρ (ioSlots f.io as)) (fun i => if i ∈ ioSlots f.io as then [] else fp i) := by
            refine ⟨by rw [killAll_len]; exact S.len, fun i s e hx => ?_, fun i hi => by simp [hi], fun i e => ?_, fun i => ?_, fun i j b hb hc => ?_, fun b hb => htrk b hb.1⟩
            · obtain ⟨k1, k2, k3, k4⟩ := killAll_get i (ioSlots f.io as) ρ
              have mk : ∀ u v', TRep K F H v' u (fp i) → TRep K (fun b => F' b ∧ ¬ BR b) H' v' u (fp i) := fun u v' r =>
                TRep.mono Fsub u v' _ (F2off i hx) (fun b o hb e => hb.elim (fun fb => Fk b o fb e) fun fb => hkeep b o e (nofpa i hx b fb)) r
              have ei : (if i ∈ ioSlots f.io as then [] else fp i) = fp i := by rw [if_neg hx]
              cases s with
              | no =>
                show (if i ∈ ioSlots f.io as then [] else fp i) = []
                rw [ei]
                cases es : ρ[i]? with
                | none => exact S.out i es
                | some s0 =>
                  have r := S.slot i s0 es (by simp)
                  cases s0 with
                  | no => exact r
                  | ow u => rw [(k1 u).mpr es] at e; cases e
                  | io u => rw [(k2 u).mpr es] at e; cases e
                  | al j l => exact r.1
              | ow u =>
                obtain ⟨v', a, r⟩ := S.slot i _ ((k1 u).mp e) (by simp)
                exact ⟨v', a, by simp only [ei]; exact mk u v' r⟩
              | io u =>
                obtain ⟨v', a, c, r⟩ := S.slot i _ ((k2 u).mp e) (by simp)
                exact ⟨v', a, c, by simp only [ei]; exact mk u v' r⟩
              | al j l =>
                obtain ⟨e', hj⟩ := k3 j l e
                obtain ⟨z, r⟩ := S.slot i _ e' (by simp)
                refine ⟨by simp only [ei]; exact z, .inr ?_⟩
                rcases r with r | ⟨v', a, vs', h1, h2, h3, h4, h5⟩
                · cases r
                · refine ⟨v', a, vs', h1, h2, ?_, h4, ?_⟩
                  · rcases h5 with h5 | h5
                    · exact Fk a _ h5 h3
                    · exact hkeep a _ h3 (nofpa j hj a h5)
                  · rcases h5 with h5 | h5
                    · exact .inl (Fsub a h5)
                    · exact .inr (by simp only [if_neg hj]; exact h5)
            · obtain ⟨k1, k2, k3, k4⟩ := killAll_get i (ioSlots f.io as) ρ
              have := S.out i (k4.mp e)
              simp only [this]; split <;> rfl
            · show (if i ∈ ioSlots f.io as then [] else fp i).Nodup
              split
              · exact List.nodup_nil
              · exact S.nod i
            · have hb : b ∈ (if i ∈ ioSlots f.io as then [] else fp i) := hb
              have hc : b ∈ (if j ∈ ioSlots f.io as then [] else fp j) := hc
              split at hb
              · cases hb
              · split at hc
                · cases hc
                · exact S.dis i j b hb hc
          have sf : ∀ i b, b ∈ (if i ∈ ioSlots f.io as then [] else fp i) → b ∈ fp i ∧ i ∉ ioSlots f.io as := fun i b hb => by
            split at hb
            · cases hb
            · rename_i hi; exact ⟨hb, hi⟩
          have offr : ∀ i b, b ∈ (if i ∈ ioSlots f.io as then [] else fp i) → ∀ fq : List Addr, (∀ b ∈ fq, b ∈ fpa ∨ H b = none) → b ∉ fq := fun i b hb fq hq z => by
            obtain ⟨q1, q2⟩ := sf i b hb
            rcases hq b z with w | w
            · exact nofpa i q2 b q1 w
            · exact (S.fpF i b q1).2 w
          obtain ⟨fp', S2, hfp'⟩ := putIo_ok S1 hnd hput V minus.2 nd'.2.1 (fun i b hb => offr i b hb fpi fun b hb => hfr b (List.mem_append_right _ hb))
            (fun i hi u w e1 e2 => by
              obtain ⟨k1, k2, k3, k4⟩ := killAll_get i (ioSlots f.io as) ρ
              exact S.ioOf (by simp) e2 u ((k2 u).mp e1)) (fun m j l q => by
              obtain ⟨k1, k2, k3, k4⟩ := killAll_get m (ioSlots f.io as) ρ
              exact (k3 j l q).2)
          have infr : ∀ b, b ∈ fpa ∨ H b = none → (∃ j, b ∈ fp j) ∨ b ∈ fa ∨ H b = none := fun b hb => hb.elim (fun z => let ⟨i, _, w⟩ := ain b z; .inl ⟨i, w⟩) fun z => .inr (.inr z)
          refine k v H' _ fp' fpv S2 minus.1 ⟨Fsub, fun b z => ?_, fun b o e w => hkeep b o e fun z => ?_, hthere, fun i b hb => ?_, fun b hb => infr b (hfr b (List.mem_append_left _ hb)), fun i b hb z => ?_, nd'.1⟩
          · rcases hnew b z.1 with w | w | w
            · rcases w with w | ⟨i, _, w⟩ | w
              · exact .inl w
              · exact .inr (.inl ⟨i, w⟩)
              · exact .inr (.inr (.inl w))
            · exact .inr (infr b (.inl w))
            · exact .inr (.inr (.inr w))
          · obtain ⟨i, _, q⟩ := ain b z
            exact w i q
          · rcases hfp' i b hb with w | w
            · exact .inl ⟨i, (sf i b w).1⟩
            · exact infr b (hfr b (List.mem_append_right _ w))
          · rcases hfp' i b hb with w | w
            · exact offr i b w fpv (fun b hb => hfr b (List.mem_append_left _ hb)) z
            · exact nd'.2.2 b z b w rfl
        · cases h
      · cases h
    · cases h
  · cases h
theorem s_call {nm : Str} {ps : List Str} {kb : Kbs} {f : Fn} {p : Pos} (Fn_ : FnAt X nm ps kb f) (gd : X.A.guards = some []) (hg : Gl X nm) (hdb : (nm == ("__debug__" : Str)) = false) (hp : plainE e = true) (hpl : (backTo pos (starEach es X.env)).any (·.1) = false) (ha : PA X (e :: es) (tA X.K iov ρ as ρ1 wa)) (h : callF f ρ1 as = some (t, ρ2)) :
    PE X (.Call (.Name nm p) (e :: es) [] pos) (tE X.K iov ρ (.t t) ρ2 true) := by
  refine PE.imp' (e_call Fn_ gd hg hdb (star_plain hp _) hpl ha) ?_
  rintro σ H Q ⟨F, fp, S, k⟩
  exact ⟨F, fp, S, fun vs H1 F1 fp1 fa S1 V1 P1 => callF_sp S1 V1 P1.disv h fun v H' F' fp' fpv S' tr PX => k v H' F' fp' fpv S' tr (P1.transX PX)⟩
theorem VRs.split : ∀ {as : List Val} {vs : List V} {fq : List Addr}, VRs K F H σ as vs fq → ∃ fs : List (List Addr), fq = fs.flatten ∧ fs.length = as.length ∧ ∀ (i : Nat) t v f, as[i]? = some t → vs[i]? = some v → fs[i]? = some f → VR K F H σ t v f
  | [], [], fq, h => ⟨[], by have h : fq = [] := h; rw [h]; rfl, rfl, fun i t v f e => by simp at e⟩
  | [], _ :: _, _, h => h.elim
  | _ :: _, [], _, h => h.elim
  | t :: ts, v :: vs, fq, h => by
    obtain ⟨f1, f2, rfl, h1, h2⟩ := h
    obtain ⟨fs, e1, e2, e3⟩ := VRs.split h2
    refine ⟨f1 :: fs, by rw [e1]; rfl, by simp [e2], fun i t' v' f' q1 q2 q3 => ?_⟩
    cases i with
    | zero => simp at q1 q2 q3; subst q1 q2 q3; exact h1
    | succ i => exact e3 i t' v' f' (by simpa using q1) (by simpa using q2) (by simpa using q3)
theorem flats_nodup : ∀ {fs : List (List Addr)}, fs.flatten.Nodup → (∀ (i : Nat) f, fs[i]? = some f → f.Nodup) ∧ ∀ (i j : Nat) f g b, fs[i]? = some f → fs[j]? = some g → b ∈ f → b ∈ g → i = j
  | [], _ => ⟨fun i f e => by simp at e, fun i j f g b e => by simp at e⟩
  | f0 :: fs, h => by
    have h : (f0 ++ fs.flatten).Nodup := h
    obtain ⟨n1, n2, n3⟩ := List.nodup_append.mp h
    obtain ⟨a1, a2⟩ := flats_nodup n2
    refine ⟨fun i f e => ?_, fun i j f g b e1 e2 hb hc => ?_⟩
    · cases i with
      | zero => simp at e; subst e; exact n1
      | succ i => exact a1 i f (by simpa using e)
    · cases i with
      | zero =>
        cases j with
        | zero => rfl
        | succ j =>
          simp at e1 e2; subst e1
          exact absurd rfl (n3 b hb b (List.mem_flatten.mpr ⟨g, List.mem_of_getElem? e2, hc⟩))
      | succ i =>
        cases j with
        | zero =>
          simp at e1 e2; subst e2
          exact absurd rfl (n3 b hc b (List.mem_flatten.mpr ⟨f, List.mem_of_getElem? e1, hb⟩))
        | succ j => rw [a2 i j f g b (by simpa using e1) (by simpa using e2) hb hc]
theorem perm_rep {vs : List V} (V : VRs K F H σ as vs fa) (nd : fa.Nodup) : ∀ {perm : List Nat} {bs : List Val}, perm.Nodup → permV perm as = some bs → ∃ fb, VRs K F H σ bs (permL perm vs) fb ∧ fb.Nodup ∧ (∀ b ∈ fb, b ∈ fa) := by
  obtain ⟨fs, rfl, e2, e3⟩ := V.split
  obtain ⟨a1, a2⟩ := flats_nodup nd
  have hl := V.len
  have go : ∀ {perm : List Nat} {bs : List Val}, perm.Nodup → permV perm as = some bs → ∃ fb, VRs K F H σ bs (permL perm vs) fb ∧ fb.Nodup ∧ ∀ b ∈ fb, ∃ i ∈ perm, ∃ f, fs[i]? = some f ∧ b ∈ f := by
    intro perm
    induction perm with
    | nil => intro bs _ h; cases h; exact ⟨[], rfl, List.nodup_nil, fun _ h => (nomatch h)⟩
    | cons i is ih =>
      intro bs hn h
      unfold permV at h
      split at h
      · rename_i a r ea er
        cases h
        obtain ⟨hi, hn2⟩ := List.nodup_cons.mp hn
        obtain ⟨fb, V2, n2, s2⟩ := ih hn2 er
        have il : i < as.length := (List.getElem?_eq_some_iff.mp ea).1
        have ev : vs[i]? = some (vs[i]'(by omega)) := List.getElem?_eq_getElem _
        have ef : fs[i]? = some (fs[i]'(by omega)) := List.getElem?_eq_getElem _
        have z1 : permL (i :: is) vs = (vs[i]'(by omega)) :: permL is vs := by simp [permL, List.filterMap_cons, ev]
        rw [z1]
        refine ⟨_, ⟨_, _, rfl, e3 i _ _ _ ea ev ef, V2⟩, List.nodup_append.mpr ⟨a1 i _ ef, n2, fun b hb c hc e => ?_⟩, fun b hb => ?_⟩
        · subst e
          obtain ⟨j, hj, f, e4, hf⟩ := s2 b hc
          have := a2 i j _ _ b ef e4 hb hf
          subst this
          exact hi hj
        · rcases List.mem_append.mp hb with hb | hb
          · exact ⟨i, by simp, _, ef, hb⟩
          · obtain ⟨j, hj, r⟩ := s2 b hb
            exact ⟨j, by simp [hj], r⟩
      · cases h
  intro perm bs hn h
  obtain ⟨fb, q1, q2, q3⟩ := go hn h
  exact ⟨fb, q1, q2, fun b hb => by
    obtain ⟨i, _, f, e, hf⟩ := q3 b hb
    exact List.mem_flatten.mpr ⟨f, List.mem_of_getElem? e, hf⟩⟩
theorem Post.subv (P : Post F H fp F' H' fp' fa wr) (h : ∀ b ∈ fb, b ∈ fa) (n : fb.Nodup) : Post F H fp F' H' fp' fb wr :=
  ⟨P.sub, P.new, P.keep, P.there, P.fresh, fun b hb => P.freshv b (h b hb), fun i b hb z => P.disv i b hb (h b z), n⟩
theorem permV_lt {as bs : List Val} : ∀ {perm : List Nat} {bs : List Val}, permV perm as = some bs → ∀ i ∈ perm, i < as.length
  | [], _, _, i, hi => by cases hi
  | j :: is, bs, h, i, hi => by
    unfold permV at h
    split at h
    · rename_i a r ea er
      rcases List.mem_cons.mp hi with rfl | hi
      · exact (List.getElem?_eq_some_iff.mp ea).1
      · exact permV_lt (bs := r) er i hi
    · cases h
theorem s_callk {nm : Str} {ps : List Str} {kb : Kbs} {f : Fn} {p : Pos} {kws : List Keyword} {ks : List Str} {perm : List Nat} {bs : List Val} (Fn_ : FnAt X nm ps kb f) (gd : X.A.guards = some []) (hg : Gl X nm) (hdb : (nm == ("__debug__" : Str)) = false) (hq : (ks, perm) ∈ kb) (hks : kws.map (·.arg) = ks.map some) (hkl : kws.length = ks.length) (hal : as.length = ks.length)
    (hkw : PK X kws (tA X.K iov ρ as ρ1 wa)) (hpm : permV perm as = some bs) (hpn : perm.Nodup) (h : callF f ρ1 bs = some (t, ρ2)) : PE X (.Call (.Name nm p) [] kws pos) (tE X.K iov ρ (.t t) ρ2 true) := by
  refine PE.imp' (e_callk Fn_ gd hg hdb hq hkw hks hkl fun i hi => by rw [← hal]; exact permV_lt (bs := bs) hpm i hi) ?_
  rintro σ H Q ⟨F, fp, S, k⟩
  refine ⟨F, fp, S, fun vs H1 F1 fp1 fa S1 V1 P1 => ⟨by rw [← hal, V1.len], ?_⟩⟩
  obtain ⟨fb, V2, n2, s2⟩ := perm_rep V1 P1.nodv hpn hpm
  have P2 := P1.subv s2 n2
  exact callF_sp S1 V2 P2.disv h fun v H' F' fp' fpv S' tr PX => k v H' F' fp' fpv S' tr (P2.transX PX)
end
end Mv

end
section
/-! What is walked, targets, comprehensions. -/
namespace Mv
open PySem PySem.Spec PyProof.Rows L2
def ItOk (K : PySem.W.Frag) (F : Addr → Prop) (H : Hp) (J : It) (ds : List D) : Prop := ∀ F2 H2, (∀ b, F b → F2 b) → (∀ b o, F b → H b = some o → H2 b = some o) →
  (∀ (i : Nat) (d : D), ds[i]? = some d → J.go i H2 ∧ ∀ x H3, J.yld i H2 x H3 → PureRes K F2 H2 (.fz d) x H3) ∧ J.stop ds.length H2
def tI (K : PySem.W.Frag) (iov : Nat → Option V) (ρ : Env) (ds : List D) (ρ' : Env) (wr : Bool) : TI := fun σ H R => ∃ F fp, SR K iov [] F H σ ρ fp ∧
  ∀ J H' F' fp', SR K iov [] F' H' σ ρ' fp' → ItOk K F' H' J ds → Post F H fp F' H' fp' [] wr → R J H'
/-- the same, of what is borrowed: it stands as long as nothing that stood is changed -/
def ItOkW (wb : Bool) (K : PySem.W.Frag) (F : Addr → Prop) (H : Hp) (J : It) (ds : List D) : Prop := ∀ F2 H2, (∀ b, F b → F2 b) → (∀ b o, (wb = false ∨ F b) → H b = some o → H2 b = some o) →
  (∀ (i : Nat) (d : D), ds[i]? = some d → J.go i H2 ∧ ∀ x H3, J.yld i H2 x H3 → PureRes K F2 H2 (.fz d) x H3) ∧ J.stop ds.length H2
def tIW (wb : Bool) (K : PySem.W.Frag) (iov : Nat → Option V) (ρ : Env) (ds : List D) (ρ' : Env) (wr : Bool) : TI := fun σ H R => ∃ F fp, SR K iov [] F H σ ρ fp ∧
  ∀ J H' F' fp', SR K iov [] F' H' σ ρ' fp' → ItOkW wb K F' H' J ds → Post F H fp F' H' fp' [] wr → R J H'
theorem ItOkW.of {wb : Bool} {K : PySem.W.Frag} {F : Addr → Prop} {H : Hp} {J : It} {ds : List D} (h : ItOk K F H J ds) : ItOkW wb K F H J ds := fun F2 H2 hF hk => h F2 H2 hF fun b o f => hk b o (.inr f)
theorem ItOkW.toI {K : PySem.W.Frag} {F : Addr → Prop} {H : Hp} {J : It} {ds : List D} (h : ItOkW true K F H J ds) : ItOk K F H J ds := fun F2 H2 hF hk => h F2 H2 hF fun b o f => f.elim (fun z => nomatch z) (hk b o)
theorem PI.imp' {X : Cx} {tg e : Expr} {t t' : TI} (h : PI X tg e t) (k : ∀ σ H Q, t' σ H Q → t σ H Q) : PI X tg e t' := ⟨fun pins s σ H Q I q => h.run pins s σ H Q I (k _ _ _ q)⟩
theorem PG.imp' {X : Cx} {e : Expr} {t t' : TG} (h : PG X e t) (k : ∀ v σ H Q, t' v σ H Q → t v σ H Q) : PG X e t' := ⟨fun pins s σ H v u Q I r q => h.run pins s σ H v u Q I r (k _ _ _ _ q)⟩
theorem PGs.imp' {X : Cx} {e : List Expr} {t t' : TGs} (h : PGs X e t) (k : ∀ v σ H Q, t' v σ H Q → t v σ H Q) : PGs X e t' := ⟨fun pins s σ H v u Q I r q => h.run pins s σ H v u Q I r (k _ _ _ _ q)⟩
section
variable {X : Cx} {K : PySem.W.Frag} {iov : Nat → Option V} {F F1 F2 F' Fc : Addr → Prop} {H H1 H2 H' : Hp} {fp fp1 fp2 fp' : Fp} {fa fb fx fpv : List Addr} {t x y : T} {v vx vy : V} {b : Bool} {ρ ρ1 ρ2 ρ3 ρ' : Env} {wr wa wb wc : Bool} {va vb vc : Val} {σ : L2.St} {e e1 e2 e3 tg : Expr} {es : List Expr} {pos : Pos} {as : List Val} {ds : List D}
theorem it_list {a : Addr} {vs : List V} (hl : LstF K F H a vs) (hr : RepDs K F H vs ds) : ItOk K F H (Itl K a) ds := fun F2 H2 hF hk => by
  have r2 : SqL K H2 a vs := by
    rcases hl with ⟨f, r⟩ | w
    · exact .inl (rdKeep r fun o => hk a o f)
    · exact LstF.sq (F := F) (.inr w)
  have q2 := RepDs.mono hF hk ds vs hr
  refine ⟨fun i d e => ?_, vs, r2, by rw [hr.len]; exact Nat.le_refl _⟩
  obtain ⟨v, e1, e2⟩ := q2.get e
  refine ⟨⟨vs, v, r2, e1⟩, fun x H3 ⟨e3, e4⟩ => ?_⟩
  subst e3
  have := e4 vs (r2)
  rw [e1] at this; cases this
  exact .same e2
theorem it_tup {a : Addr} {vs : List V} (hl : TupF K F H a vs) (hr : RepDs K F H vs ds) : ItOk K F H (Itt K a) ds := fun F2 H2 hF hk => by
  have r2 : SqT K H2 a vs := by
    rcases hl with ⟨f, r⟩ | w
    · exact .inl (rdKeep r fun o => hk a o f)
    · exact TupF.sq (F := F) (.inr w)
  have q2 := RepDs.mono hF hk ds vs hr
  refine ⟨fun i d e => ?_, vs, r2, by rw [hr.len]; exact Nat.le_refl _⟩
  obtain ⟨v, e1, e2⟩ := q2.get e
  refine ⟨⟨vs, v, r2, e1⟩, fun x H3 ⟨e3, e4⟩ => ?_⟩
  subst e3
  have := e4 vs r2
  rw [e1] at this; cases this
  exact .same e2
theorem enumD_get : ∀ (ds : List D) (n i : Nat) (d : D), (enumD n ds)[i]? = some d → ∃ d0, ds[i]? = some d0 ∧ d = .tup [.int ((n + i : Nat) : Int), d0]
  | [], n, i, d, h => by simp [enumD] at h
  | d0 :: ds, n, 0, d, h => by simp [enumD] at h; exact ⟨d0, rfl, by rw [← h]; simp⟩
  | d0 :: ds, n, i + 1, d, h => by
    obtain ⟨d1, e1, e2⟩ := enumD_get ds (n + 1) i d (by simpa [enumD] using h)
    exact ⟨d1, by simpa using e1, by rw [e2]; congr 3; omega⟩
theorem enumD_len : ∀ (ds : List D) (n : Nat), (enumD n ds).length = ds.length
  | [], _ => rfl
  | d :: ds, n => by simp [enumD, enumD_len ds]
theorem it_enum {a : Addr} {vs : List V} (hl : LstF K F H a vs) (hr : RepDs K F H vs ds) : ItOk K F H (Ite K a) (enumD 0 ds) := fun F2 H2 hF hk => by
  have r2 : SqL K H2 a vs := by
    rcases hl with ⟨f, r⟩ | w
    · exact .inl (rdKeep r fun o => hk a o f)
    · exact LstF.sq (F := F) (.inr w)
  have q2 := RepDs.mono hF hk ds vs hr
  refine ⟨fun i d e => ?_, vs, r2, by rw [hr.len, enumD_len]; exact Nat.le_refl _⟩
  obtain ⟨d0, e0, rfl⟩ := enumD_get ds 0 i d e
  obtain ⟨v, e1, e2⟩ := q2.get e0
  refine ⟨⟨vs, v, r2, e1⟩, fun x H3 ⟨T, x0, e3, e4, e5, e6⟩ => ?_⟩
  subst e3 e5
  have := e6 vs (r2)
  rw [e1] at this; cases this
  refine res_tup e4 ?_
  simp only [RepDs, RepD, and_true]
  exact ⟨by simp, e2⟩
theorem it_range {lo hi : Int} : ItOk K F H (Itr lo (hi - lo).toNat) (rangeD lo hi) := fun F2 H2 hF hk => by
  refine ⟨fun i d e => ?_, by show (hi - lo).toNat ≤ _; simp [rangeD]⟩
  unfold rangeD at e
  rw [List.getElem?_map] at e
  have hi' : i < (hi - lo).toNat := by
    cases h : (List.range (hi - lo).toNat)[i]? with
    | none => rw [h] at e; cases e
    | some n => have := (List.getElem?_eq_some_iff.mp h).1; simpa using this
  rw [List.getElem?_range hi'] at e
  simp at e
  subst e
  refine ⟨hi', fun x H3 ⟨e3, e4⟩ => ?_⟩
  subst e3 e4
  exact res_int
theorem i_list (ha : PE X e (tE X.K iov ρ va ρ1 wa)) (h : fzVal ρ1 va = some (t, ρ2)) (ht : t.toD = .list ds) : PI X tg e (tI X.K iov ρ ds ρ2 wa) := by
  have hz := s_fzv ha h
  rw [ht] at hz
  refine PI.imp' (pi_list hz) ?_
  rintro σ H Q ⟨F, fp, S, k⟩
  refine ⟨F, fp, S, fun v H1 F1 fp1 fa S1 V1 P1 => ?_⟩
  have V1 : TRep X.K F1 H1 v (.fz (.list ds)) fa := V1
  simp only [TRep, RepD] at V1
  obtain ⟨_, a, vs, rfl, hl, hr⟩ := V1
  exact ⟨a, rfl, ⟨vs, hl.sq⟩, k _ H1 F1 fp1 S1 (it_list hl hr) P1.drop0⟩
theorem i_tup (ha : PE X e (tE X.K iov ρ va ρ1 wa)) (h : fzVal ρ1 va = some (t, ρ2)) (ht : t.toD = .tup ds) : PI X tg e (tI X.K iov ρ ds ρ2 wa) := by
  have hz := s_fzv ha h
  rw [ht] at hz
  refine PI.imp' (pi_tup hz) ?_
  rintro σ H Q ⟨F, fp, S, k⟩
  refine ⟨F, fp, S, fun v H1 F1 fp1 fa S1 V1 P1 => ?_⟩
  have V1 : TRep X.K F1 H1 v (.fz (.tup ds)) fa := V1
  simp only [TRep, RepD] at V1
  obtain ⟨_, a, vs, rfl, hl, hr⟩ := V1
  exact ⟨a, rfl, ⟨vs, hl.sq⟩, k _ H1 F1 fp1 S1 (it_tup hl hr) P1.drop0⟩
/-- a range of any bounds -/
theorem turn_rangeL {P : Program} {w : World} {K : PySem.W.Frag} (it : Addr) (lo : Int) (n : Nat) : Turn P w K tg (Itr lo n) [it] it (fun i h => IsLongIter h it (lo + (i : Nat) * 1) ((n : Int) - (i : Nat)) 1) where
  mem := by simp
  obj := fun i h st b hb => by
    have e : b = it := by simpa using hb
    subst e
    exact ⟨_, st, fun v z => nomatch z⟩
  keep := fun i h h' st k => k it (by simp) _ st
  item := by
    intro X hP hw hK hc i pins s σ H E I hf st hg
    subst hP hw hK
    obtain ⟨f0, f1, f2, f3, f4, f5⟩ := hf it (by simp)
    have W := Walks.longrange (prog := X.prog) (w := X.w) (I.ok.hd hc) it lo 1 n
    refine W.item i s _ _ hg st fun v h' tk hv st' kk => ?_
    obtain ⟨t, rfl⟩ := hv
    have I1 : Inv X pins σ H { s with heap := h', toks := tk } := I.turned (fun b o hb e => kk b o (by simpa using hb) e) f0 f1 f3 f4 f5
    refine ⟨_, rfl, go_of (s := { s with heap := h', toks := tk }) (n := "longrange_iterator") st' rfl rfl (by decide) ⟨.int (lo + i), H, I1, ⟨t, ?_⟩, ⟨rfl, rfl⟩, st', fun b hb => (hf b hb).1⟩⟩
    rw [Int.mul_one]
  done := by
    intro X hP hw hK hc i pins s σ H E I hf st hg
    subst hP hw hK
    obtain ⟨f0, f1, f2, f3, f4, f5⟩ := hf it (by simp)
    exact wpAny_pyNext_long_end (I.ok.hd hc) st (by have : n ≤ i := hg; omega) fun h' eb => ⟨rfl, I.turned (t' := s.toks) (fun b o hb e => eb b o hb e) f0 f1 f3 f4 f5⟩
  self := fun A i s Q E st h => wpAny_pyIter_longiter st h
theorem range_itL {pins : List (Addr × Obj)} {σ : L2.St} {H : Hp} {s : Shared} {R : It → Hp → Prop} {E : Value → Shared → Prop} {lo hi : Int} {t u v : Tok} {tk : Nat} (I : Inv X pins σ H s)
    (q : R (Itr lo (hi - lo).toNat) H) : wpAny (model X.prog X.w) X.A (pyIter (.ref s.heap.objs.size)) (PIE X pins σ tg R) E { s with heap := s.heap.push { cls := .type "range", data := .fields #[.int lo t, .int hi u, .int 1 v] }, toks := tk } := by
  have I2 : Inv X pins σ H { s with heap := s.heap.push { cls := .type "range", data := .fields #[.int lo t, .int hi u, .int 1 v] }, toks := tk } := I.kept fun b o e => Heap.get?_push_of_some _ e
  have e1 : lo + ((0 : Nat) : Int) * 1 = lo := by simp
  have e2 : (((hi - lo).toNat : Nat) : Int) - ((0 : Nat) : Int) = Builtin.Range.rangeSize lo hi 1 := by rw [rangeSize_one]; split <;> omega
  cases hs : Builtin.Range.small lo hi 1
  · refine wpAny_pyIter_longrange (IsRange.new ..) hs ?_
    refine pi_one (tk := tk) I2 _ (turn_rangeL _ lo (hi - lo).toNat) ?_ q
    show IsLongIter _ _ (lo + ((0 : Nat) : Int) * 1) ((((hi - lo).toNat : Nat) : Int) - ((0 : Nat) : Int)) 1
    rw [e1, e2]
    exact Heap.get?_push_size _ rfl
  · refine wpAny_pyIter_range (IsRange.new ..) hs ?_
    refine pi_one (tk := tk) I2 _ (turn_range _ lo (hi - lo).toNat) ?_ q
    show IsRangeIter _ _ (lo + ((0 : Nat) : Int) * 1) ((((hi - lo).toNat : Nat) : Int) - ((0 : Nat) : Int)) 1
    rw [e1, e2]
    exact Heap.get?_push_size _ rfl
def iRngL1 (ta : TA) : TI := fun σ H R => ta σ H fun vs H1 => ∃ i : Int, vs = [.int i] ∧ R (Itr 0 i.toNat) H1
def iRngL2 (ta : TA) : TI := fun σ H R => ta σ H fun vs H1 => ∃ i j : Int, vs = [.int i, .int j] ∧ R (Itr i (j - i).toNat) H1
theorem pi_rangeL1 {a : Expr} {ta : TA} {p pos : Pos} (hg : Gl X "range") (hm : X.mg "range" = none) (ha : PA X [a] ta) (hs : starEach [a] X.env = [(false, eval a X.env)] := by rfl) : PI X tg (.Call (.Name "range" p) [a] [] pos) (iRngL1 ta) := by
  refine ⟨fun pins s σ H R I h => ?_⟩
  refine Call_ (ld_blt I hg hm boot_range (PyProof.Rows.callWith_type1 (thn (ha.run pos pins s σ H _ I h) fun us s1 ⟨vs, H1, I1, r1, q1⟩ => ?_) hs rfl))
  obtain ⟨j, e, q⟩ := q1
  subst e
  cases r1 with
  | cons r rr =>
    cases rr
    obtain ⟨t, rfl⟩ := r
    exact call_range_1 (range_itL (lo := 0) (hi := j) I1 (by simpa using q))
theorem pi_rangeL2 {a b : Expr} {ta : TA} {p pos : Pos} (hg : Gl X "range") (hm : X.mg "range" = none) (ha : PA X [a, b] ta) (hs : starEach [a, b] X.env = [(false, eval a X.env), (false, eval b X.env)] := by rfl) (hs2 : starEach [b] X.env = [(false, eval b X.env)] := by rfl) :
    PI X tg (.Call (.Name "range" p) [a, b] [] pos) (iRngL2 ta) := by
  refine ⟨fun pins s σ H R I h => ?_⟩
  refine Call_ (ld_blt I hg hm boot_range (PyProof.Rows.callWith_type1 (thn (ha.run pos pins s σ H _ I h) fun us s1 ⟨vs, H1, I1, r1, q1⟩ => ?_) (by rw [hs, hs2]) (by rw [hs2]; rfl)))
  obtain ⟨i, j, e, q⟩ := q1
  subst e
  cases r1 with
  | cons r rr =>
    cases rr with
    | cons r' rr =>
      cases rr
      obtain ⟨t, rfl⟩ := r
      obtain ⟨t', rfl⟩ := r'
      exact call_range_2 (range_itL I1 q)
theorem i_rng1 {i : Int} {p : Pos} (hg : Gl X "range") (hm : X.mg "range" = none) (hp : plainE e = true) (ha : PE X e (tE X.K iov ρ (.t (.fz (.int i))) ρ1 wa)) (hi : okR i = true) : PI X tg (.Call (.Name "range" p) [e] [] pos) (tI X.K iov ρ (rangeD 0 i) ρ1 wa) := by
  refine PI.imp' (pi_rangeL1 hg hm (pa_cons ha pa_nil (star_plain hp _)) (star_plain hp _)) ?_
  rintro σ H Q ⟨F, fp, S, k⟩
  refine ⟨F, fp, S, fun v H1 F1 fp1 fa S1 V1 P1 => ⟨i, by rw [trep_int V1], ?_⟩⟩
  have := k _ H1 F1 fp1 S1 (it_range (lo := 0) (hi := i)) P1.drop0
  simpa using this
theorem i_rng2 {i j : Int} {p : Pos} (hg : Gl X "range") (hm : X.mg "range" = none) (hp : plainE e1 = true) (hp2 : plainE e2 = true) (ha : PE X e1 (tE X.K iov ρ (.t (.fz (.int i))) ρ1 wa)) (hb : PE X e2 (tE X.K iov ρ1 (.t (.fz (.int j))) ρ2 wb)) (hi : okR i = true) (hj : okR j = true) : PI X tg (.Call (.Name "range" p) [e1, e2] [] pos) (tI X.K iov ρ (rangeD i j) ρ2 (wa || wb)) := by
  refine PI.imp' (pi_rangeL2 hg hm (pa_cons ha (pa_cons hb pa_nil (star_plain hp2 _)) (star_plain hp _)) (by rw [star_plain hp, star_plain hp2]; rfl) (star_plain hp2 _)) ?_
  rintro σ H Q ⟨F, fp, S, k⟩
  refine two (R := fun x y H2 => ∃ i j : Int, [x, y] = [.int i, .int j] ∧ Q (Itr i (j - i).toNat) H2) rfl rfl rfl S fun vx vy H2 F2 fp2 fa fb S2 V1 V2 P => ?_
  exact ⟨i, j, by rw [trep_int V1, trep_int V2], k _ H2 F2 fp2 S2 it_range P.drop0⟩
theorem i_enum {elts : List Expr} {kk : Nat} {tpos p : Pos} (hg : Gl X "enumerate") (hm : X.mg "enumerate" = none) (hp : plainE e = true) (ha : PE X e (tE X.K iov ρ va ρ1 wa)) (h : fzVal ρ1 va = some (t, ρ2)) (ht : t.toD = .list ds) : PI X (.Tuple elts kk tpos) (.Call (.Name "enumerate" p) [e] [] pos) (tI X.K iov ρ (enumD 0 ds) ρ2 wa) := by
  have hz := s_fzv ha h
  rw [ht] at hz
  refine PI.imp' (pi_enum hg hm (pa_cons hz pa_nil (star_plain hp _)) (star_plain hp _)) ?_
  rintro σ H Q ⟨F, fp, S, k⟩
  refine ⟨F, fp, S, fun v H1 F1 fp1 fa S1 V1 P1 => ?_⟩
  have V1 : TRep X.K F1 H1 v (.fz (.list ds)) fa := V1
  simp only [TRep, RepD] at V1
  obtain ⟨_, a, vs, rfl, hl, hr⟩ := V1
  exact ⟨a, vs, rfl, hl.sq, k _ H1 F1 fp1 S1 (it_enum hl hr) P1.drop0⟩
theorem tIW.of {wb : Bool} (h : PI X tg e (tI X.K iov ρ ds ρ1 wa)) : PI X tg e (tIW wb X.K iov ρ ds ρ1 wa) := PI.imp' h fun σ H R ⟨F, fp, S, k⟩ => ⟨F, fp, S, fun J H' F' fp' S' it P => k J H' F' fp' S' (.of it) P⟩
theorem tIW.toI (h : PI X tg e (tIW true X.K iov ρ ds ρ1 wa)) : PI X tg e (tI X.K iov ρ ds ρ1 wa) := PI.imp' h fun σ H R ⟨F, fp, S, k⟩ => ⟨F, fp, S, fun J H' F' fp' S' it P => k J H' F' fp' S' it.toI P⟩
theorem flat_rep2 {fa : List Addr} (e : t.flat = some ds) (h : TRep K F H v t fa) : ∃ a vs, v = .ref a ∧ ((LstF K F H a vs) ∨ H a = some (.lst vs)) ∧ RepDs K F H vs ds := by
  unfold T.flat at e
  split at e
  · cases e
    simp only [TRep, RepD] at h
    obtain ⟨_, a, vs, rfl, hl, hr⟩ := h
    exact ⟨a, vs, rfl, .inl hl, hr⟩
  · rename_i ts
    rw [unfzs_eq e] at h
    simp only [TRep] at h
    obtain ⟨a, vs, fq, rfl, rfl, nf, ha, hr⟩ := h
    refine ⟨a, vs, rfl, .inr ha, ?_⟩
    clear e ha
    induction ds generalizing vs fq with
    | nil =>
      cases vs with
      | nil => simp only [RepDs]
      | cons v vs => simp only [fzs, List.map_nil, TReps] at hr
    | cons d ds ih =>
      cases vs with
      | nil => simp only [fzs, List.map_cons, TReps] at hr
      | cons v vs =>
        have hr2 : TReps K F H (v :: vs) (.fz d :: fzs ds) fq := hr
        clear hr
        simp only [TReps, TRep] at hr2
        obtain ⟨f1, f2, _, ⟨_, r⟩, hr3⟩ := hr2
        simp only [RepDs]
        exact ⟨r, ih vs f2 hr3⟩
  · cases e
theorem i_brw (ha : PE X e (tE X.K iov ρ va ρ1 wa)) (h : resolve ρ1 va = some t) (hf : t.flat = some ds) : PI X tg e (tIW false X.K iov ρ ds ρ1 wa) := by
  refine PI.imp' (pi_list ha) ?_
  rintro σ H Q ⟨F, fp, S, k⟩
  refine ⟨F, fp, S, fun v H1 F1 fp1 fa S1 V1 P1 => ?_⟩
  obtain ⟨fq, tr⟩ := S1.rslv h V1
  obtain ⟨a, vs, rfl, hl, hr⟩ := flat_rep2 hf tr
  have sq : SqL X.K H1 a vs := hl.elim LstF.sq fun z => .inl (.inl z)
  refine ⟨a, rfl, ⟨vs, sq⟩, k _ H1 F1 fp1 S1 (fun F2 H2 hF hk => ?_) P1.drop0⟩
  have hk2 : ∀ b o, H1 b = some o → H2 b = some o := fun b o => hk b o (.inl rfl)
  have r2 : SqL X.K H2 a vs := by
    rcases hl with (⟨f, r⟩ | w) | z
    · exact .inl (rdKeep r fun o => hk2 a o)
    · exact LstF.sq (F := F1) (.inr w)
    · exact .inl (.inl (hk2 a _ z))
  have q2 := RepDs.mono hF (fun b o _ => hk2 b o) ds vs hr
  refine ⟨fun i d e => ?_, vs, r2, by rw [hr.len]; exact Nat.le_refl _⟩
  obtain ⟨v, e1, e2⟩ := q2.get e
  refine ⟨⟨vs, v, r2, e1⟩, fun x H3 ⟨e3, e4⟩ => ?_⟩
  subst e3
  have := e4 vs (r2)
  rw [e1] at this; cases this
  exact .same e2
/-! ### targets -/
def tgSlots : Tgt → List Nat
  | .nm i => [i]
  | .tp is => is
def tG (K : PySem.W.Frag) (iov : Nat → Option V) (ρ : Env) (ch : List Nat) (d : D) (ρ' : Env) : TG := fun v σ H Q => ∃ F fp, SR K iov [] F H σ ρ fp ∧ RepD K F H v d ∧
  ∀ σ' fp', SR K iov [] F H σ' ρ' fp' → (∀ i b, b ∈ fp' i → b ∈ fp i) → σ'.length = σ.length → (∀ i, i ∉ ch → σ'[i]? = σ[i]?) → Q σ' H
def tGs (K : PySem.W.Frag) (iov : Nat → Option V) (ρ : Env) (ch : List Nat) (ds : List D) (ρ' : Env) : TGs := fun vs σ H Q => ∃ F fp, SR K iov [] F H σ ρ fp ∧ RepDs K F H vs ds ∧
  ∀ σ' fp', SR K iov [] F H σ' ρ' fp' → (∀ i b, b ∈ fp' i → b ∈ fp i) → σ'.length = σ.length → (∀ i, i ∉ ch → σ'[i]? = σ[i]?) → Q σ' H
theorem g_name {i : Nat} {nm : Str} {d : D} (hN : X.N.Nodup) (hi : X.N[i]? = some nm) (hx : Loc X.env.scope nm) (hf : X.fn nm = true ∨ X.env.scope.names.lookup nm = some .local) (h : bindS ρ i (.t (.fz d)) = some ρ') : PG X (.Name nm pos) (tG X.K iov ρ [i] d ρ') := by
  refine PG.imp' (pg_name hN hi hx hf) ?_
  rintro v σ H Q ⟨F, fp, S, r, k⟩
  have S' := S.bind (v := v) (fpv := []) h (by show TRep _ _ _ _ _ _; simp only [TRep, true_and]; exact r) List.nodup_nil fun _ _ _ z => (nomatch z)
  exact k _ _ S' (updF_le fun _ h => by cases h) (by simp) fun j hj => by rw [List.getElem?_set_ne (fun z => hj (by simp [z]))]
theorem gs_go : ∀ {is : List Nat} {es : List Expr} {ds : List D} {ρ ρ' : Env}, is.length = ds.length → is.length = es.length → bindD.go ρ is ds = some ρ' → X.N.Nodup →
    (∀ (n i : Nat) (e : Expr), is[n]? = some i → es[n]? = some e → ∃ nm p, e = .Name nm p ∧ X.N[i]? = some nm ∧ Loc X.env.scope nm ∧ (X.fn nm = true ∨ X.env.scope.names.lookup nm = some .local)) → PGs X es (tGs X.K iov ρ is ds ρ')
  | [], [], [], ρ, ρ', _, _, h, _, _ => by
    simp only [bindD.go, Option.some.injEq] at h
    subst h
    refine PGs.imp' pgs_nil ?_
    rintro vs σ H Q ⟨F, fp, S, r, k⟩
    cases vs with
    | nil => exact ⟨rfl, k σ fp S (fun _ _ h => h) rfl fun _ _ => rfl⟩
    | cons v vs => simp only [RepDs] at r
  | [], _, _ :: _, _, _, h, _, _, _, _ => by simp at h
  | [], _ :: _, _, _, _, _, h, _, _, _ => by simp at h
  | _ :: _, _, [], _, _, h, _, _, _, _ => by simp at h
  | _ :: _, [], _, _, _, _, h, _, _, _ => by simp at h
  | i :: is, e :: es, d :: ds, ρ, ρ', hl, hl2, h, hN, hx => by
    obtain ⟨ρ1, e1, e2⟩ := Option.bind_eq_some_iff.mp h
    obtain ⟨nm, p, rfl, h1, h2, h3⟩ := hx 0 i e rfl rfl
    have g1 := g_name (X := X) (iov := iov) (pos := p) hN h1 h2 h3 e1
    have g2 := gs_go (by simpa using hl) (by simpa using hl2) e2 hN fun n j e q1 q2 => hx (n + 1) j e (by simpa using q1) (by simpa using q2)
    refine PGs.imp' (pgs_cons g1 g2 rfl) ?_
    rintro vs σ H Q ⟨F, fp, S, r, k⟩
    cases vs with
    | nil => simp only [RepDs] at r
    | cons v vs =>
      simp only [RepDs] at r
      refine ⟨v, vs, rfl, F, fp, S, r.1, fun σ1 fp1 S1 le1 l1 n1 => ⟨F, fp1, S1, r.2, fun σ2 fp2 S2 le2 l2 n2 => ?_⟩⟩
      exact k σ2 fp2 S2 (fun j b hb => le1 j b (le2 j b hb)) (l2.trans l1) fun j hj => by
        rw [n2 j fun z => hj (.tail _ z), n1 j fun z => hj (by simp at z; simp [z])]
theorem g_tup {is : List Nat} {es : List Expr} {kk : Nat} {d : D} (hc : X.calm = true) (hl2 : is.length = es.length) (h : bindD ρ (.tp is) d = some ρ') (hN : X.N.Nodup) (hlen : (assignEach es X.env).length = es.length) (hst : (assignEach es X.env).findIdx? (·.1) = none)
    (hx : ∀ (n i : Nat) (e : Expr), is[n]? = some i → es[n]? = some e → ∃ nm p, e = .Name nm p ∧ X.N[i]? = some nm ∧ Loc X.env.scope nm ∧ (X.fn nm = true ∨ X.env.scope.names.lookup nm = some .local)) : PG X (.Tuple es kk pos) (tG X.K iov ρ is d ρ') := by
  unfold bindD at h
  cases d with
  | tup ds =>
    simp only at h
    split at h
    · rename_i hl
      refine PG.imp' (pg_tup hc (gs_go (iov := iov) hl hl2 h hN hx) hlen hst) ?_
      rintro v σ H Q ⟨F, fp, S, r, k⟩
      simp only [RepD] at r
      obtain ⟨a, vs, rfl, hq, hr⟩ := r
      exact ⟨a, vs, rfl, hq.sq, by rw [hr.len, ← hl2, hl], F, fp, S, hr, k⟩
    · cases h
  | _ => simp at h
end
end Mv

end
section
/-! Comprehensions. -/
namespace Mv
open PySem PySem.Spec PyProof.Rows L2
theorem PE.all {X : Cx} {e : Expr} {α : Type} {t : α → TE} (h : ∀ a, PE X e (t a)) : PE X e (fun σ H Q => ∃ a, t a σ H Q) := ⟨fun pins s σ H Q I ⟨a, q⟩ => (h a).run pins s σ H Q I q⟩
theorem PTs.all {X : Cx} {e : List Expr} {α : Type} {t : α → TT} (h : ∀ a, PTs X e (t a)) : PTs X e (fun σ H Q => ∃ a, t a σ H Q) := ⟨fun pins s σ H Q I ⟨a, q⟩ => (h a).run pins s σ H Q I q⟩
theorem PG.all {X : Cx} {e : Expr} {α : Type} {t : α → TG} (h : ∀ a, PG X e (t a)) : PG X e (fun v σ H Q => ∃ a, t a v σ H Q) := ⟨fun pins s σ H v u Q I r ⟨a, q⟩ => (h a).run pins s σ H v u Q I r q⟩
section
variable {K : PySem.W.Frag} {iov : Nat → Option V} {F F1 F2 F' : Addr → Prop} {H H1 H2 H' : Hp} {σ : L2.St} {ρ ρ1 ρ5 ρ' : Env} {fp fp1 fp2 fp5 fp' : Fp} {fpv fpa fpb : List Addr} {wr wr1 wr2 : Bool}
theorem TReps.snoc : ∀ {ts : List T} {vs : List V} {fq f : List Addr} {t : T} {v : V}, TReps K F H vs ts fq → TRep K F H v t f → TReps K F H (vs ++ [v]) (ts ++ [t]) (fq ++ f)
  | [], [], fq, f, t, v, h, r => by
    simp only [TReps] at h; subst h
    show TReps K F H [v] [t] f
    simp only [TReps]
    exact ⟨f, [], by simp, r, rfl⟩
  | [], _ :: _, _, _, _, _, h, _ => by simp only [TReps] at h
  | _ :: _, [], _, _, _, _, h, _ => by simp only [TReps] at h
  | t0 :: ts, v0 :: vs, fq, f, t, v, h, r => by
    simp only [TReps] at h
    obtain ⟨f1, f2, rfl, h1, h2⟩ := h
    show TReps K F H (v0 :: (vs ++ [v])) (t0 :: (ts ++ [t])) _
    simp only [TReps]
    exact ⟨f1, f2 ++ f, by simp, h1, TReps.snoc h2 r⟩
theorem Post.shrink (P : Post F H fp F' H' fp' fpv wr) (h : ∀ i b, b ∈ fp2 i → b ∈ fp' i) : Post F H fp F' H' fp2 fpv wr :=
  ⟨P.sub, P.new, P.keep, P.there, fun i b hb => P.fresh i b (h i b hb), P.freshv, fun i b hb => P.disv i b (h i b hb), P.nodv⟩
theorem SR.wipe1 (S : SR K iov [] F H σ ρ fp) (o : Nat) : SR K iov [] F H (σ.set o none) ((Mv.kills o none ρ).set o .no) (updF fp o []) := by
  cases e : ρ[o]? with
  | some s => exact S.rebind ⟨s, e⟩ (by simp) (fun j hj => by rw [List.getElem?_set_ne (Ne.symm hj)]) List.nodup_nil (fun j b _ _ z => (nomatch z)) (show SlotR K iov F H _ [] (updF fp o []) o .no from updF_same)
  | none =>
    have l : ρ.length ≤ o := List.getElem?_eq_none_iff.mp e
    have e1 : σ.set o none = σ := List.set_eq_of_length_le (by rw [← S.len]; exact l)
    have e2 : (Mv.kills o none ρ).set o .no = Mv.kills o none ρ := List.set_eq_of_length_le (by unfold Mv.kills; rw [List.length_map]; exact l)
    have e3 : updF fp o [] = fp := by
      funext j
      by_cases hj : j = o
      · subst hj; rw [updF_same, S.out j e]
      · rw [updF_ne hj]
    rw [e1, e2, e3]
    exact S.kls o none
theorem SR.wipes (S : SR K iov [] F H σ ρ fp) : ∀ os : List Nat, ∃ fp', SR K iov [] F H (wipe σ os) (wipeE ρ os) fp' ∧ ∀ i b, b ∈ fp' i → b ∈ fp i
  | [] => ⟨fp, S, fun _ _ h => h⟩
  | o :: os => by
    obtain ⟨fp1, S1, h1⟩ := S.wipes os
    exact ⟨_, S1.wipe1 o, fun i b hb => h1 i b (updF_le (fun _ z => absurd z (by simp)) i b hb)⟩
def Wiped (ρ : Env) (os : List Nat) : Prop := ∀ o ∈ os, (∀ s, ρ[o]? = some s → s = .no) ∧ ∀ (i k : Nat), ρ[i]? ≠ some (.al o k)
theorem Wiped.wipeE (ρ : Env) : ∀ os : List Nat, Wiped (wipeE ρ os) os
  | [] => fun _ h => absurd h (by simp)
  | o :: os => by
    have ih := Wiped.wipeE ρ os
    intro p hp
    unfold Mv.wipeE
    have al : ∀ (q : Nat), (q = o ∨ ∀ (i k : Nat), (Mv.wipeE ρ os)[i]? ≠ some (.al q k)) → ∀ (i k : Nat), ((Mv.kills o none (Mv.wipeE ρ os)).set o .no)[i]? ≠ some (.al q k) := fun q hq i k e => by
      rw [List.getElem?_set] at e
      split at e
      · split at e <;> cases e
      · rw [kills_get] at e
        obtain ⟨s, e1, e2⟩ := Option.map_eq_some_iff.mp e
        obtain ⟨e3, e4⟩ := kill_al e2
        subst e3
        rcases hq with rfl | hq
        · exact e4 ⟨rfl, .inl rfl⟩
        · exact hq i k e1
    have no : ∀ s, ((Mv.kills o none (Mv.wipeE ρ os)).set o .no)[p]? = some s → (p = o ∨ ∀ s, (Mv.wipeE ρ os)[p]? = some s → s = .no) → s = .no := fun s e hq => by
      rw [List.getElem?_set] at e
      split at e
      · split at e <;> cases e; rfl
      · rename_i hne
        rw [kills_get] at e
        obtain ⟨s1, e1, e2⟩ := Option.map_eq_some_iff.mp e
        rcases hq with rfl | hq
        · exact absurd rfl hne
        · have := hq s1 e1
          subst this
          exact e2.symm
    rcases List.mem_cons.mp hp with rfl | hp
    · exact ⟨fun s e => no s e (.inl rfl), al p (.inl rfl)⟩
    · exact ⟨fun s e => no s e (.inr (ih p hp).1), al p (.inr (ih p hp).2)⟩
theorem restore_get (ρ1 ρ5 : Env) (i : Nat) : ∀ os : List Nat, (restore ρ1 os ρ5)[i]? = if i ∈ os then (ρ5[i]?).map fun _ => keepS ρ1[i]? else ρ5[i]?
  | [] => by simp [restore]
  | o :: os => by
    unfold restore
    rw [List.getElem?_set, restore_get ρ1 ρ5 i os]
    have len : (restore ρ1 os ρ5).length = ρ5.length := by
      clear i
      induction os with
      | nil => rfl
      | cons o os ih => unfold restore; rw [List.length_set, ih]
    by_cases h : o = i
    · subst h
      simp only [if_true, List.mem_cons, true_or, len]
      split
      · rename_i hl
        have : ρ5[o]? = some ρ5[o] := List.getElem?_eq_getElem hl
        rw [this]; rfl
      · rename_i hl
        have : ρ5[o]? = none := List.getElem?_eq_none (by omega)
        rw [this]; rfl
    · have : (i ∈ o :: os) ↔ i ∈ os := by simp [Ne.symm h]
      simp only [h, if_false, this]
theorem restore_len (ρ1 ρ5 : Env) : ∀ os : List Nat, (restore ρ1 os ρ5).length = ρ5.length
  | [] => rfl
  | o :: os => by unfold restore; rw [List.length_set, restore_len ρ1 ρ5 os]
theorem SR.restore {os : List Nat} (S5 : SR K iov [] F' H' (wipe σ os) ρ5 fp5) (wp : Wiped ρ5 os) (S1 : SR K iov [] F1 H1 σ ρ1 fp1) (ho : ownOk ρ1 os = true) (hF : ∀ b, F1 b → F' b) (hk : ∀ b o, F1 b → H1 b = some o → H' b = some o) :
    SR K iov [] F' H' σ (Mv.restore ρ1 os ρ5) fp5 where
  len := by rw [restore_len, S5.len, wipe_length]
  slot := fun i s e _ => by
    rw [restore_get] at e
    split at e
    · rename_i hi
      obtain ⟨s5, e5, e⟩ := Option.map_eq_some_iff.mp e
      have := (wp i hi).1 s5 e5
      subst this
      have f5 : fp5 i = [] := S5.slot i _ e5 (by simp)
      unfold keepS at e
      split at e
      · rename_i d e1
        cases e
        obtain ⟨v, h1, h2⟩ := S1.slot i _ e1 (by simp)
        simp only [TRep] at h2
        refine ⟨v, h1, ?_⟩
        simp only [TRep]
        exact ⟨f5, RepD.mono hF hk d v h2.2⟩
      · cases e; exact f5
    · rename_i hi
      have r := S5.slot i s e (by simp)
      cases s with
      | no => exact r
      | ow t => obtain ⟨v, a, r⟩ := r; exact ⟨v, by rw [wipe_out hi] at a; exact a, r⟩
      | io t => obtain ⟨v, a, c, r⟩ := r; exact ⟨v, by rw [wipe_out hi] at a; exact a, c, r⟩
      | al j k =>
        obtain ⟨z, r⟩ := r
        have hj : j ∉ os := fun hj => (wp j hj).2 i k e
        exact ⟨z, r.imp id fun ⟨v, a, vs, h1, h2, r⟩ => ⟨v, a, vs, by rw [wipe_out hi] at h1; exact h1, by rw [wipe_out hj] at h2; exact h2, r⟩⟩
  exc := fun i h => (nomatch h)
  out := fun i e => S5.out i (by
    rw [restore_get] at e
    split at e
    · simpa using e
    · exact e)
  nod := S5.nod
  dis := S5.dis
  trk := S5.trk
/-- an object beside the tracked ones is changed -/
theorem SR.beside (S : SR K iov [] F H σ ρ fp) {D : Addr} {o : HO} (hF : ¬ F D) (hn : ∀ i, D ∉ fp i) : SR K iov [] F (upd H D o) σ ρ fp where
  len := S.len
  slot := fun i s e hx => by
    have r := S.slot i s e hx
    have go : ∀ {t v}, TRep K F H v t (fp i) → TRep K F (upd H D o) v t (fp i) := fun {t v} r => TRep.mono (fun _ h => h) t v _ (fun b hb => (S.fpF i b hb).1) (fun a u ha e => by
      rw [upd_ne (by rintro rfl; exact ha.elim hF (hn i))]; exact e) r
    cases s with
    | no => exact r
    | ow t => obtain ⟨v, a, r⟩ := r; exact ⟨v, a, go r⟩
    | io t => obtain ⟨v, a, c, r⟩ := r; exact ⟨v, a, c, go r⟩
    | al j k =>
      obtain ⟨z, r⟩ := r
      exact ⟨z, r.imp id fun ⟨v, a, vs, h1, h2, h3, h4, h5⟩ => ⟨v, a, vs, h1, h2, by rw [upd_ne (by rintro rfl; exact h5.elim hF (hn j))]; exact h3, h4, h5⟩⟩
  exc := S.exc
  out := S.out
  nod := S.nod
  dis := S.dis
  trk := fun b hb => by
    by_cases h : b = D
    · subst h; rw [upd_same]; simp
    · rw [upd_ne h]; exact S.trk b hb
/-- the body of a comprehension as a step -/
def lcStep (tgt : Tgt) (evt : Env → Option (Bool × Env)) (eve : Env → Option (Val × Env)) (ρ : Env) (d : D) : Option (Option T × Env) := (bindD ρ tgt d).bind fun ρ2 => match evt ρ2 with
  | some (true, ρ3) => match eve ρ3 with
    | some (v, ρ4) => (fzVal ρ4 v).map fun p => (some p.1, p.2)
    | .none => .none
  | some (false, ρ3) => some (.none, ρ3)
  | .none => .none
structure LcW (wb : Bool) (K : PySem.W.Frag) (iov : Nat → Option V) (f : Env → D → Option (Option T × Env)) (F1 : Addr → Prop) (H1 : Hp) (fp1 : Fp) (σ : L2.St) (os : List Nat) (ds : List D) (tsE : List T) (ρ5 : Env) (D : Addr) (i m : Nat) (H : Hp) (F : Addr → Prop) (fp : Fp) (acc : List V) (fq : List Addr) (ts : List T) (ρ : Env) : Prop where
  S : SR K iov [] F H (wipe σ os) ρ fp
  hacc : H D = some (.lst acc)
  nF : ¬ F D
  nf : ∀ i, D ∉ fp i
  nq : D ∉ fq
  rs : TReps K F H acc ts fq
  P : Post F1 H1 fp1 F H fp (D :: fq) wb
  run : lcLoop f os ρ (ds.drop i) ts = some (tsE, ρ5)
  wp : Wiped ρ os
  m : m = ds.length - i
  le : i ≤ ds.length
theorem lcLoop_len {f : Env → D → Option (Option T × Env)} {os : List Nat} : ∀ {ds : List D} {ρ : Env} {acc ts : List T} {ρ5 : Env}, lcLoop f os ρ ds acc = some (ts, ρ5) → acc.length ≤ ts.length
  | [], ρ, acc, ts, ρ5, h => by simp only [lcLoop, Option.some.injEq, Prod.mk.injEq] at h; rw [h.1]; exact Nat.le_refl _
  | d :: ds, ρ, acc, ts, ρ5, h => by
    unfold lcLoop at h
    split at h
    · have := lcLoop_len h; simp at this; omega
    · exact lcLoop_len h
    · cases h
end
section
variable {X : Cx} {iov : Nat → Option V} {ρ ρ1 ρ5 : Env} {ds : List D} {ts : List T} {wi wt we wb : Bool}
theorem lc_TE (hwt : wt = true → wb = true) (hwe : we = true → wb = true) {own : List Nat} {tgt : Tgt} {ch : List Nat} (hch : ∀ i ∈ ch, i ∈ own) {evt : Env → Option (Bool × Env)} {eve : Env → Option (Val × Env)}
    (hl : lcLoop (lcStep tgt evt eve) own (wipeE ρ1 own) ds [] = some (ts, ρ5)) (hz : ts.length ≤ sizeLine) (ho : ownOk ρ1 own = true) {σ : L2.St} {H : Hp} {Q : VK} (h : tE X.K iov ρ (.t (.lst ts)) (restore ρ1 own ρ5) true σ H Q) :
    tLc (tIW wb X.K iov ρ ds ρ1 wi) (fun v σ H Q => ∃ a : { p : Env × D × Env // bindD p.1 tgt p.2.1 = some p.2.2 }, tG X.K iov a.1.1 ch a.1.2.1 a.1.2.2 v σ H Q)
      (fun σ H Q => ∃ a : { p : Env × Bool × Env // evt p.1 = some p.2 }, tT X.K iov a.1.1 a.1.2.1 a.1.2.2 wt σ H Q)
      (fun σ H Q => ∃ a : { p : Env × Val × Env // eve p.1 = some p.2 }, tE X.K iov a.1.1 a.1.2.1 a.1.2.2 we σ H Q) own σ H Q := by
  obtain ⟨F0, fp0, S0, k⟩ := h
  refine ⟨F0, fp0, S0, fun J H1 F1 fp1 S1 it P1 D hD => ?_⟩
  obtain ⟨fpw, Sw, hw⟩ := S1.wipes own
  have nD : ¬ F1 D := fun f => S1.trk D f hD
  have nd : ∀ i, D ∉ fpw i := fun i hi => (S1.fpF i D (hw i D hi)).2 hD
  refine ⟨fun i m H => ∃ F fp acc fq ts' ρ', LcW wb X.K iov (lcStep tgt evt eve) F1 H1 fp1 σ own ds ts ρ5 D i m H F fp acc fq ts' ρ', ⟨ds.length, F1, fpw, [], [], [], wipeE ρ1 own, ?_⟩, ?_⟩
  · refine ⟨Sw.beside nD nd, upd_same, nD, nd, by simp, by simp only [TReps], ?_, hl, Wiped.wipeE _ _, rfl, Nat.zero_le _⟩
    refine ⟨fun _ h => h, fun _ h => .inl h, fun b o e _ => ?_, fun b hb => ?_, fun i b hb => .inl ⟨i, hw i b hb⟩, fun b hb => ?_, fun i b hb z => ?_, by simp⟩
    · rw [upd_ne (by rintro rfl; rw [hD] at e; cases e)]; exact e
    · rw [upd_ne (by rintro rfl; exact hb hD)]; exact hb
    · simp at hb; subst hb; exact .inr hD
    · simp at z; subst z; exact nd i hb
  · rintro i m H ⟨F, fp, acc, fq, ts', ρ', w⟩
    have hk1 : ∀ b o, F1 b → H1 b = some o → H b = some o := fun b o f e => w.P.keep b o e (.inr fun j hj => (S1.fpF j b hj).1 f)
    have it' := it F H w.P.sub fun b o f e => f.elim (fun z => w.P.keep b o e (.inl z)) fun z => hk1 b o z e
    by_cases hi : i < ds.length
    · -- a turn
      refine .inr ⟨(it'.1 i ds[i] (by rw [List.getElem?_eq_getElem hi])).1, fun H => ∃ F fp acc fq ts' ρ', LcW wb X.K iov (lcStep tgt evt eve) F1 H1 fp1 σ own ds ts ρ5 D (i + 1) (ds.length - (i + 1)) H F fp acc fq ts' ρ', fun H' w' => ⟨ds.length - (i + 1), by rw [w.m]; omega, w'⟩, fun x H2 hy => ?_⟩
      have pr := (it'.1 i ds[i] (by rw [List.getElem?_eq_getElem hi])).2 x H2 hy
      obtain ⟨F2, fx, S2, tx, P2⟩ := w.S.pure pr
      have run := w.run
      rw [List.drop_eq_getElem_cons hi] at run
      unfold lcLoop at run
      have nF2 : ¬ F2 D := fun f => by
        rcases P2.new D f with f | ⟨j, f⟩ | f
        · exact w.nF f
        · exact w.nf j f
        · rw [w.hacc] at f; cases f
      have rx : RepD X.K F2 H2 x ds[i] := by simp only [TRep] at tx; exact tx.2
      -- a test that was not reached
      cases eb : bindD ρ' tgt ds[i] with
      | none => simp [lcStep, eb] at run
      | some ρ2 =>
        refine ⟨⟨(ρ', ds[i], ρ2), eb⟩, F2, fp, S2, rx, fun σ3 fp3 S3 le3 l3 n3 => ⟨?_, ?_⟩⟩
        · apply List.ext_getElem?
          intro j
          by_cases hj : j ∈ own
          · have len : j < σ3.length ↔ j < σ.length := by rw [l3, wipe_length]
            have go : ∀ (σ : L2.St) (os : List Nat), j ∈ os → (wipe σ os)[j]? = if j < σ.length then some none else none := fun σ os => by
              induction os with
              | nil => intro h; cases h
              | cons o os ih =>
                intro h
                unfold wipe
                rw [List.getElem?_set, wipe_length]
                by_cases e : o = j
                · subst e; simp
                · simp only [e, if_false]
                  exact ih ((List.mem_cons.mp h).resolve_left (Ne.symm e))
            rw [go _ _ hj, go _ _ hj]
            simp only [len]
          · rw [wipe_out hj, n3 j fun z => hj (hch j z)]
        · cases et : evt ρ2 with
          | none => simp [lcStep, eb, et] at run
          | some bt =>
            obtain ⟨b, ρ3⟩ := bt
            refine ⟨⟨(ρ2, b, ρ3), et⟩, F2, fp3, S3, fun H3 F3 fp4 S4 P4 => ?_⟩
            have P24 : Post F H fp F3 H3 fp4 [] wt := by
              have : Post F H fp F2 H2 fp3 [] false := (P2.drop0).shrink le3
              have := this.trans P4 fun _ h => (nomatch h)
              simpa using this
            have kD : H3 D = some (.lst acc) := P24.keep D _ w.hacc (.inr fun j hj => w.nf j hj)
            have nF3 : ¬ F3 D := fun f => by
              rcases P24.new D f with f | ⟨j, f⟩ | f
              · exact w.nF f
              · exact w.nf j f
              · rw [w.hacc] at f; cases f
            have nf4 : ∀ j, D ∉ fp4 j := fun j hj => by
              rcases P24.fresh j D hj with ⟨l, z⟩ | z
              · exact w.nf l z
              · rw [w.hacc] at z; cases z
            have dq : ∀ j b, b ∈ fp j → b ∉ fq := fun j b hb hq => w.P.disv j b hb (List.mem_cons_of_mem _ hq)
            have rs3 : TReps X.K F3 H3 acc ts' fq := P24.tmps (fun j b hb => (w.S.fpF j b hb).1) w.rs dq
            have offq : ∀ b ∈ D :: fq, ¬ F b ∧ H b ≠ none := fun b hb => by
              rcases List.mem_cons.mp hb with rfl | hb
              · exact ⟨w.nF, by rw [w.hacc]; simp⟩
              · exact TReps.fps ts' acc fq w.rs b hb
            have P14 : Post F1 H1 fp1 F3 H3 fp4 (D :: fq) wb := by
              have := w.P.trans P24 offq
              rw [show (wb || wt) = wb by cases wb <;> cases wt <;> simp_all] at this
              simpa using this
            cases b with
            | false =>
              simp only [Bool.false_eq_true, if_false]
              simp only [lcStep, eb, et, Option.bind_some] at run
              obtain ⟨fp6, S6, le6⟩ := S4.wipes own
              have e6 : wipe σ3 own = wipe σ own := by
                apply List.ext_getElem?
                intro j
                by_cases hj : j ∈ own
                · have len : j < σ3.length ↔ j < σ.length := by rw [l3, wipe_length]
                  have go : ∀ (σ : L2.St) (os : List Nat), j ∈ os → (wipe σ os)[j]? = if j < σ.length then some none else none := fun σ os => by
                    induction os with
                    | nil => intro h; cases h
                    | cons o os ih =>
                      intro h
                      unfold wipe
                      rw [List.getElem?_set, wipe_length]
                      by_cases e : o = j
                      · subst e; simp
                      · simp only [e, if_false]
                        exact ih ((List.mem_cons.mp h).resolve_left (Ne.symm e))
                  rw [go _ _ hj, go _ _ hj]
                  simp only [len]
                · rw [wipe_out hj, wipe_out hj, n3 j fun z => hj (hch j z), wipe_out hj]
              rw [e6] at S6
              exact ⟨F3, fp6, acc, fq, ts', wipeE ρ3 own, S6, kD, nF3, fun j hj => nf4 j (le6 j D hj), w.nq, rs3, P14.shrink le6, run, Wiped.wipeE _ _, rfl, hi⟩
            | true =>
              simp only [if_true]
              cases ee : eve ρ3 with
              | none => simp [lcStep, eb, et, ee] at run
              | some pe =>
                obtain ⟨v, ρ4⟩ := pe
                cases ez : fzVal ρ4 v with
                | none => simp [lcStep, eb, et, ee, ez] at run
                | some pz =>
                  obtain ⟨t, ρ6⟩ := pz
                  simp only [lcStep, eb, et, ee, ez, Option.bind_some, Option.map_some] at run
                  refine ⟨⟨(ρ3, v, ρ4), ee⟩, F3, fp4, S4, fun y H5 F5 fp5 fv S5 V5 P5 => ?_⟩
                  obtain ⟨F6, fp6, S6, tz, Z⟩ := S5.fzV ez V5
                  have tz' : TRep X.K F6 H5 y t fv := by
                    rcases tz with tz | tz
                    · exact Z.tmp tz P5.disv
                    · exact tz.1
                  have dq4 : ∀ j b, b ∈ fp4 j → b ∉ fq := fun j b hb hq => P14.disv j b hb (List.mem_cons_of_mem _ hq)
                  have rs5 : TReps X.K F5 H5 acc ts' fq := P5.tmps (fun j b hb => (S4.fpF j b hb).1) rs3 dq4
                  have off3 : ∀ b ∈ D :: fq, ¬ F3 b ∧ H3 b ≠ none := fun b hb => by
                    rcases List.mem_cons.mp hb with rfl | hb
                    · exact ⟨nF3, by rw [kD]; simp⟩
                    · exact TReps.fps ts' acc fq rs3 b hb
                  have P15 : Post F1 H1 fp1 F5 H5 fp5 ((D :: fq) ++ fv) wb := by
                    have := P14.trans P5 off3
                    rw [show (wb || we) = wb by cases wb <;> cases we <;> simp_all] at this
                    simpa using this
                  have P16 := P15.fz Z
                  have dq5 : ∀ j b, b ∈ fp5 j → b ∉ fq := fun j b hb hq => P15.disv j b hb (by simp [hq])
                  have rs6 : TReps X.K F6 H5 acc ts' fq := Z.tmps rs5 dq5
                  have kD5 : H5 D = some (.lst acc) := P5.keep D _ kD (.inr nf4)
                  have nF6 : ¬ F6 D := fun f => by
                    rcases Z.new D f with f | ⟨j, f⟩
                    · rcases P5.new D f with f | ⟨j, f⟩ | f
                      · exact nF3 f
                      · exact nf4 j f
                      · rw [kD] at f; cases f
                    · rcases P5.fresh j D f with ⟨l, z⟩ | z
                      · exact nf4 l z
                      · rw [kD] at z; cases z
                  have nf6 : ∀ j, D ∉ fp6 j := fun j hj => P16.disv j D hj (by simp)
                  have nv : D ∉ fv := fun z => by
                    have := P16.nodv
                    simp only [List.cons_append, List.nodup_cons] at this
                    exact this.1 (by simp [z])
                  have lt : acc.length < sizeLine := by
                    have := lcLoop_len run
                    have e := w.rs.len
                    rw [List.length_append] at this
                    simp at this
                    omega
                  refine ⟨acc, kD5, lt, ?_⟩
                  have S7 := S6.beside (o := .lst (acc ++ [y])) nF6 nf6
                  obtain ⟨fp8, S8, le8⟩ := S7.wipes own
                  have e6 : wipe σ3 own = wipe σ own := by
                    apply List.ext_getElem?
                    intro j
                    by_cases hj : j ∈ own
                    · have len : j < σ3.length ↔ j < σ.length := by rw [l3, wipe_length]
                      have go : ∀ (σ : L2.St) (os : List Nat), j ∈ os → (wipe σ os)[j]? = if j < σ.length then some none else none := fun σ os => by
                        induction os with
                        | nil => intro h; cases h
                        | cons o os ih =>
                          intro h
                          unfold wipe
                          rw [List.getElem?_set, wipe_length]
                          by_cases e : o = j
                          · subst e; simp
                          · simp only [e, if_false]
                            exact ih ((List.mem_cons.mp h).resolve_left (Ne.symm e))
                      rw [go _ _ hj, go _ _ hj]
                      simp only [len]
                    · rw [wipe_out hj, wipe_out hj, n3 j fun z => hj (hch j z), wipe_out hj]
                  rw [e6] at S8
                  have bes : ∀ a o, (F6 a ∨ a ∈ fq ++ fv) → H5 a = some o → upd H5 D (.lst (acc ++ [y])) a = some o := fun a o ha e => by
                    rw [upd_ne]
                    · exact e
                    · rintro rfl
                      rcases ha with ha | ha
                      · exact nF6 ha
                      · rcases List.mem_append.mp ha with ha | ha
                        · exact w.nq ha
                        · exact nv ha
                  have off6 : ∀ a ∈ fq ++ fv, ¬ F6 a := fun a ha f => by
                    rcases List.mem_append.mp ha with ha | ha
                    · exact (TReps.fps ts' acc fq rs6 a ha).1 f
                    · exact (TRep.fps t y fv tz' a ha).1 f
                  refine ⟨F6, fp8, acc ++ [y], fq ++ fv, ts' ++ [t], wipeE ρ6 own, S8, upd_same, nF6, fun j hj => nf6 j (le8 j D hj), ?_, TReps.mono (fun _ h => h) _ _ _ off6 bes (rs6.snoc tz'), ?_, run, Wiped.wipeE _ _, rfl, hi⟩
                  · intro z
                    rcases List.mem_append.mp z with z | z
                    · exact w.nq z
                    · exact nv z
                  · have P17 : Post F1 H1 fp1 F6 H5 fp8 (D :: (fq ++ fv)) wb := by
                      have := P16.shrink le8
                      simpa using this
                    refine ⟨P17.sub, P17.new, fun b o e h => ?_, fun b hb => ?_, P17.fresh, P17.freshv, P17.disv, P17.nodv⟩
                    · rw [upd_ne (by
                        rintro rfl
                        rw [hD] at e; cases e)]
                      exact P17.keep b o e h
                    · by_cases hbD : b = D
                      · subst hbD; rw [upd_same]; simp
                      · rw [upd_ne hbD]; exact P17.there b hb
    · -- the end
      have e : i = ds.length := Nat.le_antisymm w.le (Nat.le_of_not_lt hi)
      subst e
      refine .inl ⟨it'.2, ?_⟩
      have run := w.run
      rw [List.drop_length] at run
      simp only [lcLoop, Option.some.injEq, Prod.mk.injEq] at run
      obtain ⟨rfl, rfl⟩ := run
      refine k (.ref D) H F fp (D :: fq) (w.S.restore w.wp S1 ho w.P.sub hk1) ?_ ?_
      · show TRep _ _ _ _ _ _
        simp only [TRep]
        exact ⟨D, acc, fq, rfl, rfl, w.nF, w.hacc, w.rs⟩
      · have := (P1.trans w.P fun _ h => (nomatch h)).wrT
        simpa using this
theorem s_lc {elt tg iter : Expr} {ifs : List Expr} {scope : Scope} {own : List (Str × Nat)} {pos : Pos} {tgt : Tgt} {ch : List Nat} {evt : Env → Option (Bool × Env)} {eve : Env → Option (Val × Env)} (hc : X.calm = true) (hN : X.N.Nodup)
    (hwt : wt = true → wb = true) (hwe : we = true → wb = true) (hi : PI X tg iter (tIW wb X.K iov ρ ds ρ1 wi)) (ok : BlkOk X.N X.env.scope scope own) (hch : ∀ i ∈ ch, i ∈ own.map (·.2))
    (hg : ∀ (s : Shared) (H : Hp) (C : Addr) (cl : List (Str × Addr)) (fp : List Addr) (ρ : Env) (d : D) (ρ2 : Env), bindD ρ tgt d = some ρ2 → PG (X.blk s H scope (compEnvC scope cl C X.env) fp) tg (tG X.K iov ρ ch d ρ2))
    (ht : ∀ (s : Shared) (H : Hp) (C : Addr) (cl : List (Str × Addr)) (fp : List Addr) (ρ : Env) (b : Bool) (ρ2 : Env), evt ρ = some (b, ρ2) → PTs (X.blk s H scope (compEnvC scope cl C X.env) fp) ifs (tT X.K iov ρ b ρ2 wt))
    (he : ∀ (s : Shared) (H : Hp) (C : Addr) (cl : List (Str × Addr)) (fp : List Addr) (ρ : Env) (v : Val) (ρ2 : Env), eve ρ = some (v, ρ2) → PE (X.blk s H scope (compEnvC scope cl C X.env) fp) elt (tE X.K iov ρ v ρ2 we))
    (hs : ∀ x, foldedSetIterable iter X.env x = pure x)
    (hl : lcLoop (lcStep tgt evt eve) (own.map (·.2)) (wipeE ρ1 (own.map (·.2))) ds [] = some (ts, ρ5)) (hz : ts.length ≤ sizeLine) (ho : ownOk ρ1 (own.map (·.2)) = true) :
    PE X (.ListComp elt [⟨tg, iter, ifs, 0⟩] scope pos) (tE X.K iov ρ (.t (.lst ts)) (restore ρ1 (own.map (·.2)) ρ5) true) :=
  PE.imp' (pe_lc hc hN hi ok (fun s H C cl fp => PG.all fun a : { p : Env × D × Env // bindD p.1 tgt p.2.1 = some p.2.2 } => hg s H C cl fp a.1.1 a.1.2.1 a.1.2.2 a.2)
    (fun s H C cl fp => PTs.all fun a : { p : Env × Bool × Env // evt p.1 = some p.2 } => ht s H C cl fp a.1.1 a.1.2.1 a.1.2.2 a.2)
    (fun s H C cl fp => PE.all fun a : { p : Env × Val × Env // eve p.1 = some p.2 } => he s H C cl fp a.1.1 a.1.2.1 a.1.2.2 a.2) hs)
    fun σ H Q h => lc_TE hwt hwe hch hl hz ho h
end
end Mv

end
section
/-! Statements. -/
namespace Mv
open PySem PySem.Spec PyProof.Rows L2
def OutK (K : PySem.W.Frag) (iov : Nat → Option V) (F : Addr → Prop) (H : Hp) (fp : Fp) (D : Ends) : Out → Prop
  | .nx ρ' => ∀ σ' H' F' fp', SR K iov [] F' H' σ' ρ' fp' → Post F H fp F' H' fp' [] true → D.nx σ' H'
  | .ct ρ' => ∀ σ' H' F' fp', SR K iov [] F' H' σ' ρ' fp' → Post F H fp F' H' fp' [] true → D.ct σ' H'
  | .bk ρ' => ∀ σ' H' F' fp', SR K iov [] F' H' σ' ρ' fp' → Post F H fp F' H' fp' [] true → D.bk σ' H'
  | .rt t ρ' => ∀ v σ' H' F' fp' fpv, SR K iov [] F' H' σ' ρ' fp' → TRep K F' H' v t fpv → Post F H fp F' H' fp' fpv true → D.rt v H'
def tS (K : PySem.W.Frag) (iov : Nat → Option V) (ρ : Env) (o : Out) : TS := fun D σ H => ∃ F fp, SR K iov [] F H σ ρ fp ∧ OutK K iov F H fp D o
theorem PS.imp' {X : Cx} {e : Stmt} {t t' : TS} (h : PS X e t) (k : ∀ D σ H, t' D σ H → t D σ H) : PS X e t' := ⟨fun pins s σ H D I q => h.run pins s σ H D I (k _ _ _ q)⟩
theorem PSs.imp' {X : Cx} {e : List Stmt} {t t' : TS} (h : PSs X e t) (k : ∀ D σ H, t' D σ H → t D σ H) : PSs X e t' := ⟨fun pins s σ H D I q => h.run pins s σ H D I (k _ _ _ q)⟩
theorem PSs.all {X : Cx} {e : List Stmt} {α : Type} {t : α → TS} (h : ∀ a, PSs X e (t a)) : PSs X e (fun D σ H => ∃ a, t a D σ H) := ⟨fun pins s σ H D I ⟨a, q⟩ => (h a).run pins s σ H D I q⟩
theorem PT.all {X : Cx} {e : Expr} {α : Type} {t : α → TT} (h : ∀ a, PT X e (t a)) : PT X e (fun σ H Q => ∃ a, t a σ H Q) := ⟨fun pins s σ H Q I ⟨a, q⟩ => (h a).run pins s σ H Q I q⟩
section
variable {X : Cx} {K : PySem.W.Frag} {iov : Nat → Option V} {F F0 F1 F2 F' Fc : Addr → Prop} {H H0 H1 H2 H' : Hp} {fp fp0 fp1 fp2 fp' : Fp} {fa fb fx fpv : List Addr} {t x y : T} {v w vx vy : V} {b : Bool} {ρ ρ1 ρ2 ρ3 ρ4 ρ' : Env} {wr wa wb wc : Bool} {va vb vc : Val} {σ : L2.St} {e e1 e2 e3 tg : Expr} {es : List Expr} {pos : Pos} {as : List Val} {ds : List D} {o : Out} {D : Ends}
theorem OutK.after (P : Post F H fp F1 H1 fp1 [] wr) (h : OutK K iov F H fp D o) : OutK K iov F1 H1 fp1 D o := by
  have P := P.wrT
  cases o with
  | nx ρ' => exact fun σ' H' F' fp' S Q => h σ' H' F' fp' S (P.trans Q fun _ z => (nomatch z))
  | ct ρ' => exact fun σ' H' F' fp' S Q => h σ' H' F' fp' S (P.trans Q fun _ z => (nomatch z))
  | bk ρ' => exact fun σ' H' F' fp' S Q => h σ' H' F' fp' S (P.trans Q fun _ z => (nomatch z))
  | rt t ρ' => exact fun v σ' H' F' fp' fpv S V Q => h v σ' H' F' fp' fpv S V (P.trans Q fun _ z => (nomatch z))
theorem Post.bound (P : Post F H fp F1 H1 fp1 fpv wr) (i : Nat) : Post F H fp F1 H1 (updF fp1 i fpv) [] true := by
  have P := P.wrT
  exact ⟨P.sub, P.new, P.keep, P.there, fun j b hb => by
    by_cases hj : j = i
    · subst hj; rw [updF_same] at hb; exact P.freshv b hb
    · rw [updF_ne hj] at hb; exact P.fresh j b hb, fun _ h => (nomatch h), fun _ _ _ h => (nomatch h), List.nodup_nil⟩
/-! ### simple statements -/
theorem st_pass : PS X (.Pass pos) (tS X.K iov ρ (.nx ρ)) := PS.imp' ps_pass fun D σ H ⟨F, fp, S, k⟩ => k σ H F fp S (.refl S)
theorem st_cont : PS X (.Continue pos) (tS X.K iov ρ (.ct ρ)) := PS.imp' ps_continue fun D σ H ⟨F, fp, S, k⟩ => k σ H F fp S (.refl S)
theorem st_brk : PS X (.Break pos) (tS X.K iov ρ (.bk ρ)) := PS.imp' ps_break fun D σ H ⟨F, fp, S, k⟩ => k σ H F fp S (.refl S)
theorem st_retN : PS X (.Return none pos) (tS X.K iov ρ (.rt (.fz .none) ρ)) := PS.imp' ps_retN fun D σ H ⟨F, fp, S, k⟩ => k _ σ H F fp [] S (by simp only [TRep, RepD, and_self]) (.refl S)
theorem st_ret (he : PE X e (tE X.K iov ρ va ρ1 wa)) (hz : fzVal ρ1 va = some (t, ρ2)) : PS X (.Return (some e) pos) (tS X.K iov ρ (.rt t ρ2)) := by
  refine PS.imp' (ps_ret he) ?_
  rintro D σ H ⟨F, fp, S, k⟩
  refine ⟨F, fp, S, fun v H1 F1 fp1 fpv S1 V1 P1 => ?_⟩
  obtain ⟨F2, fp2, S2, tz, Z⟩ := S1.fzV hz V1
  refine k v σ H1 F2 fp2 fpv S2 ?_ (P1.fz Z).wrT
  rcases tz with tz | tz
  · exact Z.tmp tz P1.disv
  · exact tz.1
theorem st_exp (he : PE X e (tE X.K iov ρ va ρ1 wa)) (hs : swapsWith e none pos.line X.env = pure false) : PS X (.Expr e pos) (tS X.K iov ρ (.nx ρ1)) :=
  PS.imp' (ps_expr he hs) fun D σ H ⟨F, fp, S, k⟩ => ⟨F, fp, S, fun v H1 F1 fp1 fpv S1 V1 P1 => k σ H1 F1 fp1 S1 P1.drop0.wrT⟩
theorem st_set {i : Nat} {nm : Str} {p : Pos} (hN : X.N.Nodup) (hi : X.N[i]? = some nm) (hx : Loc X.env.scope nm) (hf : X.fn nm = true ∨ X.env.scope.names.lookup nm = some .local) (he : PE X e (tE X.K iov ρ va ρ1 wa)) (hb : bindS ρ1 i va = some ρ')
    (hs : swapsWith e (some (.Name nm p)) pos.line X.env = pure false) : PS X (.Assign [.Name nm p] e pos) (tS X.K iov ρ (.nx ρ')) := by
  refine PS.imp' (ps_set hN hi hx he hs hf) ?_
  rintro D σ H ⟨F, fp, S, k⟩
  exact ⟨F, fp, S, fun v H1 F1 fp1 fpv S1 V1 P1 => k _ H1 F1 _ (S1.bind hb V1 P1.nodv P1.disv) (P1.bound i)⟩
/-- name = [..] on one line -/
theorem st_setLc {i : Nat} {nm : Str} {p spos : Pos} {elt tg iter : Expr} {ifs : List Expr} {scope : Scope} {own : List (Str × Nat)} {pos : Pos} {tgt : Tgt} {ch : List Nat} {evt : Env → Option (Bool × Env)} {eve : Env → Option (Val × Env)} {wi wt we wb : Bool} {ρ5 : Env} {ts : List T} (hc : X.calm = true) (hN : X.N.Nodup)
    (hn : X.N[i]? = some nm) (hyl : X.env.scope.names.lookup nm = some .local) (hsw : swapsWith (.ListComp elt [⟨tg, iter, ifs, 0⟩] scope pos) (some (.Name nm p)) spos.line X.env = pure true)
    (hwt : wt = true → wb = true) (hwe : we = true → wb = true) (hi : PI X tg iter (tIW wb X.K iov ρ ds ρ1 wi)) (ok : BlkOk X.N X.env.scope scope own) (hch : ∀ i ∈ ch, i ∈ own.map (·.2))
    (hg : ∀ (s : Shared) (H : Hp) (C : Addr) (cl : List (Str × Addr)) (fp : List Addr) (ρ : Env) (d : Mv.D) (ρ2 : Env), bindD ρ tgt d = some ρ2 → PG (X.blk s H scope (compEnvC scope cl C X.env) fp) tg (tG X.K iov ρ ch d ρ2))
    (ht : ∀ (s : Shared) (H : Hp) (C : Addr) (cl : List (Str × Addr)) (fp : List Addr) (ρ : Env) (b : Bool) (ρ2 : Env), evt ρ = some (b, ρ2) → PTs (X.blk s H scope (compEnvC scope cl C X.env) fp) ifs (tT X.K iov ρ b ρ2 wt))
    (he : ∀ (s : Shared) (H : Hp) (C : Addr) (cl : List (Str × Addr)) (fp : List Addr) (ρ : Env) (v : Val) (ρ2 : Env), eve ρ = some (v, ρ2) → PE (X.blk s H scope (compEnvC scope cl C X.env) fp) elt (tE X.K iov ρ v ρ2 we))
    (hs : ∀ x, foldedSetIterable iter X.env x = pure x)
    (hl : lcLoop (lcStep tgt evt eve) (own.map (·.2)) (wipeE ρ1 (own.map (·.2))) ds [] = some (ts, ρ5)) (hz : ts.length ≤ sizeLine) (ho : ownOk ρ1 (own.map (·.2)) = true)
    (hb : bindS (restore ρ1 (own.map (·.2)) ρ5) i (.t (.lst ts)) = some ρ') :
    PS X (.Assign [.Name nm p] (.ListComp elt [⟨tg, iter, ifs, 0⟩] scope pos) spos) (tS X.K iov ρ (.nx ρ')) := by
  refine PS.imp' (ps_setLc hc hN hn hyl hsw hi ok (fun s H C cl fp => PG.all fun a : { p : Env × Mv.D × Env // bindD p.1 tgt p.2.1 = some p.2.2 } => hg s H C cl fp a.1.1 a.1.2.1 a.1.2.2 a.2)
    (fun s H C cl fp => PTs.all fun a : { p : Env × Bool × Env // evt p.1 = some p.2 } => ht s H C cl fp a.1.1 a.1.2.1 a.1.2.2 a.2)
    (fun s H C cl fp => PE.all fun a : { p : Env × Val × Env // eve p.1 = some p.2 } => he s H C cl fp a.1.1 a.1.2.1 a.1.2.2 a.2) hs) ?_
  rintro D σ H ⟨F, fp, S, k⟩
  refine lc_TE hwt hwe hch hl hz ho ⟨F, fp, S, fun v H1 F1 fp1 fpv S1 V1 P1 => ?_⟩
  exact k _ H1 F1 _ (S1.bind hb V1 P1.nodv P1.disv) (P1.bound i)
/-! ### sequences, if -/
theorem sts_nil : PSs X [] (tS X.K iov ρ (.nx ρ)) := PSs.imp' pss_nil fun D σ H ⟨F, fp, S, k⟩ => k σ H F fp S (.refl S)
theorem sts_cons {st : Stmt} {rest : List Stmt} (h1 : PS X st (tS X.K iov ρ (.nx ρ1))) (h2 : PSs X rest (tS X.K iov ρ1 o)) : PSs X (st :: rest) (tS X.K iov ρ o) :=
  PSs.imp' (pss_cons h1 h2) fun D σ H ⟨F, fp, S, k⟩ => ⟨F, fp, S, fun σ' H' F' fp' S' P => ⟨F', fp', S', k.after P⟩⟩
theorem sts_end {st : Stmt} {rest : List Stmt} (h1 : PS X st (tS X.K iov ρ o)) (ho : ∀ ρ', o ≠ .nx ρ') : PSs X (st :: rest) (tS X.K iov ρ o) :=
  PSs.imp' (pss_cons h1 pss_never) fun D σ H ⟨F, fp, S, k⟩ => ⟨F, fp, S, by
    cases o with
    | nx ρ' => exact absurd rfl (ho ρ')
    | ct ρ' => exact k
    | bk ρ' => exact k
    | rt t ρ' => exact k⟩
theorem st_if {c : Bool} {p q : List Stmt} (hc : PT X e (tT X.K iov ρ c ρ1 wc)) (ha : c = true → PSs X p (tS X.K iov ρ1 o)) (hb : c = false → PSs X q (tS X.K iov ρ1 o)) : PS X (.If e p q pos) (tS X.K iov ρ o) := by
  cases c with
  | true =>
    refine PS.imp' (ps_if hc (ha rfl) pss_never) ?_
    rintro D σ H ⟨F, fp, S, k⟩
    exact ⟨F, fp, S, fun H1 F1 fp1 S1 P1 => iteT ⟨F1, fp1, S1, k.after P1⟩⟩
  | false =>
    refine PS.imp' (ps_if hc pss_never (hb rfl)) ?_
    rintro D σ H ⟨F, fp, S, k⟩
    exact ⟨F, fp, S, fun H1 F1 fp1 S1 P1 => iteF ⟨F1, fp1, S1, k.after P1⟩⟩
/-! ### loops -/
theorem st_for {body : List Stmt} {tgt : Tgt} {ch : List Nat} {f : Env → Option Out} (hp : PassesOwn (model X.prog X.w) X.A X.env X.xe) (hc : X.calm = true) (hi : PI X tg e (tI X.K iov ρ ds ρ1 wa))
    (hg : ∀ (ρ : Env) (d : Mv.D) (ρ2 : Env), bindD ρ tgt d = some ρ2 → PG X tg (tG X.K iov ρ ch d ρ2)) (hb : ∀ (ρ : Env) (o : Out), f ρ = some o → PSs X body (tS X.K iov ρ o)) (hs : ∀ x, foldedSetIterable e X.env x = pure x)
    (hl : forLoop (fun ρ d => (bindD ρ tgt d).bind f) ρ1 ds = some o) : PS X (.For tg e body [] pos) (tS X.K iov ρ o) := by
  refine PS.imp' (ps_for hp hc hi (PG.all fun a : { p : Env × Mv.D × Env // bindD p.1 tgt p.2.1 = some p.2.2 } => hg a.1.1 a.1.2.1 a.1.2.2 a.2) (PSs.all fun a : { p : Env × Out // f p.1 = some p.2 } => hb a.1.1 a.1.2 a.2) hs) ?_
  rintro D σ H ⟨F0, fp0, S0, k⟩
  refine ⟨F0, fp0, S0, fun J H1 F1 fp1 S1 it P1 => ?_⟩
  have k1 := k.after P1
  refine ⟨fun i m σ H => ∃ F fp ρ', SR X.K iov [] F H σ ρ' fp ∧ Post F1 H1 fp1 F H fp [] true ∧ forLoop (fun ρ d => (bindD ρ tgt d).bind f) ρ' (ds.drop i) = some o ∧ m = ds.length - i ∧ i ≤ ds.length,
    ⟨ds.length, F1, fp1, ρ1, S1, .refl S1, hl, rfl, Nat.zero_le _⟩, ?_⟩
  rintro i m σ H ⟨F, fp, ρ', S, P, run, hm, hle⟩
  have hk1 : ∀ b o, F1 b → H1 b = some o → H b = some o := fun b o g e => P.keep b o e (.inr fun j hj => (S1.fpF j b hj).1 g)
  have it' := it F H P.sub hk1
  by_cases hi : i < ds.length
  · refine .inr ⟨(it'.1 i ds[i] (by rw [List.getElem?_eq_getElem hi])).1, fun σ H => ∃ F fp ρ', SR X.K iov [] F H σ ρ' fp ∧ Post F1 H1 fp1 F H fp [] true ∧ forLoop (fun ρ d => (bindD ρ tgt d).bind f) ρ' (ds.drop (i + 1)) = some o ∧ ds.length - (i + 1) = ds.length - (i + 1) ∧ i + 1 ≤ ds.length, fun σ' H' w' => ⟨ds.length - (i + 1), by omega, w'⟩, fun x H2 hy => ?_⟩
    have pr := (it'.1 i ds[i] (by rw [List.getElem?_eq_getElem hi])).2 x H2 hy
    obtain ⟨F2, fx, S2, tx, P2⟩ := S.pure pr
    have rx : RepD X.K F2 H2 x ds[i] := by simp only [TRep] at tx; exact tx.2
    rw [List.drop_eq_getElem_cons hi] at run
    unfold forLoop at run
    cases eb : bindD ρ' tgt ds[i] with
    | none => simp [eb] at run
    | some ρ2 =>
      refine ⟨⟨(ρ', ds[i], ρ2), eb⟩, F2, fp, S2, rx, fun σ3 fp3 S3 le3 l3 n3 => ?_⟩
      cases ef : f ρ2 with
      | none => simp [eb, ef] at run
      | some r =>
        refine ⟨⟨(ρ2, r), ef⟩, F2, fp3, S3, ?_⟩
        have P13 : Post F1 H1 fp1 F2 H2 fp3 [] true := by
          have := (P.trans P2.drop0 fun _ h => (nomatch h)).shrink le3
          simpa using this
        simp only [eb, ef, Option.bind_some] at run
        cases r with
        | nx ρ4 => exact fun σ' H' F' fp' S' P' => ⟨F', fp', ρ4, S', P13.trans P' fun _ h => (nomatch h), run, rfl, hi⟩
        | ct ρ4 => exact fun σ' H' F' fp' S' P' => ⟨F', fp', ρ4, S', P13.trans P' fun _ h => (nomatch h), run, rfl, hi⟩
        | bk ρ4 =>
          cases run
          exact k1.after P13
        | rt t ρ4 =>
          cases run
          exact k1.after P13
  · have e : i = ds.length := Nat.le_antisymm hle (Nat.le_of_not_lt hi)
    subst e
    rw [List.drop_length] at run
    simp only [forLoop, Option.some.injEq] at run
    subst run
    exact .inl ⟨it'.2, k1 σ H F fp S P⟩
theorem st_while {body : List Stmt} {evt : Env → Option (Bool × Env)} {f : Env → Option Out} {n : Nat} (hp : PassesOwn (model X.prog X.w) X.A X.env X.xe) (hc : ∀ (ρ : Env) (b : Bool) (ρ2 : Env), evt ρ = some (b, ρ2) → PT X e (tT X.K iov ρ b ρ2 wc)) (hb : ∀ (ρ : Env) (o : Out), f ρ = some o → PSs X body (tS X.K iov ρ o))
    (hl : whLoop evt f n ρ = some o) : PS X (.While e body [] pos) (tS X.K iov ρ o) := by
  refine PS.imp' (ps_while hp (PT.all fun a : { p : Env × Bool × Env // evt p.1 = some p.2 } => hc a.1.1 a.1.2.1 a.1.2.2 a.2) (PSs.all fun a : { p : Env × Out // f p.1 = some p.2 } => hb a.1.1 a.1.2 a.2)) ?_
  rintro D σ H0 ⟨F0, fp0, S0, k⟩
  refine ⟨fun m σ H => ∃ F fp ρ', SR X.K iov [] F H σ ρ' fp ∧ Post F0 H0 fp0 F H fp [] true ∧ whLoop evt f m ρ' = some o, ⟨n, F0, fp0, ρ, S0, .refl S0, hl⟩, ?_⟩
  rintro m σ1 H1 ⟨F, fp, ρ', S, P, run⟩
  cases m with
  | zero => simp [whLoop] at run
  | succ m =>
    unfold whLoop at run
    cases et : evt ρ' with
    | none => simp [et] at run
    | some bt =>
      obtain ⟨c, ρ2⟩ := bt
      refine ⟨⟨(ρ', c, ρ2), et⟩, F, fp, S, fun H2 F2 fp2 S2 P2 => ?_⟩
      have P02 : Post F0 H0 fp0 F2 H2 fp2 [] true := by
        have := P.trans P2 fun _ h => (nomatch h)
        simpa using this
      cases c with
      | false =>
        simp only [et, Option.some.injEq] at run
        subst run
        exact iteF (k σ1 H2 F2 fp2 S2 P02)
      | true =>
        refine iteT ?_
        simp only [et] at run
        cases ef : f ρ2 with
        | none => simp [ef] at run
        | some r =>
          simp only [ef] at run
          refine ⟨fun σ H => ∃ F fp ρ', SR X.K iov [] F H σ ρ' fp ∧ Post F0 H0 fp0 F H fp [] true ∧ whLoop evt f m ρ' = some o, fun σ' H' w' => ⟨m, Nat.lt_succ_self m, w'⟩, ⟨(ρ2, r), ef⟩, F2, fp2, S2, ?_⟩
          cases r with
          | nx ρ4 => exact fun σ' H' F' fp' S' P' => ⟨F', fp', ρ4, S', P02.trans P' fun _ h => (nomatch h), run⟩
          | ct ρ4 => exact fun σ' H' F' fp' S' P' => ⟨F', fp', ρ4, S', P02.trans P' fun _ h => (nomatch h), run⟩
          | bk ρ4 =>
            cases run
            exact k.after P02
          | rt t ρ4 =>
            cases run
            exact k.after P02
end
end Mv

end
section
/-! Stores into objects, several names, append. -/
namespace Mv
open PySem PySem.Spec PyProof.Rows L2
section
variable {X : Cx} {K : PySem.W.Frag} {iov : Nat → Option V} {F F0 F1 F2 F' Fc : Addr → Prop} {H H0 H1 H2 H' : Hp} {fp fp0 fp1 fp2 fp' : Fp} {fa fb fx fpv : List Addr} {t x y : T} {v w vx vy : V} {b : Bool} {ρ ρ1 ρ2 ρ3 ρ4 ρ' : Env} {wr wa wb wc : Bool} {va vb vc : Val} {σ : L2.St} {e e1 e2 e3 tg : Expr} {es : List Expr} {pos : Pos} {as : List Val} {ds : List D} {o : Out}
/-- an operation of two known ints -/
def ipC (n m r : Int) : TIp := fun x y H Q => x = .int n ∧ y = .int m ∧ Q (.int r) H
theorem ip_c {op : Operator} {f : Int → Int → Int} (h : PIp X op (ipI f)) (n m : Int) : PIp X op (ipC n m (f n m)) := fun pins s σ H x y v u Q I r1 r2 ⟨e1, e2, q⟩ => h pins s σ H x y v u Q I r1 r2 ⟨n, m, e1, e2, q⟩
theorem ip_mulX {n m : Int} (h1 : okI n = true) (h2 : okI m = true) : PIp X .Mult (ipC n m (n * m)) := by
  intro pins s σ H x y v u Q I r1 r2 h
  obtain ⟨e1, e2, q⟩ := h
  subst e1; subst e2
  obtain ⟨t, rfl⟩ := r1
  obtain ⟨t', rfl⟩ := r2
  have hc : CMulX n m := by
    have := bits_okI h1
    have := bits_okI h2
    unfold CMulX; omega
  exact imul_int ⟨.int _, H, I.tok _, ⟨_, rfl⟩, q⟩ hc.ok
/-- name op= e, ints -/
theorem st_aug {i : Nat} {nm : Str} {p : Pos} {op : Operator} {r n m : Int} (hN : X.N.Nodup) (hi : X.N[i]? = some nm) (hx : Loc X.env.scope nm) (hf : X.fn nm = true ∨ X.env.scope.names.lookup nm = some .local) (ho : PIp X op (ipC n m r))
    (hr : rdName ρ i = some (.t (.fz (.int n)))) (he : PE X e (tE X.K iov ρ (.t (.fz (.int m))) ρ1 wa)) (hb : bindS ρ1 i (.t (.fz (.int r))) = some ρ') :
    PS X (.AugAssign (.Name nm p) op e pos) (tS X.K iov ρ (.nx ρ')) := by
  refine PS.imp' (ps_aug hN hi hx he ho hf) ?_
  rintro D σ H ⟨F, fp, S, k⟩
  have hv : σ[i]? = some (some (.int n)) := by
    unfold rdName at hr
    split at hr
    · rename_i t e0
      obtain ⟨v, h1, h2⟩ := S.slot i _ e0 (by simp)
      cases t with
      | fz d => simp at hr; subst hr; simp only [TRep, RepD] at h2; rw [h1, h2.2]
      | lst ts => simp at hr
      | tup ts => simp at hr
      | dct ks ts => simp at hr
    · rename_i t e0
      obtain ⟨v, h1, _, h2⟩ := S.slot i _ e0 (by simp)
      cases t with
      | fz d => simp at hr; subst hr; simp only [TRep, RepD] at h2; rw [h1, h2.2]
      | lst ts => simp at hr
      | tup ts => simp at hr
      | dct ks ts => simp at hr
    · rename_i j l e0
      obtain ⟨_, h⟩ := S.slot i _ e0 (by simp)
      rcases h with h | ⟨v, a, vs, h1, h2, h3, h4, h5⟩
      · cases h
      · split at hr
        · rename_i d eg
          cases hr
          have := getPt_fz S eg (show VR X.K F H σ (.pt j (some l)) v [] from ⟨rfl, a, vs, h2, h3, h4⟩)
          simp only [TRep, RepD] at this
          rw [h1, this.2]
        · cases hr
        · cases hr
    · cases hr
  refine ⟨_, hv, F, fp, S, fun w H1 F1 fp1 fpv S1 V1 P1 => ⟨rfl, trep_int V1, ?_⟩⟩
  exact k _ H1 F1 _ (S1.bind hb (fpv := []) vr_int List.nodup_nil fun _ _ _ z => (nomatch z)) (P1.drop0.bound i)
/-! ### an object is changed -/
theorem st_fin {j : Nat} {a : Addr} {o : HO} {f1 fq f3 fq' : List Addr} (P : Post F0 H0 fp0 F H fp fpv wr) (S : SR K iov [] F H σ ρ fp) (efp : fp j = f1 ++ fq ++ f3) (ha : a ∈ fq) (sub : ∀ b ∈ fq', b ∈ fq ∨ b ∈ fpv) : Post F0 H0 fp0 F (upd H a o) (updF fp j (f1 ++ fq' ++ f3)) [] true where
  sub := P.sub
  new := P.new
  keep := fun b u e h => by
    have P := P.wrT
    have k := P.keep b u e (.inr (h.resolve_left (fun z => nomatch z)))
    by_cases hb : b = a
    · subst hb
      have hj : b ∈ fp j := by rw [efp]; simp [ha]
      rcases P.fresh j b hj with ⟨i, z⟩ | z
      · exact absurd z (h.resolve_left (fun z => nomatch z) i)
      · rw [e] at z; cases z
    · rw [upd_ne hb]; exact k
  there := fun b h => by
    by_cases hb : b = a
    · subst hb; rw [upd_same]; simp
    · rw [upd_ne hb]; exact P.there b h
  fresh := fun i b hb => by
    by_cases hi : i = j
    · subst hi
      rw [updF_same] at hb
      have : b ∈ fp i ∨ b ∈ fpv := by
        rcases List.mem_append.mp hb with hb | hb
        · rcases List.mem_append.mp hb with hb | hb
          · exact .inl (by rw [efp]; simp [hb])
          · exact (sub b hb).imp (fun z => by rw [efp]; simp [z]) id
        · exact .inl (by rw [efp]; simp [hb])
      exact this.elim (P.fresh i b) (P.freshv b)
    · rw [updF_ne hi] at hb; exact P.fresh i b hb
  freshv := fun _ h => (nomatch h)
  disv := fun _ _ _ h => (nomatch h)
  nodv := List.nodup_nil
theorem sub_nodup {f1 fq f3 : List Addr} (h : (f1 ++ fq ++ f3).Nodup) : fq.Nodup := (List.nodup_append.mp (List.nodup_append.mp h).1).2.1
/-- the object at a place is given another content -/
theorem SR.updO {j : Nat} {k : Option Nat} {y : T} {o : HO} {a : Addr} {f1 f3 fq fq' : List Addr} (S : SR K iov [] F H σ ρ fp) (P : Post F0 H0 fp0 F H fp fpv wr) (efp : fp j = f1 ++ fq ++ f3) (ha : a ∈ fq)
    (q : ∀ F' H' fq', (∀ b, F b → F' b) → (∀ b, F' b → F b ∨ b ∈ fq ∨ H b = none) → (∀ b o, H b = some o → b ∉ fq ∨ H' = H → H' b = some o) → (∀ b, F' b → H' b ≠ none) → TRep K F' H' (.ref a) y fq' → fq'.Nodup →
      (∀ b ∈ fq', b ∈ fq ∨ ∀ m, b ∉ fp m) → (k = none → ∀ (m l : Nat) (v' : V) (a' : Addr) (vs : List V), ρ[m]? = some (Slot.al j l) → V.ref a = .ref a' → H a' = some (.lst vs) → vs[l]? = some v' → ∃ vs', H' a' = some (.lst vs') ∧ vs'[l]? = some v' ∧ (F' a' ∨ a' ∈ fq')) →
      SR K iov [] F' H' σ ρ' (updF fp j (f1 ++ fq' ++ f3)))
    (hy : TRep K F (upd H a o) (.ref a) y fq') (sub : ∀ b ∈ fq', b ∈ fq ∨ b ∈ fpv) (nd : fq'.Nodup) (al : k = none → ∀ (m l : Nat) (v' : V) (vs : List V), ρ[m]? = some (Slot.al j l) → H a = some (.lst vs) → vs[l]? = some v' → ∃ vs', o = .lst vs' ∧ vs'[l]? = some v' ∧ a ∈ fq') :
    SR K iov [] F (upd H a o) σ ρ' (updF fp j (f1 ++ fq' ++ f3)) ∧ Post F0 H0 fp0 F (upd H a o) (updF fp j (f1 ++ fq' ++ f3)) [] true := by
  refine ⟨q F (upd H a o) fq' (fun _ h => h) (fun _ h => .inl h) (fun b u e h => ?_) (fun b hb => ?_) hy nd (fun b hb => (sub b hb).imp id fun z m hm => P.disv m b hm z) fun hk m l v' a' vs1 e1 e2 e3 e4 => ?_, st_fin P S efp ha sub⟩
  · rcases h with h | h
    · rw [upd_ne (by rintro rfl; exact h ha)]; exact e
    · rw [h]; exact e
  · by_cases hb' : b = a
    · subst hb'; rw [upd_same]; simp
    · rw [upd_ne hb']; exact S.trk b hb
  · cases e2
    obtain ⟨vs', r1, r2, r3⟩ := al hk m l v' vs1 e1 e3 e4
    exact ⟨vs', by rw [upd_same, r1], r2, .inr r3⟩
theorem tl {f1 f3 fr : List Addr} {a : Addr} (h : (f1 ++ (a :: fr) ++ f3).Nodup) : a ∉ fr ∧ fr.Nodup := List.nodup_cons.mp (sub_nodup h)
theorem stands_f {v : Val} : stands v false = true := by
  cases v with
  | t t => rfl
  | pt i k => cases k <;> rfl
theorem aside {a : Addr} {o : HO} {ts : List T} {vs : List V} {fr : List Addr} (h : TReps K F H vs ts fr) (nF : ¬ F a) (na : a ∉ fr) : TReps K F (upd H a o) vs ts fr :=
  TReps.mono (fun _ h => h) ts vs fr (fun b hb => (TReps.fps ts vs fr h b hb).1) (fun b u hb e => by rw [upd_ne (by rintro rfl; exact hb.elim nF na)]; exact e) h
theorem aside1 {a : Addr} {o : HO} {t : T} {v : V} {fr : List Addr} (h : TRep K F H v t fr) (nF : ¬ F a) (na : a ∉ fr) : TRep K F (upd H a o) v t fr :=
  TRep.mono (fun _ h => h) t v fr (fun b hb => (TRep.fps t v fr h b hb).1) (fun b u hb e => by rw [upd_ne (by rintro rfl; exact hb.elim nF na)]; exact e) h
/-- b.append(c) -/
theorem st_app {j : Nat} {k : Option Nat} {p1 p2 : Pos} {ts1 : List T} (hp : plainE e2 = true) (hbase : attributeBase e1 "append" X.env (eval e1 X.env) = eval e1 X.env)
    (hline : (p1.endLine == p2.line) = true) (ha : PE X e1 (tE X.K iov ρ (.pt j k) ρ1 wa)) (hl : getPt ρ1 j k = some (.lst ts1)) (hc : PE X e2 (tE X.K iov ρ1 vc ρ2 wb)) (hz : fzVal ρ2 vc = some (t, ρ3)) (st : stands (.pt j k) wb = true) (hg : getPt ρ3 j k = some x) (hap : appT x t = some y) (hs : setPt ρ3 j k y = some ρ') :
    PS X (.Expr (.Call (.Attribute e1 "append" p1) [e2] [] p2) pos) (tS X.K iov ρ (.nx ρ')) := by
  have hse : starEach [e2] X.env = (false, eval e2 X.env) :: starEach [] X.env := star_plain hp _
  refine PS.imp' (ps_expr (pe_bm PySem.F.plainAttrs_list PySem.F.slot_list_append PySem.F.type_list_append mt_append ha (a_cons (iov := iov) hp hc a_nil stands_f) hbase (by rw [hse]; rfl) hline hse rfl) rfl) ?_
  rintro D σ H ⟨F, fp, S, kk⟩
  refine ⟨F, fp, S, fun wv H1 F1 fp1 fa S1 V1 P1 => ?_⟩
  have e0 : fa = [] := by cases k <;> exact V1.1
  subst e0
  refine ⟨?_, F1, fp1, S1, fun vs H2 F2 fp2 fb S2 V2 P2 => ?_⟩
  · obtain ⟨_, fq, _, _, r⟩ := S1.gtPt hl V1
    simp only [TRep] at r
    obtain ⟨a, vs, fr, rfl, _, _, hH, _⟩ := r
    exact .inl ⟨rfl, vs, .inl (.inl hH)⟩
  · cases vs with
    | nil => exact V2.elim
    | cons cv vs =>
    cases vs with
    | cons _ _ => obtain ⟨_, _, _, _, V2⟩ := V2; exact V2.elim
    | nil =>
    obtain ⟨g1, g2, rfl, V2, e2⟩ := V2
    have e2 : g2 = [] := e2
    subst e2
    obtain ⟨F3, fp3, S3, tz, Z⟩ := S2.fzV hz V2
    have P2' : Post F1 H1 fp1 F2 H2 fp2 g1 wb := by simpa using P2
    have tv : TRep X.K F3 H2 cv t g1 := by
      rcases tz with tz | tz
      · exact Z.tmp tz P2'.disv
      · exact tz.1
    have V3 : VR X.K F3 H2 σ (.pt j k) wv [] := (V1.step P2' (fun i b hb => (S1.fpF i b hb).1) (fun _ _ _ z => (nomatch z)) st).fz Z fun _ _ _ z => (nomatch z)
    have P3 : Post F H fp F3 H2 fp3 g1 (wa || wb) := by
      have := (P1.trans P2' fun _ h => (nomatch h)).fz Z
      simpa using this
    obtain ⟨f1, fq, f3, efp, ek, tr, q⟩ := S3.stPt hg V3 hs
    have nd := S3.nod j
    cases x with
    | fz d => simp [appT] at hap
    | tup ts => simp [appT] at hap
    | dct ks ts => simp [appT] at hap
    | lst ts =>
      simp only [appT] at hap
      split at hap
      · rename_i hlt
        cases hap
        simp only [TRep] at tr
        obtain ⟨a, vs, fr, rfl, rfl, nF, hH, hr⟩ := tr
        rw [efp] at nd
        have na := tl nd
        have nv : a ∉ g1 := P3.disv j a (by rw [efp]; simp)
        have lt : vs.length < sizeLine := by rw [hr.len]; simpa using hlt
        obtain ⟨S4, P4⟩ := S3.updO (o := .lst (vs ++ [cv])) (fq' := a :: (fr ++ g1)) P3 efp (by simp) q (by simp only [TRep]; exact ⟨a, _, _, rfl, rfl, nF, upd_same, (aside hr nF na.1).snoc (aside1 tv nF nv)⟩) (fun b hb => by simp at hb ⊢; rcases hb with hb | hb | hb <;> simp [hb])
          (List.nodup_cons.mpr ⟨by simp [na.1, nv], List.nodup_append.mpr ⟨na.2, P3.nodv, fun b hb c hc e => by subst e; exact P3.disv j b (by rw [efp]; simp [hb]) hc⟩⟩)
          (fun _ m l v' vs1 _ e1 e => by rw [hH] at e1; cases e1; exact ⟨_, rfl, by rw [List.getElem?_append_left (List.getElem?_eq_some_iff.mp e).1]; exact e, by simp⟩)
        exact ⟨a, vs, cv, rfl, rfl, hH, lt, kk σ _ F3 _ S4 P4⟩
      · cases hap
/-! ### b[i] = c -/
theorem zip_put {k : Key} {v : V} : ∀ {ks : List Key} {vs : List V} {n0 n : Nat}, vs.length = ks.length → placeK k ks n0 = some n → ks.Nodup → n0 ≤ n ∧ n - n0 < ks.length ∧ putK (ks.zip vs) k v = ks.zip (vs.set (n - n0) v)
  | [], _, n0, n, _, h, _ => by simp [placeK] at h
  | k' :: ks, [], n0, n, hl, _, _ => by simp at hl
  | k' :: ks, v' :: vs, n0, n, hl, h, nd => by
    unfold placeK at h
    split at h
    · rename_i e
      cases h; subst e
      refine ⟨Nat.le_refl _, by simp, ?_⟩
      have rest : ∀ (ks : List Key) (vs : List V), k' ∉ ks → (ks.zip vs).map (fun kv => if kv.1 = k' then (kv.1, v) else kv) = ks.zip vs := fun ks => by
        induction ks with
        | nil => intro vs _; rfl
        | cons q ks ih =>
          intro vs hq
          cases vs with
          | nil => rfl
          | cons w vs =>
            simp only [List.zip_cons_cons, List.map_cons]
            rw [if_neg (by rintro rfl; simp at hq), ih vs (by simp at hq; exact hq.2)]
      unfold putK
      rw [if_pos (by simp)]
      simp only [List.zip_cons_cons, List.map_cons, if_true, Nat.sub_self, List.set_cons_zero]
      rw [rest ks vs (List.nodup_cons.mp nd).1]
    · rename_i e
      obtain ⟨h1, h2, h3⟩ := zip_put (v := v) (vs := vs) (by simpa using hl) h (List.nodup_cons.mp nd).2
      have e1 : n - n0 = (n - (n0 + 1)) + 1 := by omega
      refine ⟨by omega, by simp; omega, ?_⟩
      rw [e1]
      simp only [List.zip_cons_cons, List.set_cons_succ]
      rw [← h3]
      unfold putK
      by_cases a : ((ks.zip vs).any fun kv => decide (kv.1 = k)) = true
      · rw [if_pos a, if_pos (by simp only [List.any_cons, a, Bool.or_true])]
        simp only [List.map_cons, if_neg e]
      · rw [if_neg a, if_neg (by simp only [List.any_cons, decide_eq_false e, Bool.false_or]; exact a)]
        rfl
theorem zip_new {k : Key} {v : V} : ∀ {ks : List Key} {vs : List V} {n0 : Nat}, vs.length = ks.length → placeK k ks n0 = none → k ∉ ks ∧ putK (ks.zip vs) k v = (ks ++ [k]).zip (vs ++ [v])
  | [], [], _, _, _ => ⟨by simp, by simp [putK]⟩
  | [], _ :: _, _, hl, _ => by simp at hl
  | _ :: _, [], _, hl, _ => by simp at hl
  | k' :: ks, v' :: vs, n0, hl, h => by
    unfold placeK at h
    split at h
    · cases h
    · rename_i e
      obtain ⟨h1, h2⟩ := zip_new (v := v) (vs := vs) (by simpa using hl) h
      refine ⟨by simp [h1]; exact fun z => e z.symm, ?_⟩
      have a : ((ks.zip vs).any fun kv => decide (kv.1 = k)) = false := by
        rw [List.any_eq_false]
        intro p hp
        have := List.of_mem_zip hp
        simp only [decide_eq_true_eq]
        rintro rfl
        exact h1 this.1
      unfold putK at h2 ⊢
      rw [if_neg (by rw [a]; simp)] at h2
      rw [if_neg (by simp only [List.zip_cons_cons, List.any_cons, decide_eq_false e, Bool.false_or, a]; simp)]
      simp only [List.zip_cons_cons, List.cons_append]
      rw [h2]
theorem TReps.getV : ∀ {ts : List T} {vs : List V} {fq : List Addr} {k : Nat}, TReps K F H vs ts fq → k < ts.length → ∃ t v, ts[k]? = some t ∧ vs[k]? = some v := fun {ts vs fq k} h hk =>
  ⟨ts[k], vs[k]'(by rw [h.len]; exact hk), List.getElem?_eq_getElem hk, List.getElem?_eq_getElem _⟩
/-- the store, by values -/
theorem sto_T (hu : X.A.units + 1 < cLine) {i y : T} {j : Nat} {k : Option Nat} {iv cv wv : V} {g : List Addr} (S : SR X.K iov [] F H σ ρ fp) (V : VR X.K F H σ (.pt j k) wv []) (ri : ∃ fi, TRep X.K F H iv i fi) (tv : TRep X.K F H cv t g) (P : Post F0 H0 fp0 F H fp g wr)
    (hg : getPt ρ j k = some x) (hx : setIx x i t = some y) (hs : setPt (kIx ρ j k x i) j k y = some ρ') :
    ∃ a o, wv = .ref a ∧ ((∃ ts, x = .lst ts) ∧ (∃ vs n, iv = .int n ∧ H a = some (.lst vs) ∧ ∃ l, ixN vs.length n = some l ∧ o = .lst (vs.set l cv)) ∨ (∃ ks ts, x = .dct ks ts) ∧ DPut H a iv cv (upd H a o)) ∧
      ∃ fp', SR X.K iov [] F (upd H a o) σ ρ' fp' ∧ Post F0 H0 fp0 F (upd H a o) fp' [] true := by
  obtain ⟨fi, ri⟩ := ri
  have S' : SR X.K iov [] F H σ (kIx ρ j k x i) fp := by
    cases k with
    | none => exact S.kls j _
    | some k => exact S
  have hg' : getPt (kIx ρ j k x i) j k = some x := by
    cases k with
    | none => exact (getPt_kills _ _ _ _ _).trans hg
    | some k => exact hg
  have noal : k = none → ∀ (m l : Nat), (kIx ρ j k x i)[m]? = some (Slot.al j l) → ∃ n, ixPlace x i = some n ∧ n ≠ l := fun hk m l e => by
    subst hk
    unfold kIx at e
    rw [kills_get] at e
    obtain ⟨s, e1, e2⟩ := Option.map_eq_some_iff.mp e
    obtain ⟨_, e4⟩ := kill_al e2
    cases hp : ixPlace x i with
    | none => exact absurd ⟨rfl, .inl hp⟩ e4
    | some n => exact ⟨n, rfl, fun z => e4 ⟨rfl, .inr (by rw [hp, z])⟩⟩
  generalize kIx ρ j k x i = ρ0 at S' hg' hs noal
  clear hg S
  obtain ⟨f1, fq, f3, efp, ek, tr, q⟩ := S'.stPt hg' V hs
  have nd := S'.nod j
  rw [efp] at nd
  cases x with
  | fz d => simp [setIx] at hx
  | tup ts => simp [setIx] at hx
  | lst ts =>
    cases i with
    | fz d =>
      cases d with
      | int n =>
        simp only [setIx] at hx
        split at hx
        · rename_i l hl
          cases hx
          have ei := trep_int ri
          subst ei
          simp only [TRep] at tr
          obtain ⟨a, vs, fr, rfl, rfl, nF, hH, hr⟩ := tr
          have na := tl nd
          have nv : a ∉ g := P.disv j a (by rw [efp]; simp)
          have hl2 : l < ts.length := by
            have := hl
            unfold place ixN at this
            split at this <;> split at this <;> cases this <;> omega
          obtain ⟨t0, v0, h1, h2⟩ := hr.getV hl2
          obtain ⟨g1, g2, g3, e3, _, up⟩ := TReps.upd hr h1 h2
          have sg : ∀ b, b ∈ g1 ∨ b ∈ g3 → b ∈ fr := fun b hb => by rw [e3]; rcases hb with hb | hb <;> simp [hb]
          have hr' := up F (upd H a (.lst (vs.set l cv))) cv t g (fun _ h => h) (fun b hb => (TReps.fps ts vs fr hr b (sg b hb)).1)
            (fun b o hb e => by rw [upd_ne (by rintro rfl; rcases hb with hb | hb; exact nF hb; exact na.1 (sg _ hb))]; exact e) (aside1 tv nF nv)
          have n3 := na.2
          rw [e3] at n3
          have n4 := List.nodup_append.mp n3
          have n5 := List.nodup_append.mp n4.1
          have dg : ∀ b, b ∈ fr → b ∉ g := fun b hb => P.disv j b (by rw [efp]; simp [hb])
          obtain ⟨S4, P4⟩ := S'.updO (o := .lst (vs.set l cv)) (fq' := a :: (g1 ++ g ++ g3)) P efp (by simp) q (by simp only [TRep]; exact ⟨a, _, _, rfl, rfl, nF, upd_same, hr'⟩)
            (fun b hb => by simp [e3] at hb ⊢; rcases hb with hb | hb | hb | hb <;> simp [hb])
            (List.nodup_cons.mpr ⟨by
                intro z
                simp only [List.mem_append] at z
                rcases z with (z | z) | z
                · exact na.1 (sg a (.inl z))
                · exact nv z
                · exact na.1 (sg a (.inr z)), List.nodup_append.mpr ⟨List.nodup_append.mpr ⟨n5.1, P.nodv, fun b hb c hc e => by subst e; exact dg b (sg b (.inl hb)) hc⟩, n4.2.1, fun b hb c hc e => by
                  subst e
                  rcases List.mem_append.mp hb with hb | hb
                  · exact n4.2.2 b (by simp [hb]) b hc rfl
                  · exact dg b (sg b (.inr hc)) hb⟩⟩)
            (fun hk m l' v' vs1 e0 e1 e => by
              rw [hH] at e1; cases e1
              obtain ⟨n', en, hne⟩ := noal hk m l' e0
              have : l = n' := by rw [show ixPlace (.lst ts) (.fz (.int n)) = place n ts.length from rfl, hl] at en; exact Option.some.inj en
              subst this
              exact ⟨_, rfl, by rw [List.getElem?_set_ne hne]; exact e, by simp⟩)
          exact ⟨a, _, rfl, .inl ⟨⟨ts, rfl⟩, vs, n, rfl, hH, l, by rw [hr.len]; exact hl, rfl⟩, _, S4, P4⟩
        · cases hx
      | _ => simp [setIx] at hx
    | _ => simp [setIx] at hx
  | dct ks ts =>
    cases i with
    | fz d =>
      simp only [setIx] at hx
      split at hx
      · rename_i kk d' hk hd
        have td : t = .fz d' := by
          cases t with
          | fz z => simp [T.unfz] at hd; rw [hd]
          | lst _ => simp [T.unfz] at hd
          | tup _ => simp [T.unfz] at hd
          | dct _ _ => simp [T.unfz] at hd
        subst td
        have eiv : iv = kV kk := by
          simp only [TRep] at ri
          exact keyOf_rep hk ri.2
        subst eiv
        have eg : g = [] := by simp only [TRep] at tv; exact tv.1
        subst eg
        simp only [TRep] at tr
        obtain ⟨a, vs, fr, rfl, rfl, nF, hH, hlen, nk, hr⟩ := tr
        have na := tl nd
        split at hx
        · rename_i n hn
          split at hx
          · rename_i hlt
            cases hx
            obtain ⟨_, h2, h3⟩ := zip_put (v := cv) hlen hn nk
            simp only [Nat.sub_zero] at h2 h3
            obtain ⟨t0, v0, h4, h5⟩ := hr.getV (k := n) (by rw [← hr.len, hlen]; exact h2)
            obtain ⟨g1, g2, g3, e3, _, up⟩ := TReps.upd hr h4 h5
            have sg : ∀ b, b ∈ g1 ∨ b ∈ g3 → b ∈ fr := fun b hb => by rw [e3]; rcases hb with hb | hb <;> simp [hb]
            have hr' := up F (upd H a (.dK (ks.zip (vs.set n cv)))) cv (.fz d') [] (fun _ h => h) (fun b hb => (TReps.fps ts vs fr hr b (sg b hb)).1)
              (fun b o hb e => by rw [upd_ne (by rintro rfl; rcases hb with hb | hb; exact nF hb; exact na.1 (sg _ hb))]; exact e) (aside1 tv nF (by simp))
            have n3 := na.2
            rw [e3] at n3
            have n4 := List.nodup_append.mp n3
            have n5 := List.nodup_append.mp n4.1
            obtain ⟨S4, P4⟩ := S'.updO (o := .dK (ks.zip (vs.set n cv))) (fq' := a :: (g1 ++ [] ++ g3)) P efp (by simp) q (by simp only [TRep]; exact ⟨a, _, _, rfl, rfl, nF, upd_same, by simp [hlen], nk, hr'⟩)
              (fun b hb => by simp [e3] at hb ⊢; rcases hb with hb | hb | hb <;> simp [hb])
              (List.nodup_cons.mpr ⟨by
                  intro z
                  simp only [List.append_nil, List.mem_append] at z
                  exact na.1 (sg a z), List.nodup_append.mpr ⟨by simpa using n5.1, n4.2.1, fun b hb c hc e => by
                    subst e
                    exact n4.2.2 b (by simp at hb; simp [hb]) b hc rfl⟩⟩)
              (fun hk m l' v' vs1 e0 e1 e => by rw [hH] at e1; cases e1)
            refine ⟨a, _, rfl, .inr ⟨⟨ks, ts, rfl⟩, ?_⟩, _, S4, P4⟩
            rw [← h3]
            exact DPut.k hH (by rw [List.length_zip, hlen, Nat.min_self]; simpa using hlt)
          · cases hx
        · rename_i hn
          split at hx
          · rename_i hlt
            cases hx
            obtain ⟨h1, h3⟩ := zip_new (v := cv) hlen hn
            obtain ⟨S4, P4⟩ := S'.updO (o := .dK ((ks ++ [kk]).zip (vs ++ [cv]))) (fq' := a :: (fr ++ [])) P efp (by simp) q (by simp only [TRep]; exact ⟨a, _, _, rfl, rfl, nF, upd_same, by simp [hlen], by
                  rw [List.nodup_append]; exact ⟨nk, by simp, fun b hb c hc e => by simp at hc; subst hc e; exact h1 hb⟩, (aside hr nF na.1).snoc (aside1 tv nF (by simp))⟩)
              (fun b hb => by simp at hb ⊢; rcases hb with hb | hb <;> simp [hb])
              (by simp; exact ⟨na.1, na.2⟩)
              (fun hk m l' v' vs1 e0 e1 e => by rw [hH] at e1; cases e1)
            refine ⟨a, _, rfl, .inr ⟨⟨ks, ts, rfl⟩, ?_⟩, _, S4, P4⟩
            rw [← h3]
            exact DPut.k hH (by rw [List.length_zip, hlen, Nat.min_self]; simpa using hlt)
          · cases hx
      · cases hx
    | _ => simp [setIx] at hx
theorem PS.cases {st : Stmt} {t : TS} {p : Prop} [Decidable p] (h1 : p → PS X st t) (h2 : ¬ p → PS X st t) : PS X st t := if h : p then h1 h else h2 h
def noSl : Expr → Bool
  | .Slice _ _ _ _ => false
  | _ => true
theorem st_sto (hu : X.A.units + 1 < cLine) {i : T} {j : Nat} {k : Option Nat} {p : Pos} (hn : noSl e2 = true) (hsw : swapsWith e3 (some (.Subscript e1 e2 p)) pos.line X.env = pure false) (hv : PE X e3 (tE X.K iov ρ vc ρ1 wa)) (hz : fzVal ρ1 vc = some (t, ρ2)) (ho : PE X e1 (tE X.K iov ρ2 (.pt j k) ρ3 wb)) (hi : PE X e2 (tE X.K iov ρ3 (.t i) ρ4 wc))
    (st : stands (.pt j k) wc = true) (hg : getPt ρ4 j k = some x) (hx : setIx x i t = some y) (hs : setPt (kIx ρ4 j k x i) j k y = some ρ') : PS X (.Assign [.Subscript e1 e2 p] e3 pos) (tS X.K iov ρ (.nx ρ')) := by
  have ha : ∀ v, assign (.Subscript e1 e2 p) X.env v = (do
      let ov ← holding [v] (eval e1 X.env)
      let iv ← holding [v, ov] (eval e2 X.env)
      standAt p
      holding [v, ov, iv] (setItem ov iv v)
      release [v, ov, iv] []) := by
    intro v
    cases e2 <;> first | rfl | cases hn
  -- the walk up to the store
  have go : ∀ {D : Ends} {σ : L2.St} {H : Hp} (R : V → V → V → Hp → Prop), tS X.K iov ρ (.nx ρ') D σ H → (∀ (a : Addr) (o : HO) (iv cv : V) (H : Hp), ((∃ ts, x = .lst ts) ∧ (∃ vs n, iv = .int n ∧ H a = some (.lst vs) ∧ ∃ l, ixN vs.length n = some l ∧ o = .lst (vs.set l cv)) ∨ (∃ ks ts, x = .dct ks ts) ∧ DPut H a iv cv (upd H a o)) → D.nx σ (upd H a o) → R cv (.ref a) iv H) →
      tE X.K iov ρ vc ρ1 wa σ H fun cv H1 => tE X.K iov ρ2 (.pt j k) ρ3 wb σ H1 fun wv H2 => tE X.K iov ρ3 (.t i) ρ4 wc σ H2 fun iv H3 => R cv wv iv H3 := by
    rintro D σ H R ⟨F, fp, S, kk⟩ hR
    refine ⟨F, fp, S, fun cv H1 F1 fp1 g S1 V1 P1 => ?_⟩
    obtain ⟨F2, fp2, S2, tz, Z⟩ := S1.fzV hz V1
    have tv : TRep X.K F2 H1 cv t g := by
      rcases tz with tz | tz
      · exact Z.tmp tz P1.disv
      · exact tz.1
    have P2 := P1.fz Z
    refine ⟨F2, fp2, S2, fun wv H3 F3 fp3 fb S3 V3 P3 => ?_⟩
    have e0 : fb = [] := by cases k <;> exact V3.1
    subst e0
    have tv3 := P3.tmp (fun i b hb => (S2.fpF i b hb).1) tv P2.disv
    have P03 : Post F H fp F3 H3 fp3 g (wa || wb) := by
      have := P2.trans P3 (TRep.fps t cv g tv)
      simpa using this
    refine ⟨F3, fp3, S3, fun iv H4 F4 fp4 fi S4 V4 P4 => ?_⟩
    have V34 := V3.step P4 (fun i b hb => (S3.fpF i b hb).1) (fun _ _ _ z => (nomatch z)) st
    have tv4 := P4.tmp (fun i b hb => (S3.fpF i b hb).1) tv3 P03.disv
    have P04 : Post F H fp F4 H4 fp4 g ((wa || wb) || wc) := by
      have z := P03.trans P4 (TRep.fps t cv g tv3)
      have z2 : Post F H fp F4 H4 fp4 ([] ++ (g ++ fi)) ((wa || wb) || wc) := z
      exact z.part ⟨[], fi, by simp⟩
    obtain ⟨a, o, rfl, h1, fp5, S5, P5⟩ := sto_T hu S4 V34 ⟨fi, V4⟩ tv4 P04 hg hx hs
    exact hR a o iv cv H4 h1 (kk σ _ F4 fp5 S5 P5)
  cases x with
  | lst ts =>
    refine PS.imp' (ps_asg hv (pg_sub ho hi set_list ha) hsw rfl rfl) ?_
    intro D σ H h
    refine go (fun cv wv iv H => rSetL wv iv cv H fun H3 => D.nx σ H3) h fun a o iv cv H h1 h2 => ?_
    rcases h1 with ⟨_, vs, n, rfl, hH, l, hl, rfl⟩ | ⟨⟨ks, ts, z⟩, _⟩
    · exact ⟨a, vs, n, l, rfl, rfl, hH, hl, h2⟩
    · cases z
  | dct ks ts =>
    refine PS.imp' (ps_asg hv (pg_sub ho hi (set_dict hu) ha) hsw rfl rfl) ?_
    intro D σ H h
    refine go (fun cv wv iv H => rSetD wv iv cv H fun H3 => D.nx σ H3) h fun a o iv cv H h1 h2 => ?_
    rcases h1 with ⟨⟨ts, z⟩, _⟩ | ⟨_, h1⟩
    · cases z
    · exact ⟨a, _, rfl, h1, h2⟩
  | fz d => simp [setIx] at hx
  | tup ts => simp [setIx] at hx
end
end Mv

end
section
/-! Several names at once. -/
namespace Mv
open PySem PySem.Spec PyProof.Rows L2
section
variable {X : Cx} {K : PySem.W.Frag} {iov : Nat → Option V} {F F0 F1 F2 F' Fc : Addr → Prop} {H H0 H1 H2 H' : Hp} {fp fp0 fp1 fp2 fp' : Fp} {fa fb fx fpv : List Addr} {t x y : T} {v w vx vy : V} {b : Bool} {ρ ρ1 ρ2 ρ3 ρ4 ρ' : Env} {wr wa wb wc : Bool} {va vb vc : Val} {σ : L2.St} {e e1 e2 e3 tg : Expr} {es : List Expr} {pos : Pos} {as : List Val} {ds : List D} {o : Out}
def tGT (K : PySem.W.Frag) (iov : Nat → Option V) (ρ : Env) (ts : List T) (ρ' : Env) : TGs := fun vs σ H Q => ∃ F fp fq, SR K iov [] F H σ ρ fp ∧ TReps K F H vs ts fq ∧ fq.Nodup ∧ (∀ i b, b ∈ fp i → b ∉ fq) ∧
  ∀ σ' fp', SR K iov [] F H σ' ρ' fp' → (∀ i b, b ∈ fp' i → b ∈ fp i ∨ b ∈ fq) → Q σ' H
theorem gt_go : ∀ {is : List Nat} {es : List Expr} {ts : List T} {ρ ρ' : Env}, is.length = es.length → bindTs ρ is ts = some ρ' → X.N.Nodup →
    (∀ (n i : Nat) (e : Expr), is[n]? = some i → es[n]? = some e → ∃ nm p, e = .Name nm p ∧ X.N[i]? = some nm ∧ Loc X.env.scope nm ∧ (X.fn nm = true ∨ X.env.scope.names.lookup nm = some .local)) → PGs X es (tGT X.K iov ρ ts ρ')
  | [], [], [], ρ, ρ', _, h, _, _ => by
    simp only [bindTs, Option.some.injEq] at h
    subst h
    refine PGs.imp' pgs_nil ?_
    rintro vs σ H Q ⟨F, fp, fq, S, r, nd, dj, k⟩
    cases vs with
    | nil => exact ⟨rfl, k σ fp S (fun _ _ h => .inl h)⟩
    | cons v vs => simp only [TReps] at r
  | [], _, _ :: _, _, _, _, h, _, _ => by simp [bindTs] at h
  | _ :: _, _, [], _, _, _, h, _, _ => by simp [bindTs] at h
  | [], _ :: _, _, _, _, h, _, _, _ => by simp at h
  | _ :: _, [], _, _, _, h, _, _, _ => by simp at h
  | i :: is, e :: es, t :: ts, ρ, ρ', hl, h, hN, hx => by
    obtain ⟨ρ1, e1, e2⟩ := Option.bind_eq_some_iff.mp h
    obtain ⟨nm, p, rfl, h1, h2, h3⟩ := hx 0 i e rfl rfl
    have g1 := pg_name (X := X) (pos := p) hN h1 h2 h3
    have g2 := gt_go (by simpa using hl) e2 hN fun n j e q1 q2 => hx (n + 1) j e (by simpa using q1) (by simpa using q2)
    refine PGs.imp' (pgs_cons g1 g2 rfl) ?_
    rintro vs σ H Q ⟨F, fp, fq, S, r, nd, dj, k⟩
    cases vs with
    | nil => simp only [TReps] at r
    | cons v vs =>
      simp only [TReps] at r
      obtain ⟨f1, f2, rfl, r1, r2⟩ := r
      have nd' := List.nodup_append.mp nd
      refine ⟨v, vs, rfl, F, updF fp i f1, f2, S.bind e1 (show VR X.K F H σ (.t t) v f1 from r1) nd'.1 (fun j b hb z => dj j b hb (by simp [z])), r2, nd'.2.1, fun j b hb z => ?_, fun σ2 fp2 S2 le2 => k σ2 fp2 S2 fun j b hb => ?_⟩
      · by_cases hj : j = i
        · subst hj; rw [updF_same] at hb; exact nd'.2.2 b hb b z rfl
        · rw [updF_ne hj] at hb; exact dj j b hb (by simp [z])
      · rcases le2 j b hb with z | z
        · by_cases hj : j = i
          · subst hj; rw [updF_same] at z; exact .inr (by simp [z])
          · rw [updF_ne hj] at z; exact .inl z
        · exact .inr (by simp [z])
theorem fzs_rep : ∀ {ds : List D} {vs : List V}, RepDs K F H vs ds → TReps K F H vs (fzs ds) []
  | [], [], _ => by show TReps K F H [] [] []; simp only [TReps]
  | [], _ :: _, h => by simp only [RepDs] at h
  | _ :: _, [], h => by simp only [RepDs] at h
  | d :: ds, v :: vs, h => by
    simp only [RepDs] at h
    show TReps K F H (v :: vs) (.fz d :: fzs ds) []
    simp only [TReps, TRep]
    exact ⟨[], [], rfl, ⟨rfl, h.1⟩, fzs_rep h.2⟩
/-- the elements of a tuple -/
def tupTs : T → Option (List T)
  | .fz (.tup ds) => some (fzs ds)
  | .tup ts => some ts
  | _ => none
theorem tupTs_rep {t : T} {ts : List T} (e : tupTs t = some ts) (h : TRep K F H v t fpv) : ∃ a vs fq, v = .ref a ∧ SqT K H a vs ∧ TReps K F H vs ts fq ∧ (∃ f1, fpv = f1 ++ fq) := by
  cases t with
  | fz d =>
    cases d with
    | tup ds =>
      cases e
      simp only [TRep, RepD] at h
      obtain ⟨rfl, a, vs, rfl, hl, hr⟩ := h
      exact ⟨a, vs, [], rfl, hl.sq, fzs_rep hr, [], rfl⟩
    | _ => simp [tupTs] at e
  | tup ts =>
    cases e
    simp only [TRep] at h
    obtain ⟨a, vs, fq, rfl, rfl, nF, ha, hr⟩ := h
    exact ⟨a, vs, fq, rfl, .inl (.inl ha), hr, [a], rfl⟩
  | _ => simp [tupTs] at e
theorem bindTs_len : ∀ {is : List Nat} {ts : List T} {ρ ρ' : Env}, bindTs ρ is ts = some ρ' → is.length = ts.length
  | [], [], _, _, _ => rfl
  | [], _ :: _, _, _, h => by simp [bindTs] at h
  | _ :: _, [], _, _, h => by simp [bindTs] at h
  | i :: is, t :: ts, ρ, ρ', h => by
    obtain ⟨ρ1, e1, e2⟩ := Option.bind_eq_some_iff.mp h
    simp [bindTs_len e2]
theorem st_setT {is : List Nat} {kk : Nat} {p : Pos} {ts : List T} (hc : X.calm = true) (hN : X.N.Nodup) (hl : is.length = es.length) (hlen : (assignEach es X.env).length = es.length) (hst : (assignEach es X.env).findIdx? (·.1) = none)
    (hx : ∀ (n i : Nat) (e : Expr), is[n]? = some i → es[n]? = some e → ∃ nm p, e = .Name nm p ∧ X.N[i]? = some nm ∧ Loc X.env.scope nm ∧ (X.fn nm = true ∨ X.env.scope.names.lookup nm = some .local))
    (hs : swapsWithSole [.Tuple es kk p] e pos.line X.env = pure false) (hw : swappedStores [.Tuple es kk p] e X.env = pure none) (he : PE X e (tE X.K iov ρ (.t t) ρ1 wa)) (ht : tupTs t = some ts) (hb : bindTs ρ1 is ts = some ρ') :
    PS X (.Assign [.Tuple es kk p] e pos) (tS X.K iov ρ (.nx ρ')) := by
  refine PS.imp' (ps_asg he (pg_tup hc (gt_go (iov := iov) hl hb hN hx) hlen hst) hs hw rfl) ?_
  rintro D σ H ⟨F, fp, S, k⟩
  refine ⟨F, fp, S, fun v H1 F1 fp1 fpv S1 V1 P1 => ?_⟩
  obtain ⟨a, vs, fq, rfl, hq, hr, f1, rfl⟩ := tupTs_rep ht (show TRep X.K F1 H1 v t fpv from V1)
  refine ⟨a, vs, rfl, hq, ?_, F1, fp1, fq, S1, hr, (List.nodup_append.mp P1.nodv).2.1, fun i b hb z => P1.disv i b hb (by simp [z]), fun σ' fp' S' le => k σ' H1 F1 fp' S' ?_⟩
  · rw [hr.len, ← bindTs_len hb, hl]
  · have P := P1.wrT
    exact ⟨P.sub, P.new, P.keep, P.there, fun i b hb => (le i b hb).elim (P.fresh i b) fun z => P.freshv b (by simp [z]), fun _ h => (nomatch h), fun _ _ _ h => (nomatch h), List.nodup_nil⟩
theorem st_setL {is : List Nat} {kk : Nat} {p : Pos} {ds : List D} (hc : X.calm = true) (hN : X.N.Nodup) (hl : is.length = es.length) (hlen : (assignEach es X.env).length = es.length) (hst : (assignEach es X.env).findIdx? (·.1) = none)
    (hx : ∀ (n i : Nat) (e : Expr), is[n]? = some i → es[n]? = some e → ∃ nm p, e = .Name nm p ∧ X.N[i]? = some nm ∧ Loc X.env.scope nm ∧ (X.fn nm = true ∨ X.env.scope.names.lookup nm = some .local))
    (hs : swapsWithSole [.Tuple es kk p] e pos.line X.env = pure false) (hw : swappedStores [.Tuple es kk p] e X.env = pure none) (he : PE X e (tE X.K iov ρ (.t t) ρ1 wa)) (ht : t.flat = some ds) (hb : bindTs ρ1 is (fzs ds) = some ρ') :
    PS X (.Assign [.Tuple es kk p] e pos) (tS X.K iov ρ (.nx ρ')) := by
  refine PS.imp' (ps_asg he (pg_lst hc (gt_go (iov := iov) hl hb hN hx) hlen hst) hs hw rfl) ?_
  rintro D σ H ⟨F, fp, S, k⟩
  refine ⟨F, fp, S, fun v H1 F1 fp1 fpv S1 V1 P1 => ?_⟩
  obtain ⟨a, vs, rfl, hq, hr⟩ := flat_rep ht (show TRep X.K F1 H1 v t fpv from V1)
  refine ⟨a, vs, rfl, hq, ?_, F1, fp1, [], S1, fzs_rep hr, List.nodup_nil, fun i b hb z => (nomatch z), fun σ' fp' S' le => k σ' H1 F1 fp' S' ?_⟩
  · have := bindTs_len hb
    unfold fzs at this
    rw [List.length_map] at this
    rw [hr.len, ← this, hl]
  · have P := P1.drop0.wrT
    exact ⟨P.sub, P.new, P.keep, P.there, fun i b hb => (le i b hb).elim (P.fresh i b) fun z => (nomatch z), fun _ h => (nomatch h), fun _ _ _ h => (nomatch h), List.nodup_nil⟩
/-- values bound one behind the other -/
theorem binds : ∀ {is : List Nat} {vs : List Val} {us : List V} {ρ ρ' : Env} {σ : L2.St} {fp : Fp} {fq : List Addr}, SR K iov [] F H σ ρ fp → bindVs ρ is vs = some ρ' → VRs K F H σ vs us fq → fq.Nodup → (∀ i b, b ∈ fp i → b ∉ fq) →
    (∀ (j k : Nat), Val.pt j (some k) ∈ vs → j ∉ is) → ∃ fp', SR K iov [] F H ((is.zip us).foldl (fun σ p => σ.set p.1 (some p.2)) σ) ρ' fp' ∧ ∀ i b, b ∈ fp' i → b ∈ fp i ∨ b ∈ fq
  | [], [], us, ρ, ρ', σ, fp, fq, S, h, V, nd, dj, pt => by
    cases h
    exact ⟨fp, by simpa using S, fun _ _ h => .inl h⟩
  | [], _ :: _, _, _, _, _, _, _, _, h, _, _, _, _ => by simp [bindVs] at h
  | _ :: _, [], _, _, _, _, _, _, _, h, _, _, _, _ => by simp [bindVs] at h
  | i :: is, v :: vs, [], _, _, _, _, _, _, h, V, _, _, _ => V.elim
  | i :: is, v :: vs, u :: us, ρ, ρ', σ, fp, fq, S, h, V, nd, dj, pt => by
    obtain ⟨ρ1, e1, e2⟩ := Option.bind_eq_some_iff.mp h
    obtain ⟨f1, f2, rfl, V1, V2⟩ := V
    have nd' := List.nodup_append.mp nd
    have S1 := S.bind e1 V1 nd'.1 fun j b hb z => dj j b hb (by simp [z])
    have V2' : VRs K F H (σ.set i (some u)) vs us f2 := by
      have : ∀ {vs : List Val} {us : List V} {f2 : List Addr}, VRs K F H σ vs us f2 → bindVs ρ1 is vs = some ρ' ∨ True → (∀ (j k : Nat), Val.pt j (some k) ∈ vs → j ≠ i) → (∀ j, Val.pt j none ∉ vs) → VRs K F H (σ.set i (some u)) vs us f2 := by
        intro vs
        induction vs with
        | nil => intro us f2 h _ _ _; cases us with
          | nil => exact h
          | cons _ _ => exact h.elim
        | cons a vs ih =>
          intro us f2 h _ p1 p2
          cases us with
          | nil => exact h.elim
          | cons u us =>
            obtain ⟨g1, g2, rfl, h1, h2⟩ := h
            refine ⟨g1, g2, rfl, ?_, ih h2 (.inr trivial) (fun j k z => p1 j k (by simp [z])) fun j z => p2 j (by simp [z])⟩
            cases a with
            | t t => exact h1
            | pt j k =>
              cases k with
              | none => exact absurd (by simp) (p2 j)
              | some k =>
                obtain ⟨z, a, vs, q1, q2⟩ := h1
                exact ⟨z, a, vs, by rw [List.getElem?_set_ne (Ne.symm (p1 j k (by simp)))]; exact q1, q2⟩
      refine this V2 (.inr trivial) (fun j k z => ?_) fun j z => ?_
      · have := pt j k (by simp [z])
        simp at this; exact this.1
      · -- a bare place is never bound
        have no : ∀ {is : List Nat} {vs : List Val} {ρ ρ' : Env}, bindVs ρ is vs = some ρ' → Val.pt j none ∉ vs := by
          intro is vs
          induction vs generalizing is with
          | nil => intro ρ ρ' _ z; cases z
          | cons a vs ih =>
            intro ρ ρ' h z
            cases is with
            | nil => simp [bindVs] at h
            | cons i is =>
              obtain ⟨ρ1, e1, e2⟩ := Option.bind_eq_some_iff.mp h
              rcases List.mem_cons.mp z with z | z
              · subst z
                unfold bindS at e1
                split at e1 <;> simp at e1
              · exact ih e2 z
        exact no e2 z
    obtain ⟨fp', S', le⟩ := binds S1 e2 V2' nd'.2.1 (fun j b hb z => by
      by_cases hj : j = i
      · subst hj; rw [updF_same] at hb; exact nd'.2.2 b hb b z rfl
      · rw [updF_ne hj] at hb; exact dj j b hb (by simp [z])) fun j k z hz => pt j k (by simp [z]) (by simp [hz])
    refine ⟨fp', by simpa using S', fun j b hb => ?_⟩
    rcases le j b hb with z | z
    · by_cases hj : j = i
      · subst hj; rw [updF_same] at z; exact .inr (by simp [z])
      · rw [updF_ne hj] at z; exact .inl z
    · exact .inr (by simp [z])
theorem parOk_pt {is : List Nat} {vs : List Val} (h : parOk is vs = true) : is.Nodup ∧ ∀ (j k : Nat), Val.pt j (some k) ∈ vs → j ∉ is := by
  simp only [parOk, Bool.and_eq_true, decide_eq_true_eq] at h
  refine ⟨h.1, fun j k z hj => ?_⟩
  have := List.all_eq_true.mp h.2 _ z
  simp at this
  exact this hj
theorem par_post (P1 : Post F H fp F1 H1 fp1 fpv wr) (le : ∀ i b, b ∈ fp' i → b ∈ fp1 i ∨ b ∈ fpv) : Post F H fp F1 H1 fp' [] true := by
  have P := P1.wrT
  exact ⟨P.sub, P.new, P.keep, P.there, fun i b hb => (le i b hb).elim (P.fresh i b) (P.freshv b), fun _ h => (nomatch h), fun _ _ _ h => (nomatch h), List.nodup_nil⟩
theorem st_par2 {i j : Nat} {nx ny : Str} {a b : Expr} {px py pt : Pos} {kt k2 : Nat} {pt2 : Pos} {vs : List Val} (hc : X.calm = true) (hN : X.N.Nodup) (hi : X.N[i]? = some nx) (hj : X.N[j]? = some ny)
    (hx : X.env.scope.names.lookup nx = some .local) (hy : X.env.scope.names.lookup ny = some .local) (ha : PA X [a, b] (tA X.K iov ρ vs ρ1 wa)) (hp : parOk [i, j] vs = true) (hb : bindVs ρ1 [i, j] vs = some ρ')
    (hw : swappedStores [.Tuple [.Name nx px, .Name ny py] kt pt] (.Tuple [a, b] k2 pt2) X.env = pure (some [nx, ny])) : PS X (.Assign [.Tuple [.Name nx px, .Name ny py] kt pt] (.Tuple [a, b] k2 pt2) pos) (tS X.K iov ρ (.nx ρ')) := by
  obtain ⟨nd, hpt⟩ := parOk_pt hp
  refine PS.imp' (ps_par hc hN hi hj (by simp at nd; exact nd) hx hy ha hw) ?_
  rintro D σ H ⟨F, fp, S, k⟩
  refine ⟨F, fp, S, fun us H1 F1 fp1 fpv S1 V1 P1 => ?_⟩
  obtain ⟨fp', S', le⟩ := binds S1 hb V1 P1.nodv P1.disv hpt
  have l1 := V1.len
  have l2 : vs.length = 2 := by
    match vs, hb with
    | [], hb => simp [bindVs] at hb
    | [_], hb => simp [bindVs] at hb
    | [_, _], _ => rfl
    | _ :: _ :: _ :: _, hb => simp [bindVs] at hb
  match us, l1.symm.trans l2 with
  | [u1, u2], _ => exact ⟨u1, u2, rfl, k _ H1 F1 fp' S' (par_post P1 le)⟩
theorem st_par3 {i j l : Nat} {nx ny nz : Str} {a b c : Expr} {px py pz pt : Pos} {kt k2 : Nat} {pt2 : Pos} {vs : List Val} (hc : X.calm = true) (hN : X.N.Nodup) (hi : X.N[i]? = some nx) (hj : X.N[j]? = some ny) (hl : X.N[l]? = some nz)
    (hx : X.env.scope.names.lookup nx = some .local) (hy : X.env.scope.names.lookup ny = some .local) (hz : X.env.scope.names.lookup nz = some .local) (ha : PA X [a, b, c] (tA X.K iov ρ vs ρ1 wa)) (hp : parOk [i, j, l] vs = true) (hb : bindVs ρ1 [i, j, l] vs = some ρ')
    (hw : swappedStores [.Tuple [.Name nx px, .Name ny py, .Name nz pz] kt pt] (.Tuple [a, b, c] k2 pt2) X.env = pure (some [nx, ny, nz])) : PS X (.Assign [.Tuple [.Name nx px, .Name ny py, .Name nz pz] kt pt] (.Tuple [a, b, c] k2 pt2) pos) (tS X.K iov ρ (.nx ρ')) := by
  obtain ⟨nd, hpt⟩ := parOk_pt hp
  have nd3 : i ≠ j ∧ i ≠ l ∧ j ≠ l := by simp at nd; exact ⟨nd.1.1, nd.1.2, nd.2⟩
  refine PS.imp' (ps_par3 hc hN hi hj hl nd3.1 nd3.2.1 nd3.2.2 hx hy hz ha hw) ?_
  rintro D σ H ⟨F, fp, S, k⟩
  refine ⟨F, fp, S, fun us H1 F1 fp1 fpv S1 V1 P1 => ?_⟩
  obtain ⟨fp', S', le⟩ := binds S1 hb V1 P1.nodv P1.disv hpt
  have l1 := V1.len
  have l2 : vs.length = 3 := by
    match vs, hb with
    | [], hb => simp [bindVs] at hb
    | [_], hb => simp [bindVs] at hb
    | [_, _], hb => simp [bindVs] at hb
    | [_, _, _], _ => rfl
    | _ :: _ :: _ :: _ :: _, hb => simp [bindVs] at hb
  match us, l1.symm.trans l2 with
  | [u1, u2, u3], _ => exact ⟨u1, u2, u3, rfl, k _ H1 F1 fp' S' (par_post P1 le)⟩
end
end Mv

end
section
/-! More expressions: xs[::-1], list(range(..)), xs.count(k), xs.index(k). -/
namespace Mv
open PySem PySem.Spec PyProof.Rows L2
section
variable {X : Cx} {iov : Nat → Option V} {t x y z : T} {b b1 b2 : Bool} {ρ ρ1 ρ2 ρ3 ρ' : Env} {wr wa wb wc : Bool} {va vb vc : Val} {e e1 e2 e3 tg : Expr} {es : List Expr} {pos : Pos} {as : List Val} {ds : List D}
theorem RepDs.rev {K : PySem.W.Frag} {F : Addr → Prop} {H : Hp} : ∀ {ds : List D} {vs : List V}, RepDs K F H vs ds → RepDs K F H vs.reverse ds.reverse
  | [], [], _ => by simp only [List.reverse_nil, RepDs]
  | [], _ :: _, h => by simp only [RepDs] at h
  | _ :: _, [], h => by simp only [RepDs] at h
  | d :: ds, v :: vs, h => by
    simp only [RepDs] at h
    rw [List.reverse_cons, List.reverse_cons]
    exact (RepDs.rev h.2).append (by simp only [RepDs, and_true]; exact h.1)
theorem s_rv {k : Nat} {p1 p2 p3 : Pos} (ha : PE X e (tE X.K iov ρ va ρ1 wa)) (rx : Mv.resolve ρ1 va = some x) (hf : x.flat = some ds) :
    PE X (.Subscript e (.Slice none none (some (.UnaryOp .USub (.Constant (.int 1) k p1) p2)) p3) pos) (tE X.K iov ρ (.t (T.fl ds.reverse)) ρ1 wa) := by
  refine PE.imp' (pe_revL ha) ?_
  rintro σ H Q ⟨F, fp, S, kk⟩
  refine ⟨F, fp, S, fun vx H1 F1 fp1 fa S1 V1 P1 => ?_⟩
  obtain ⟨g1, r1⟩ := S1.rslv rx V1
  obtain ⟨a, vs, rfl, hl, hr⟩ := flat_rep hf r1
  refine ⟨a, vs, rfl, hl, fun p np => ?_⟩
  obtain ⟨F', fpv, S', tr, P'⟩ := S1.pure (res_fl np S1.trk hr.rev)
  exact kk _ _ F' fp1 fpv S' tr (P1.drop0.fin (fun _ h => nomatch h) P')
theorem rep_rg {K : PySem.W.Frag} {F : Addr → Prop} {H : Hp} (a b : Int) : RepDs K F H (rgV a b) (rangeD a b) := by
  unfold rgV rangeD
  generalize List.range (b - a).toNat = l
  induction l with
  | nil => simp only [List.map_nil, RepDs]
  | cons x l ih => simp only [List.map_cons, RepDs, RepD, true_and]; exact ih
theorem okRg_ok {i j : Int} (h : okRg i j = true) : RgOk i j := by
  simp only [okRg, okR0, Bool.and_eq_true, decide_eq_true_eq] at h
  exact ⟨h.1.1.1, h.1.1.2, h.1.2.1, h.1.2.2, by omega⟩
theorem s_lrg1 {i : Int} {p q pq : Pos} (hc : X.calm = true) (gl : Gl X "list") (ml : X.mg "list" = none) (gr : Gl X "range") (mr : X.mg "range" = none) (hp : plainE e = true) (ha : PE X e (tE X.K iov ρ (.t (.fz (.int i))) ρ1 wa)) (hi : okRg 0 i = true) :
    PE X (.Call (.Name "list" p) [.Call (.Name "range" q) [e] [] pq] [] pos) (tE X.K iov ρ (.t (T.fl (rangeD 0 i))) ρ1 wa) := by
  refine PE.imp' (pe_listRg hc gl ml (prg_1 gr mr ha (star_plain hp _)) rfl) ?_
  rintro σ H Q ⟨F, fp, S, kk⟩
  refine ⟨F, fp, S, fun v H1 F1 fp1 fa S1 V1 P1 => ⟨i, trep_int V1, okRg_ok hi, fun p np => ?_⟩⟩
  obtain ⟨F', fpv, S', tr, P'⟩ := S1.pure (res_fl np S1.trk (rep_rg 0 i))
  exact kk _ _ F' fp1 fpv S' tr (P1.drop0.fin (fun _ h => nomatch h) P')
theorem s_lrg2 {i j : Int} {p q pq : Pos} (hc : X.calm = true) (gl : Gl X "list") (ml : X.mg "list" = none) (gr : Gl X "range") (mr : X.mg "range" = none) (hp : plainE e1 = true) (hp2 : plainE e2 = true) (ha : PE X e1 (tE X.K iov ρ (.t (.fz (.int i))) ρ1 wa)) (hb : PE X e2 (tE X.K iov ρ1 (.t (.fz (.int j))) ρ2 wb)) (hi : okRg i j = true) :
    PE X (.Call (.Name "list" p) [.Call (.Name "range" q) [e1, e2] [] pq] [] pos) (tE X.K iov ρ (.t (T.fl (rangeD i j))) ρ2 (wa || wb)) := by
  refine PE.imp' (pe_listRg hc gl ml (prg_2 gr mr ha hb (star_plain hp _) (star_plain hp2 _) (by rw [star_plain hp2]; rfl)) rfl) ?_
  rintro σ H Q ⟨F, fp, S, kk⟩
  refine two (R := fun x y H2 => ∃ i' j' : Int, x = .int i' ∧ y = .int j' ∧ RgOk i' j' ∧ ∀ q, H2 q = none → Q (.ref q) (upd H2 q (.lst (rgV i' j')))) rfl rfl rfl S fun vx vy H2 F2 fp2 fa fb S2 V1 V2 P => ?_
  refine ⟨i, j, trep_int V1, trep_int V2, okRg_ok hi, fun p np => ?_⟩
  obtain ⟨F', fpv, S', tr, P'⟩ := S2.pure (res_fl np S2.trk (rep_rg i j))
  exact kk _ _ F' fp2 fpv S' tr (P.drop0.fin (fun _ h => nomatch h) P')
theorem idxD_at {d : D} : ∀ {zs : List D} {n j : Nat}, idxD d zs n = some j → n ≤ j ∧ ∃ z, zs[j - n]? = some z ∧ PyData.eqv z.toPy d.toPy = true ∧ ∀ (m : Nat) (z' : D), m < j - n → zs[m]? = some z' → PyData.eqv z'.toPy d.toPy = false
  | [], _, _, h => by cases h
  | z :: zs, n, j, h => by
    unfold idxD at h
    split at h
    · rename_i e
      cases h
      exact ⟨Nat.le_refl _, z, by simp, e, fun m z' hm => by omega⟩
    · rename_i e
      obtain ⟨h1, z', h2, h3, h4⟩ := idxD_at h
      refine ⟨by omega, z', by rw [show j - n = (j - (n + 1)) + 1 by omega]; simpa using h2, h3, fun m w hm hw => ?_⟩
      cases m with
      | zero => simp at hw; subst hw; simpa using e
      | succ m => exact h4 m w (by omega) (by simpa using hw)
theorem tyV_list {K : PySem.W.Frag} {H : Hp} {a : Addr} {vs : List V} (h : SqL K H a vs) : tyV K "list" (.ref a) H := .inl ⟨rfl, vs, h⟩
theorem s_cnt {ns : List Int} {i : Int} {apos cpos : Pos} (hbase : attributeBase e1 "count" X.env (eval e1 X.env) = eval e1 X.env) (hp : plainE e2 = true) (hline : (apos.endLine == cpos.line) = true) (ha : PE X e1 (tE X.K iov ρ va ρ1 wa)) (hb : PE X e2 (tE X.K iov ρ1 (.t (.fz (.int i))) ρ2 wb))
    (st : stands va wb = true) (r1 : Mv.resolve ρ1 va = some y) (f1 : y.flat = some ds) (rx : Mv.resolve ρ2 va = some x) (hf : x.flat = some (ns.map D.int)) :
    PE X (.Call (.Attribute e1 "count" apos) [e2] [] cpos) (tE X.K iov ρ (.t (.fz (.int (ns.count i : Nat)))) ρ2 (wa || wb)) := by
  have hse : starEach [e2] X.env = (false, eval e2 X.env) :: starEach [] X.env := star_plain hp _
  refine PE.imp' (pe_bm PySem.F.plainAttrs_list PySem.F.slot_list_count PySem.F.type_list_count mt_lcount ha (a_cons (iov := iov) hp hb a_nil stands_f) hbase (by rw [hse]; rfl) hline hse rfl) ?_
  rintro σ H Q ⟨F, fp, S, k⟩
  refine ⟨F, fp, S, fun vx H1 F1 fp1 fa S1 V1 P1 => ?_⟩
  obtain ⟨g0, t0⟩ := S1.rslv r1 V1
  obtain ⟨a, ws, rfl, hl0, _⟩ := flat_rep f1 t0
  refine ⟨tyV_list hl0, F1, fp1, S1, fun vs H2 F2 fp2 fb S2 V2 P2 => ?_⟩
  have V1' := V1.step P2 (fun i b hb => (S1.fpF i b hb).1) P1.disv (by simpa [Cs.wr] using st)
  obtain ⟨g1, tr⟩ := S2.rslv rx V1'
  obtain ⟨a', vs', ea, hl, hr⟩ := flat_rep hf tr
  cases ea
  rw [rep_ints hr] at hl
  match vs, V2 with
  | [w], V2 =>
    obtain ⟨f1', f2', rfl, q1, q2⟩ := V2
    have q1 : TRep X.K F2 H2 w (.fz (.int i)) f1' := q1
    refine ⟨a, ns, i, rfl, by rw [trep_int q1], hl, ?_⟩
    have P := P1.trans P2 V1.fps
    exact k _ H2 F2 fp2 [] S2 (by show TRep _ _ _ _ _ _; simp only [TRep, RepD, true_and]) (P.drop0.sizes (by simp [Cs.wr]))
  | [], V2 => exact V2.elim
  | _ :: _ :: _, V2 => obtain ⟨_, _, _, _, q⟩ := V2; exact q.elim
theorem s_idx {d : D} {j : Nat} {apos cpos : Pos} (hbase : attributeBase e1 "index" X.env (eval e1 X.env) = eval e1 X.env) (hp : plainE e2 = true) (hline : (apos.endLine == cpos.line) = true) (ha : PE X e1 (tE X.K iov ρ va ρ1 wa)) (hb : PE X e2 (tE X.K iov ρ1 (.t (.fz d)) ρ2 wb))
    (st : stands va wb = true) {ds0 : List D} (r1 : Mv.resolve ρ1 va = some y) (f1 : y.flat = some ds0) (rx : Mv.resolve ρ2 va = some x) (hf : x.flat = some ds) (fd : flatD d = true) (fds : ds.all flatD = true) (hj : idxD d ds 0 = some j) :
    PE X (.Call (.Attribute e1 "index" apos) [e2] [] cpos) (tE X.K iov ρ (.t (.fz (.int (j : Nat)))) ρ2 (wa || wb)) := by
  have hse : starEach [e2] X.env = (false, eval e2 X.env) :: starEach [] X.env := star_plain hp _
  refine PE.imp' (pe_bm PySem.F.plainAttrs_list PySem.F.slot_list_index PySem.F.type_list_index mt_index ha (a_cons (iov := iov) hp hb a_nil stands_f) hbase (by rw [hse]; rfl) hline hse rfl) ?_
  rintro σ H Q ⟨F, fp, S, k⟩
  refine ⟨F, fp, S, fun vx H1 F1 fp1 fa S1 V1 P1 => ?_⟩
  obtain ⟨g0, t0⟩ := S1.rslv r1 V1
  obtain ⟨a, ws, rfl, hl0, _⟩ := flat_rep f1 t0
  refine ⟨tyV_list hl0, F1, fp1, S1, fun vs H2 F2 fp2 fb S2 V2 P2 => ?_⟩
  have V1' := V1.step P2 (fun i b hb => (S1.fpF i b hb).1) P1.disv (by simpa [Cs.wr] using st)
  obtain ⟨g1, tr⟩ := S2.rslv rx V1'
  obtain ⟨a', vs', ea, hl, hr⟩ := flat_rep hf tr
  cases ea
  match vs, V2 with
  | [w], V2 =>
    obtain ⟨f1', f2', rfl, q1, q2⟩ := V2
    have q1 : TRep X.K F2 H2 w (.fz d) f1' := q1
    simp only [TRep] at q1
    obtain ⟨_, z, hz, he, hn⟩ := idxD_at hj
    rw [Nat.sub_zero] at hz hn
    obtain ⟨v, hv, rv⟩ := hr.get hz
    have fl := flats_V fd q1.2 fds hr
    refine ⟨a, vs', w, j, v, rfl, rfl, hl, (flat_V fd q1.2).1, fl.1, hv, by rw [eqV_flat (List.all_eq_true.mp fds z (List.mem_of_getElem? hz)) fd rv q1.2]; exact he, fun m z' hm hz' => ?_, ?_⟩
    · have hlen := hr.len
      have hml : m < ds.length := by rw [← hlen]; exact (List.getElem?_eq_some_iff.mp hz').1
      obtain ⟨v2, hv2, rv2⟩ := hr.get (List.getElem?_eq_getElem hml)
      rw [hz'] at hv2; cases hv2
      rw [eqV_flat (List.all_eq_true.mp fds _ (List.getElem_mem hml)) fd rv2 q1.2]
      exact hn m _ hm (List.getElem?_eq_getElem hml)
    · have P := P1.trans P2 V1.fps
      exact k _ H2 F2 fp2 [] S2 (by show TRep _ _ _ _ _ _; simp only [TRep, RepD, true_and]) (P.drop0.sizes (by simp [Cs.wr]))
  | [], V2 => exact V2.elim
  | _ :: _ :: _, V2 => obtain ⟨_, _, _, _, q⟩ := V2; exact q.elim
/-! ### [.. for k, v in d.items() ..] -/
theorem repDs_of {K : PySem.W.Frag} {F : Addr → Prop} {H : Hp} : ∀ {ds : List D} {vs : List V} {fq : List Addr}, TReps K F H vs (fzs ds) fq → fq = [] ∧ RepDs K F H vs ds
  | [], [], _, h => by
    have h : TReps K F H [] [] _ := h
    simp only [TReps] at h
    exact ⟨h, by simp only [RepDs]⟩
  | [], _ :: _, _, h => by
    have h : TReps K F H (_ :: _) [] _ := h
    simp only [TReps] at h
  | _ :: _, [], _, h => by
    have h : TReps K F H [] (_ :: _) _ := h
    simp only [TReps] at h
  | d :: ds, v :: vs, _, h => by
    have h2 : TReps K F H (v :: vs) (.fz d :: fzs ds) _ := h
    clear h
    simp only [TReps, TRep] at h2
    obtain ⟨f1, f2, rfl, ⟨rfl, r⟩, h3⟩ := h2
    obtain ⟨rfl, r3⟩ := repDs_of h3
    exact ⟨rfl, by simp only [RepDs]; exact ⟨r, r3⟩⟩
theorem flat_any {K : PySem.W.Frag} {F F2 : Addr → Prop} {H H2 : Hp} {d : D} {v : V} (f : flatD d = true) (h : RepD K F H v d) : RepD K F2 H2 v d := by
  cases d <;> first
    | (simp only [RepD] at h ⊢; exact h)
    | (simp [flatD] at f)
theorem flats_any {K : PySem.W.Frag} {F F2 : Addr → Prop} {H H2 : Hp} : ∀ {ds : List D} {vs : List V}, ds.all flatD = true → RepDs K F H vs ds → RepDs K F2 H2 vs ds
  | [], [], _, _ => by simp only [RepDs]
  | [], _ :: _, _, h => by simp only [RepDs] at h
  | _ :: _, [], _, h => by simp only [RepDs] at h
  | d :: ds, v :: vs, f, h => by
    simp only [RepDs] at h ⊢
    rw [List.all_cons, Bool.and_eq_true] at f
    exact ⟨flat_any f.1 h.1, flats_any f.2 h.2⟩
theorem treps_of {K : PySem.W.Frag} {F : Addr → Prop} {H : Hp} : ∀ {ds : List D} {vs : List V}, RepDs K F H vs ds → TReps K F H vs (fzs ds) []
  | [], [], _ => by show TReps K F H [] [] []; simp only [TReps]
  | [], _ :: _, h => by simp only [RepDs] at h
  | _ :: _, [], h => by simp only [RepDs] at h
  | d :: ds, v :: vs, h => by
    simp only [RepDs] at h
    show TReps K F H (v :: vs) (.fz d :: fzs ds) []
    simp only [TReps, TRep]
    exact ⟨[], [], rfl, ⟨rfl, h.1⟩, treps_of h.2⟩
theorem it_items {K : PySem.W.Frag} {F : Addr → Prop} {H : Hp} {a : Addr} {od : Obj} {ks : List Key} {ds : List D} {vs : List V} (ha : H a = some (.frz od (.dK (ks.zip vs)))) (hl : vs.length = ks.length) (hr : RepDs K F H vs ds) (hf : ds.all flatD = true) : ItOkW false K F H (Iti a od (ks.zip vs)) (itemsD ks ds) := fun F2 H2 hF hk => by
  have h2 := hk a _ (.inl rfl) ha
  have l1 := hr.len
  refine ⟨fun i d e => ?_, h2, by unfold itemsD; simp only [List.length_map, List.length_zip]; omega⟩
  unfold itemsD at e
  rw [List.getElem?_map] at e
  obtain ⟨q, e1, e2⟩ := Option.map_eq_some_iff.mp e
  obtain ⟨k, x⟩ := q
  rw [List.getElem?_zip_eq_some] at e1
  obtain ⟨ek, ex⟩ := e1
  obtain ⟨v, ev, rv⟩ := hr.get ex
  have hi := (List.getElem?_eq_some_iff.mp ek).1
  refine ⟨⟨h2, by rw [List.length_zip]; omega⟩, fun y H3 ⟨T, k', v', e3, e4, e5, e6⟩ => ?_⟩
  rw [List.getElem?_zip_eq_some] at e3
  have ek' : some k = some k' := ek.symm.trans e3.1
  have ev' : some v = some v' := ev.symm.trans e3.2
  cases ek'; cases ev'
  subst e4 e6 e2
  refine res_tup e5 ?_
  simp only [RepDs, and_true]
  refine ⟨?_, flat_any (List.all_eq_true.mp hf x (List.mem_of_getElem? ex)) rv⟩
  cases k <;> simp [keyD, kV, RepD]
theorem s_lci {elt : Expr} {ifs : List Expr} {scope : Scope} {own : List (Str × Nat)} {p0 : Pos} {tgt : Tgt} {ch : List Nat} {evt : Env → Option (Bool × Env)} {eve : Env → Option (Val × Env)} {i : Nat} {nm : Str} {ks : List Key} {ts0 ts : List T} {ρ5 : Env} {wt we : Bool} {elts : List Expr} {kk : Nat} {tpos apos cpos npos : Pos}
    (hc : X.calm = true) (hN : X.N.Nodup) (hn : X.N[i]? = some nm) (hv : Vis X.env.scope nm) (hd : (nm == ("__debug__" : Str)) = false) (hcd : (nm == ("__classdict__" : Str)) = false) (hline : (apos.endLine == cpos.line) = true)
    (hi : ρ[i]? = some (Slot.ow (.dct ks ts0))) (h0 : T.unfzs ts0 = some ds) (hfl : ds.all flatD = true)
    (hwt : wt = false) (hwe : we = false) (ok : BlkOk X.N X.env.scope scope own) (hch : ∀ i ∈ ch, i ∈ own.map (·.2))
    (hg : ∀ (s : Shared) (H : Hp) (C : Addr) (cl : List (Str × Addr)) (fp : List Addr) (ρ : Env) (d : D) (ρ2 : Env), bindD ρ tgt d = some ρ2 → PG (X.blk s H scope (compEnvC scope cl C X.env) fp) (.Tuple elts kk tpos) (tG X.K iov ρ ch d ρ2))
    (ht : ∀ (s : Shared) (H : Hp) (C : Addr) (cl : List (Str × Addr)) (fp : List Addr) (ρ : Env) (b : Bool) (ρ2 : Env), evt ρ = some (b, ρ2) → PTs (X.blk s H scope (compEnvC scope cl C X.env) fp) ifs (tT X.K iov ρ b ρ2 wt))
    (he : ∀ (s : Shared) (H : Hp) (C : Addr) (cl : List (Str × Addr)) (fp : List Addr) (ρ : Env) (v : Val) (ρ2 : Env), eve ρ = some (v, ρ2) → PE (X.blk s H scope (compEnvC scope cl C X.env) fp) elt (tE X.K iov ρ v ρ2 we))
    (hl : lcLoop (lcStep tgt evt eve) (own.map (·.2)) (wipeE ((kills i .none ρ).set i .no) (own.map (·.2))) (itemsD ks ds) [] = some (ts, ρ5)) (hz : ts.length ≤ sizeLine) (ho : ownOk ((kills i .none ρ).set i .no) (own.map (·.2)) = true) :
    PE X (.ListComp elt [⟨.Tuple elts kk tpos, .Call (.Attribute (.Name nm npos) "items" apos) [] [] cpos, ifs, 0⟩] scope p0) (tE X.K iov ρ (.t (.lst ts)) ((kills i .none (restore ((kills i .none ρ).set i .no) (own.map (·.2)) ρ5)).set i (.ow (.dct ks ts0))) true) := by
  subst hwt hwe
  have hpi : PI X (.Tuple elts kk tpos) (.Call (.Attribute (.Name nm npos) "items" apos) [] [] cpos) (iItems (tVar i)) := pi_items (pe_var hn hv hd hcd) rfl hline
  have hlc := pe_lc (elt := elt) (pos := p0) hc hN hpi ok (fun s H C cl fp => PG.all fun a : { p : Env × D × Env // bindD p.1 tgt p.2.1 = some p.2.2 } => hg s H C cl fp a.1.1 a.1.2.1 a.1.2.2 a.2)
    (fun s H C cl fp => PTs.all fun a : { p : Env × Bool × Env // evt p.1 = some p.2 } => ht s H C cl fp a.1.1 a.1.2.1 a.1.2.2 a.2)
    (fun s H C cl fp => PE.all fun a : { p : Env × Val × Env // eve p.1 = some p.2 } => he s H C cl fp a.1.1 a.1.2.1 a.1.2.2 a.2) (fun _ => rfl)
  refine PE.imp' (pe_lock hlc) fun σ H Q h => ?_
  obtain ⟨F, fp, S, k⟩ := h
  obtain ⟨v, hv, tr, S0⟩ := S.move hi
  simp only [TRep] at tr
  obtain ⟨a, vs, fq, rfl, hfp, nF, ha, hlen, nd, hr⟩ := tr
  rw [unfzs_eq h0] at hr
  obtain ⟨rfl, rds⟩ := repDs_of hr
  have an : ∀ j, a ∉ updF fp i [] j := fun j hb => by
    by_cases hj : j = i
    · subst hj; rw [updF_same] at hb; cases hb
    · rw [updF_ne hj] at hb
      exact hj (S.dis j i a hb (by rw [hfp]; simp))
  refine ⟨a, .dK (ks.zip vs), ha, trivial, fun od => ?_⟩
  have S1 := S0.beside (D := a) (o := .frz od (.dK (ks.zip vs))) nF an
  have h1 : (upd H a (.frz od (.dK (ks.zip vs)))) a = some (.frz od (.dK (ks.zip vs))) := upd_same
  generalize hH1 : upd H a (.frz od (.dK (ks.zip vs))) = H1 at S1 h1 ⊢
  have key := lc_TE (X := X) (iov := iov) (wi := false) (wb := false) (ds := itemsD ks ds) (wt := false) (we := false) (fun z => nomatch z) (fun z => nomatch z) hch hl hz ho (σ := σ) (H := H1) (ρ := (kills i .none ρ).set i .no)
    (Q := fun v H' => H' a = some (.frz od (.dK (ks.zip vs))) ∧ Q v (upd H' a (.dK (ks.zip vs)))) ⟨F, _, S1, fun w H2 F2 fp2 fa S2 V2 P2 => ?_⟩
  · obtain ⟨F', fp', S', k'⟩ := key
    refine ⟨.ref a, hv, a, od, ks.zip vs, rfl, h1, ?_⟩
    exact k' _ H1 F' fp' S' (it_items h1 hlen (flats_any hfl rds) hfl) (.refl S')
  · have e2 : H2 a = some (.frz od (.dK (ks.zip vs))) := P2.keep a _ h1 (.inr an)
    have n2 : ¬ F2 a := fun f => by
      rcases P2.new a f with z | ⟨j, z⟩ | z
      · exact nF z
      · exact an j z
      · rw [h1] at z; cases z
    have f2 : ∀ j, a ∉ fp2 j := fun j hb => by
      rcases P2.fresh j a hb with ⟨j', z⟩ | z
      · exact an j' z
      · rw [h1] at z; cases z
    have fa2 : a ∉ fa := fun hb => by
      rcases P2.freshv a hb with ⟨j', z⟩ | z
      · exact an j' z
      · rw [h1] at z; cases z
    have back : ∀ b, b ≠ a → H1 b = H b := fun b hb => by rw [← hH1, upd_ne hb]
    refine ⟨e2, k w (upd H2 a (.dK (ks.zip vs))) F2 (updF fp2 i [a]) fa ?_ ?_ ⟨P2.sub, fun b hb => ?_, fun b o e hw => ?_, fun b hb => ?_, fun j b hb => ?_, fun b hb => ?_, fun j b hb hc => ?_, P2.nodv⟩⟩
    · have S3 := S2.beside (D := a) (o := .dK (ks.zip vs)) n2 f2
      have li : i < σ.length := by rw [← S.len]; exact (List.getElem?_eq_some_iff.mp hi).1
      have sl : ∃ s0, (restore ((kills i .none ρ).set i .no) (own.map (·.2)) ρ5)[i]? = some s0 := ⟨_, List.getElem?_eq_getElem (by rw [S3.len]; exact li)⟩
      refine S3.rebind sl rfl (fun _ _ => rfl) (by simp) (fun j b hj hb hc => ?_) ⟨.ref a, hv, ?_⟩
      · simp only [List.mem_singleton] at hc
        subst hc
        exact f2 j hb
      · rw [updF_same]
        simp only [TRep]
        refine ⟨a, vs, [], rfl, rfl, n2, upd_same, hlen, nd, ?_⟩
        rw [unfzs_eq h0]
        exact treps_of (flats_any hfl rds)
    · have V2' : TRep X.K F2 H2 w (.lst ts) fa := V2
      show TRep X.K F2 _ w (.lst ts) fa
      exact TRep.mono (fun _ h => h) _ w fa (fun b hb => (VR.fps V2 b hb).1) (fun b o hb e => by
        rw [upd_ne (by rintro rfl; exact hb.elim n2 fa2)]; exact e) V2'
    · rcases P2.new b hb with z | ⟨j, z⟩ | z
      · exact .inl z
      · exact .inr (.inl ⟨j, updF_le (fun _ z => by simp at z) j b z⟩)
      · by_cases hba : b = a
        · subst hba; exact absurd hb n2
        · exact .inr (.inr (by rw [← back b hba]; exact z))
    · by_cases hba : b = a
      · subst hba; rw [ha] at e; cases e; exact upd_same
      · rw [upd_ne hba]
        refine P2.keep b o (by rw [back b hba]; exact e) (.inr fun j z => ?_)
        rcases hw with hw | hw
        · cases hw
        · exact hw j (updF_le (fun _ z => by simp at z) j b z)
    · by_cases hba : b = a
      · subst hba; rw [upd_same]; simp
      · rw [upd_ne hba]; exact P2.there b (by rw [back b hba]; exact hb)
    · by_cases hj : j = i
      · subst hj
        rw [updF_same] at hb
        have hba : b = a := by simpa using hb
        subst hba
        exact .inl ⟨j, by rw [hfp]; simp⟩
      · rw [updF_ne hj] at hb
        rcases P2.fresh j b hb with ⟨j', z⟩ | z
        · exact .inl ⟨j', updF_le (fun _ z => by simp at z) j' b z⟩
        · by_cases hba : b = a
          · subst hba; rw [h1] at z; cases z
          · exact .inr (by rw [← back b hba]; exact z)
    · rcases P2.freshv b hb with ⟨j', z⟩ | z
      · exact .inl ⟨j', updF_le (fun _ z => by simp at z) j' b z⟩
      · by_cases hba : b = a
        · subst hba; rw [h1] at z; cases z
        · exact .inr (by rw [← back b hba]; exact z)
    · by_cases hj : j = i
      · subst hj
        rw [updF_same] at hb
        have hba : b = a := by simpa using hb
        subst hba
        exact fa2 hc
      · rw [updF_ne hj] at hb
        exact P2.disv j b hb hc
end
end Mv

end
section
/-! The checker of codes and its soundness: expressions. -/
namespace Mv
open PySem PySem.Spec PyProof.Rows L2
section
variable {X : Cx} {iov : Nat → Option V} {t x y z : T} {b b1 b2 : Bool} {ρ ρ1 ρ2 ρ3 ρ' : Env} {wr wa wb wc : Bool} {va vb vc : Val} {e e1 e2 e3 tg : Expr} {es : List Expr} {pos : Pos} {as : List Val} {ds : List D}
theorem chain_T {σ : L2.St} {H : Hp} {Q : VK} (h : tE X.K iov ρ (.t (.fz (.bool b))) ρ3 (wa || wb || wc) σ H Q) :
    tChain (R2C X.K x y true) (R2C X.K y z b) (tE X.K iov ρ (.t x) ρ1 wa) (tE X.K iov ρ1 (.t y) ρ2 wb) (tE X.K iov ρ2 (.t z) ρ3 wc) σ H Q := by
  obtain ⟨F, fp, S, k⟩ := h
  refine ⟨F, fp, S, fun vx H1 F1 fp1 fa S1 V1 P1 => ⟨F1, fp1, S1, fun vy H2 F2 fp2 fb S2 V2 P2 => ?_⟩⟩
  have V1' := V1.step P2 (fun i b hb => (S1.fpF i b hb).1) P1.disv rfl
  have P12 := P1.trans P2 V1.fps
  refine ⟨F2, fa, fb, V1', V2, true, rfl, iteT ⟨F2, fp2, S2, fun vz H3 F3 fp3 fc S3 V3 P3 => ?_⟩⟩
  have V2' := V2.step P3 (fun i b hb => (S2.fpF i b hb).1) P2.disv rfl
  have P := P12.trans P3 (offs V1'.fps V2.fps)
  exact ⟨F3, fb, fc, V2', V3, k _ H3 F3 fp3 [] S3 (vr_bool S3) P.drop0⟩
theorem chain_F {σ : L2.St} {H : Hp} {Q : VK} {r' : R2} {tc : TE} (h : tE X.K iov ρ (.t (.fz (.bool false))) ρ2 (wa || wb || wc) σ H Q) :
    tChain (R2C X.K x y false) r' (tE X.K iov ρ (.t x) ρ1 wa) (tE X.K iov ρ1 (.t y) ρ2 wb) tc σ H Q := by
  obtain ⟨F, fp, S, k⟩ := h
  refine ⟨F, fp, S, fun vx H1 F1 fp1 fa S1 V1 P1 => ⟨F1, fp1, S1, fun vy H2 F2 fp2 fb S2 V2 P2 => ?_⟩⟩
  have V1' := V1.step P2 (fun i b hb => (S1.fpF i b hb).1) P1.disv rfl
  have P12 := P1.trans P2 V1.fps
  exact ⟨F2, fa, fb, V1', V2, false, rfl, iteF (k _ H2 F2 fp2 [] S2 (vr_bool S2) (P12.drop0.more (by intro h; rw [h]; rfl)))⟩
theorem s_chainT (hu : X.A.units + 65 < cLine) {o1 o2 : CmpOp} (ha : PE X e1 (tE X.K iov ρ (.t x) ρ1 wa)) (hb : PE X e2 (tE X.K iov ρ1 (.t y) ρ2 wb)) (h1 : cmpT o1 x y = some true) (hc : PE X e3 (tE X.K iov ρ2 (.t z) ρ3 wc)) (h2 : cmpT o2 y z = some b) (hm : lastMarks [o1, o2] [e2, e3] = false) :
    PE X (.Compare e1 [o1, o2] [e2, e3] pos) (tE X.K iov ρ (.t (.fz (.bool b))) ρ3 (wa || wb || wc)) :=
  PE.imp' (pe_chain (op_cmpT hu h1) (op_cmpT hu h2) ha hb hc hm) fun σ H Q h => chain_T h
theorem s_chainF (hu : X.A.units + 65 < cLine) {o1 o2 : CmpOp} (ha : PE X e1 (tE X.K iov ρ (.t x) ρ1 wa)) (hb : PE X e2 (tE X.K iov ρ1 (.t y) ρ2 wb)) (h1 : cmpT o1 x y = some false) (hm : lastMarks [o1, o2] [e2, e3] = false) :
    PE X (.Compare e1 [o1, o2] [e2, e3] pos) (tE X.K iov ρ (.t (.fz (.bool false))) ρ2 (wa || wb || wc)) :=
  PE.imp' (pe_chain (op' := o2) (op_cmpT hu h1) (r' := fun _ _ _ _ => False) (fun _ _ _ _ _ _ _ _ _ _ _ _ h => h.elim) ha hb (⟨fun _ _ _ _ _ _ q => q.elim⟩ : PE X e3 (fun _ _ _ => False)) hm) fun σ H Q h => chain_F (wc := wc) h
theorem lift {ρ' : Env} {w : Bool} {σ : L2.St} {H : Hp} {Q : Bool → Hp → Prop} (h : tT X.K iov ρ b ρ' w σ H Q) : tE X.K iov ρ (.t (.fz (.bool b))) ρ' w σ H (fun x H' => ∃ k, x = .bl k ∧ Q k H') := by
  obtain ⟨F, fp, S, k⟩ := h
  exact ⟨F, fp, S, fun v H1 F1 fp1 fpv S1 V1 P1 => ⟨b, trep_bool V1, k H1 F1 fp1 S1 P1.drop0⟩⟩
theorem t_chainT (hu : X.A.units + 65 < cLine) {o1 o2 : CmpOp} (ha : PE X e1 (tE X.K iov ρ (.t x) ρ1 wa)) (hb : PE X e2 (tE X.K iov ρ1 (.t y) ρ2 wb)) (h1 : cmpT o1 x y = some true) (hc : PE X e3 (tE X.K iov ρ2 (.t z) ρ3 wc)) (h2 : cmpT o2 y z = some b) (hm : lastMarks [o1, o2] [e2, e3] = false) :
    PT X (.Compare e1 [o1, o2] [e2, e3] pos) (tT X.K iov ρ b ρ3 (wa || wb || wc)) :=
  PT.imp' (pt_chain (op_cmpT hu h1) (op_cmpT hu h2) ha hb hc hm) fun σ H Q h => chain_T (lift h)
theorem t_chainF (hu : X.A.units + 65 < cLine) {o1 o2 : CmpOp} (ha : PE X e1 (tE X.K iov ρ (.t x) ρ1 wa)) (hb : PE X e2 (tE X.K iov ρ1 (.t y) ρ2 wb)) (h1 : cmpT o1 x y = some false) (hm : lastMarks [o1, o2] [e2, e3] = false) :
    PT X (.Compare e1 [o1, o2] [e2, e3] pos) (tT X.K iov ρ false ρ2 (wa || wb || wc)) :=
  PT.imp' (pt_chain (op' := o2) (op_cmpT hu h1) (r' := fun _ _ _ _ => False) (fun _ _ _ _ _ _ _ _ _ _ _ _ h => h.elim) ha hb (⟨fun _ _ _ _ _ _ q => q.elim⟩ : PE X e3 (fun _ _ _ => False)) hm) fun σ H Q h => chain_F (wc := wc) (lift h)
end
/-! ### the checker -/
structure Sx where
  N : List Str
  fns : List (Str × List Str × Kbs)
  gls : List Str
  blts : List Str
abbrev Cf := Str → Bool
def visB (sc : Scope) (nm : Str) : Bool := match sc.names.lookup nm with
  | some .local => true | some .cell => true | some .free => true | _ => false
def locB (sc : Scope) (cf : Cf) (nm : Str) : Bool := match sc.names.lookup nm with
  | some .local => true | some .cell => cf nm | _ => false
def glB (sc : Scope) (nm : Str) : Bool := match sc.names.lookup nm with
  | some .globalImplicit => true | _ => false
def nmOk (nm : Str) : Bool := !(nm == ("__debug__" : Str)) && !(nm == ("__classdict__" : Str))
def constD : Const → Option D
  | .none => some .none | .bool b => some (.bool b) | .int i => some (.int i) | .str s => some (.str s) | _ => Option.none
def valB : Expr → Bool
  | .UnaryOp .Not _ _ => false | .BoolOp _ _ _ => false | .IfExp _ _ _ _ => false | .Compare _ _ _ _ => false | _ => true
def notSet : Expr → Bool
  | .Set _ _ _ => false | _ => true
def baseB : Expr → Bool
  | .Call (.Name _ _) [] [] _ => false | _ => true
def chkTgN (sx : Sx) (sc : Scope) (cf : Cf) : List Nat → List Expr → Bool
  | [], [] => true
  | i :: is, .Name nm _ :: es => decide (sx.N[i]? = some nm) && locB sc cf nm && chkTgN sx sc cf is es
  | _, _ => false
def chkTg (sx : Sx) (sc : Scope) (cf : Cf) : Tgt → Expr → Bool
  | .nm i, .Name nm _ => decide (sx.N[i]? = some nm) && locB sc cf nm
  | .tp is, .Tuple es _ _ => chkTgN sx sc cf is es
  | _, _ => false
/-- isinstance's class by name -/
def tyNm : Blt → Str
  | .isint => "int" | .isbool => "bool" | .isstr => "str" | .islist => "list" | _ => "tuple"
mutual
def chkC (sx : Sx) (sc : Scope) : C → Expr → Bool
  | .var i, .Name nm _ => decide (sx.N[i]? = some nm) && visB sc nm && nmOk nm
  | .mv i, .Name nm _ => decide (sx.N[i]? = some nm) && visB sc nm && nmOk nm
  | .kst d, .Constant c _ _ => (match c, d with
    | .none, .none => true | .bool b, .bool b' => b == b' | .int i, .int i' => decide (i = i') | .str s, .str s' => decide (s = s') | _, _ => false)
  | .gl g, .Name nm _ => decide (sx.gls[g]? = some nm) && glB sc nm && nmOk nm
  | .fzv c, e => chkC sx sc c e
  | .tup es, .Tuple xs _ _ => decide (xs.length ≤ 1000) && chkCs sx sc es xs
  | .list es, .List xs _ => decide (xs.length ≤ 1000) && chkCs sx sc es xs
  | .dict0, .Dict [] [] _ => true
  | .bin op a b, .BinOp x op' y _ => decide (op = op') && chkC sx sc a x && chkC sx sc b y
  | .neg a, .UnaryOp .USub x _ => chkC sx sc a x
  | .notv a, .UnaryOp .Not x _ => chkC sx sc a x
  | .boolop op a b, .BoolOp op' (x :: y :: r) p => decide (op = op') && chkC sx sc a x && (match r with | [] => chkC sx sc b y | _ => chkC sx sc b (.BoolOp op (y :: r) p))
  | .cmp op a b, .Compare x [op'] [y] _ => decide (op = op') && !(behindInMarks op y) && chkC sx sc a x && chkC sx sc b y
  | .chain o1 o2 a b c, .Compare x [p1, p2] [y, z] _ => decide (o1 = p1) && decide (o2 = p2) && !(lastMarks [o1, o2] [y, z]) && chkC sx sc a x && chkC sx sc b y && chkC sx sc c z
  | .ite c a b, .IfExp t x y _ => chkT sx sc c t && chkC sx sc a x && chkC sx sc b y
  | .ix a i, .Subscript x y _ => plainIx y && chkC sx sc a x && chkC sx sc i y
  | .sl a lo hi, .Subscript x (.Slice l h .none _) _ => chkC sx sc a x && chkO sx sc lo l && chkO sx sc hi h
  | .call k es, .Call (.Name nm _) (x :: xs) [] _ => (match sx.fns[k]? with | some (n, _) => decide (n = nm) | .none => false) && glB sc nm && nmOk nm && chkCs sx sc es (x :: xs)
  | .callk k perm es, .Call (.Name nm _) [] kws _ => (match sx.fns[k]? with | some (n, _, kb) => decide (n = nm) && kb.any (fun q => decide (kws.map (·.arg) = q.1.map some) && decide (q.2 = perm)) | .none => false) && decide perm.Nodup && glB sc nm && nmOk nm && chkK sx sc es kws
  | .blt f es, .Call (.Name nm _) (x :: xs) [] _ => glB sc nm && nmOk nm && sx.blts.contains nm && decide (nm = bltN f) && (match isTy f with
    | .none => chkCs sx sc es (x :: xs)
    | some _ => (match xs with
      | [.Name tn _] => glB sc tn && decide (tn = tyNm f) && sx.blts.contains tn && (match es with | .cons c .nil => plainE x && chkC sx sc c x | _ => false)
      | _ => false))
  | .get2 o k d, .Call (.Attribute x m ap) [y, z] [] cp => decide (m = "get") && baseB x && plainE y && plainE z && (ap.endLine == cp.line) && chkC sx sc o x && chkC sx sc k y && chkC sx sc d z
  | .rv a, .Subscript x (.Slice .none .none (some (.UnaryOp .USub (.Constant (.int 1) _ _) _)) _) _ => chkC sx sc a x
  | .lrg1 a, .Call (.Name nl _) [.Call (.Name nr _) [x] [] _] [] _ => decide (nl = "list") && decide (nr = "range") && glB sc nl && glB sc nr && sx.blts.contains nl && sx.blts.contains nr && plainE x && chkC sx sc a x
  | .lrg2 a b, .Call (.Name nl _) [.Call (.Name nr _) [x, y] [] _] [] _ => decide (nl = "list") && decide (nr = "range") && glB sc nl && glB sc nr && sx.blts.contains nl && sx.blts.contains nr && plainE x && plainE y && chkC sx sc a x && chkC sx sc b y
  | .cnt o k, .Call (.Attribute x m ap) [y] [] cp => decide (m = "count") && baseB x && plainE y && (ap.endLine == cp.line) && chkC sx sc o x && chkC sx sc k y
  | .idx o k, .Call (.Attribute x m ap) [y] [] cp => decide (m = "index") && baseB x && plainE y && (ap.endLine == cp.line) && chkC sx sc o x && chkC sx sc k y
  | .lc own tg it tests elt, .ListComp e [⟨t, iter, ifs, n⟩] scope _ => decide (n = 0) && (!it.isBrw || (!tests.wr && !elt.wr)) && blkC sx.N sc scope own && notSet iter && ((tgS tg).all fun i => (own.map (·.2)).contains i) && chkTg sx (relS scope sc) (fun nm => scope.names.lookup nm == some .cell) tg t && chkI sx sc t it iter &&
    chkTo sx (relS scope sc) tests ifs && chkC sx (relS scope sc) elt e
  | .lci own i tg tests elt, .ListComp e [⟨.Tuple elts kk tp, .Call (.Attribute (.Name nm _) m ap) [] [] cp, ifs, n⟩] scope _ => decide (n = 0) && decide (m = "items") && decide (sx.N[i]? = some nm) && visB sc nm && nmOk nm && (ap.endLine == cp.line) && (!tests.wr && !elt.wr) && blkC sx.N sc scope own &&
    ((tgS tg).all fun i => (own.map (·.2)).contains i) && chkTg sx (relS scope sc) (fun nm => scope.names.lookup nm == some .cell) tg (.Tuple elts kk tp) && chkTo sx (relS scope sc) tests ifs && chkC sx (relS scope sc) elt e
  | _, _ => false
where tgS : Tgt → List Nat
  | .nm i => [i]
  | .tp is => is
def chkT (sx : Sx) (sc : Scope) : Tc → Expr → Bool
  | .not t, .UnaryOp .Not x _ => chkT sx sc t x
  | .bool op ts, .BoolOp op' es _ => decide (op = op') && chkTs sx sc ts es
  | .cmp op a b, .Compare x [op'] [y] _ => decide (op = op') && !(behindInMarks op y) && chkC sx sc a x && chkC sx sc b y
  | .chain o1 o2 a b c, .Compare x [p1, p2] [y, z] _ => decide (o1 = p1) && decide (o2 = p2) && !(lastMarks [o1, o2] [y, z]) && chkC sx sc a x && chkC sx sc b y && chkC sx sc c z
  | .val c, e => valB e && chkC sx sc c e
  | _, _ => false
def chkTs (sx : Sx) (sc : Scope) : Tcs → List Expr → Bool
  | .one t, [e] => chkT sx sc t e
  | .cons t ts, e :: es => chkT sx sc t e && chkTs sx sc ts es
  | _, _ => false
def chkTo (sx : Sx) (sc : Scope) : Tco → List Expr → Bool
  | .none, [] => true
  | .some t, [e] => chkT sx sc t e
  | _, _ => false
def chkCs (sx : Sx) (sc : Scope) : Cs → List Expr → Bool
  | .nil, [] => true
  | .cons c cs, e :: es => plainE e && chkC sx sc c e && chkCs sx sc cs es
  | _, _ => false
def chkK (sx : Sx) (sc : Scope) : Cs → List Keyword → Bool
  | .nil, [] => true
  | .cons c cs, ⟨_, e, _⟩ :: es => chkC sx sc c e && chkK sx sc cs es
  | _, _ => false
def chkO (sx : Sx) (sc : Scope) : Co → Option Expr → Bool
  | .none, .none => true
  | .some c, .some e => chkC sx sc c e
  | _, _ => false
def chkI (sx : Sx) (sc : Scope) (tg : Expr) : I → Expr → Bool
  | .seq c, e => chkC sx sc c e
  | .brw c, e => chkC sx sc c e
  | .rng1 a, .Call (.Name nm _) [x] [] _ => decide (nm = "range") && glB sc nm && sx.blts.contains nm && plainE x && chkC sx sc a x
  | .rng2 a b, .Call (.Name nm _) [x, y] [] _ => decide (nm = "range") && glB sc nm && sx.blts.contains nm && plainE x && plainE y && chkC sx sc a x && chkC sx sc b y
  | .enum c, .Call (.Name nm _) [x] [] _ => decide (nm = "enumerate") && glB sc nm && sx.blts.contains nm && plainE x && (match tg with | .Tuple _ _ _ => true | _ => false) && chkC sx sc c x
  | _, _ => false
end
structure CtxOk (sx : Sx) (G : Gam) (sc : Scope) (cf : Cf) (X : Cx) : Prop where
  N : X.N = sx.N
  nd : X.N.Nodup
  sc : X.env.scope = sc
  calm : X.calm = true
  units : X.A.units + 65 < cLine
  gd : X.A.guards = some []
  blt : ∀ nm ∈ sx.blts, X.mg nm = none
  fn : ∀ (k : Nat) (f : Fn) (nm : Str) (ps : List Str) (kb : Kbs), G.fns[k]? = some f → sx.fns[k]? = some (nm, ps, kb) → FnAt X nm ps kb f
  gl : ∀ (g : Nat) (d : D) (nm : Str), G.gls[g]? = some d → sx.gls[g]? = some nm → GlV X nm d
  cell : ∀ nm, cf nm = true → X.fn nm = true
section
variable {sx : Sx} {G : Gam} {sc : Scope} {cf : Cf} {X : Cx} {iov : Nat → Option V}
theorem CtxOk.blk (ok : CtxOk sx G sc cf X) (s : Shared) (H : Hp) (scope : Scope) (C : Addr) (cl : List (Str × Addr)) (fp : List Addr) : CtxOk sx G (relS scope sc) (fun nm => scope.names.lookup nm == some .cell) (X.blk s H scope (compEnvC scope cl C X.env) fp) where
  N := ok.N
  nd := ok.nd
  sc := by rw [← ok.sc]; rfl
  calm := ok.calm
  units := ok.units
  gd := ok.gd
  blt := ok.blt
  fn := fun k f nm ps kb h1 h2 => ⟨(ok.fn k f nm ps kb h1 h2).ex, (ok.fn k f nm ps kb h1 h2).io⟩
  gl := ok.gl
  cell := fun nm h => h
theorem CtxOk.vis (ok : CtxOk sx G sc cf X) {nm : Str} (h : visB sc nm = true) : Vis X.env.scope nm := by
  rw [ok.sc]
  unfold visB at h
  split at h
  · rename_i e; exact .inl e
  · rename_i e; exact .inr (.inl e)
  · rename_i e; exact .inr (.inr e)
  · cases h
theorem CtxOk.loc (ok : CtxOk sx G sc cf X) {nm : Str} (h : locB sc cf nm = true) : Loc X.env.scope nm ∧ (X.fn nm = true ∨ X.env.scope.names.lookup nm = some .local) := by
  rw [ok.sc]
  unfold locB at h
  split at h
  · rename_i e; exact ⟨.inl e, .inr e⟩
  · rename_i e; exact ⟨.inr e, .inl (ok.cell nm h)⟩
  · cases h
theorem CtxOk.glob (ok : CtxOk sx G sc cf X) {nm : Str} (h : glB sc nm = true) : Gl X nm := by
  show X.env.scope.names.lookup nm = some .globalImplicit
  rw [ok.sc]
  unfold glB at h
  split at h
  · assumption
  · cases h
theorem CtxOk.bltn (ok : CtxOk sx G sc cf X) {nm : Str} (h : sx.blts.contains nm = true) : X.mg nm = none := ok.blt nm (by simpa using h)
theorem nmOk_1 {nm : Str} (h : nmOk nm = true) : (nm == ("__debug__" : Str)) = false ∧ (nm == ("__classdict__" : Str)) = false := by
  simpa [nmOk] using h
theorem CtxOk.ix (ok : CtxOk sx G sc cf X) {i : Nat} {nm : Str} (h : sx.N[i]? = some nm) : X.N[i]? = some nm := by rw [ok.N]; exact h
theorem tgN_ok (ok : CtxOk sx G sc cf X) : ∀ {is : List Nat} {es : List Expr}, chkTgN sx sc cf is es = true → is.length = es.length ∧ es.all plainE = true ∧ ∀ (n i : Nat) (e : Expr), is[n]? = some i → es[n]? = some e → ∃ nm p, e = .Name nm p ∧ X.N[i]? = some nm ∧ Loc X.env.scope nm ∧ (X.fn nm = true ∨ X.env.scope.names.lookup nm = some .local)
  | [], [], _ => ⟨rfl, rfl, fun n i e h => by simp at h⟩
  | [], _ :: _, h => by simp [chkTgN] at h
  | _ :: _, [], h => by simp [chkTgN] at h
  | i :: is, e :: es, h => by
    cases e with
    | Name nm p =>
      simp only [chkTgN, Bool.and_eq_true, decide_eq_true_eq] at h
      obtain ⟨⟨h1, h2⟩, h3⟩ := h
      obtain ⟨a1, a2, a3⟩ := tgN_ok ok h3
      refine ⟨by simp [a1], by simp [a2, plainE], fun n j e q1 q2 => ?_⟩
      cases n with
      | zero =>
        simp at q1 q2
        subst q1 q2
        exact ⟨nm, p, rfl, ok.ix h1, (ok.loc h2).1, (ok.loc h2).2⟩
      | succ n => exact a3 n j e (by simpa using q1) (by simpa using q2)
    | _ => simp [chkTgN] at h
theorem assignEach_plain (env : PySem.Env) : ∀ {es : List Expr}, es.all plainE = true → (assignEach es env).length = es.length ∧ (assignEach es env).findIdx? (·.1) = none
  | [], _ => ⟨rfl, rfl⟩
  | e :: es, h => by
    simp only [List.all_cons, Bool.and_eq_true] at h
    obtain ⟨h1, h2⟩ := assignEach_plain env h.2
    have e1 : assignEach (e :: es) env = (false, assign e env) :: assignEach es env := by
      cases e <;> first | rfl | (simp [plainE] at h)
    rw [e1]
    refine ⟨by simp [h1], ?_⟩
    rw [List.findIdx?_cons, h2]
    rfl
theorem tg_ok (ok : CtxOk sx G sc cf X) {tg : Tgt} {e : Expr} (h : chkTg sx sc cf tg e = true) {ρ ρ2 : Env} {d : D} (hb : bindD ρ tg d = some ρ2) : PG X e (tG X.K iov ρ (chkC.tgS tg) d ρ2) := by
  cases tg with
  | nm i =>
    cases e with
    | Name nm p =>
      simp only [chkTg, Bool.and_eq_true, decide_eq_true_eq] at h
      exact g_name ok.nd (ok.ix h.1) (ok.loc h.2).1 (ok.loc h.2).2 hb
    | _ => simp [chkTg] at h
  | tp is =>
    cases e with
    | Tuple es k p =>
      simp only [chkTg] at h
      obtain ⟨h1, h2, h3⟩ := tgN_ok ok h
      obtain ⟨a1, a2⟩ := assignEach_plain X.env h2
      exact g_tup ok.calm h1 hb ok.nd a1 a2 h3
    | _ => simp [chkTg] at h
theorem plain_back (pos : Pos) (env : PySem.Env) : ∀ {es : List Expr}, es.all plainE = true → (backTo pos (starEach es env)).any (·.1) = false
  | [], _ => rfl
  | e :: es, h => by
    simp only [List.all_cons, Bool.and_eq_true] at h
    rw [star_plain h.1]
    have := plain_back pos env h.2
    unfold backTo at this ⊢
    rw [List.map_cons, List.any_cons, this]
    rfl
theorem base_ok {o : Expr} (h : baseB o = true) (m : Str) (env : PySem.Env) (w : Sem Value) : attributeBase o m env w = w := by
  unfold attributeBase
  split
  · simp [baseB] at h
  · rfl
theorem plainIx_noSl {e : Expr} (h : plainIx e = true) : NoSl e := fun o i => by
  cases e <;> first | rfl | (simp [plainIx] at h)
theorem val_ok {e : Expr} (h : valB e = true) (env : PySem.Env) : ∀ whole, isTrue e env whole = (do let v ← whole; standAt e.pos; holding [v] (truthy v)) := fun w => by
  cases e with
  | UnaryOp op x p => cases op <;> first | rfl | (simp [valB] at h)
  | BoolOp _ _ _ => simp [valB] at h
  | IfExp _ _ _ _ => simp [valB] at h
  | Compare _ _ _ _ => simp [valB] at h
  | _ => rfl
theorem notSet_ok {e : Expr} (h : notSet e = true) (env : PySem.Env) : ∀ x, foldedSetIterable e env x = pure x := fun x => by
  cases e <;> first | rfl | (simp [notSet] at h)
end
end Mv

end
section
/-! The checker is sound: expressions. -/
namespace Mv
open PySem PySem.Spec PyProof.Rows L2
theorem tIW.more {X : Cx} {iov : Nat → Option V} {tg e : Expr} {ρ ρ1 : Env} {ds : List D} {wa w wb : Bool} (h : PI X tg e (tIW wb X.K iov ρ ds ρ1 wa)) (hw : wa = true → w = true) : PI X tg e (tIW wb X.K iov ρ ds ρ1 w) :=
  PI.imp' h fun σ H Q ⟨F, fp, S, k⟩ => ⟨F, fp, S, fun J H1 F1 fp1 S1 it P => k J H1 F1 fp1 S1 it (P.more hw)⟩
theorem brw_t {a b c : Bool} (h : (!a || (!b && !c)) = true) (z : b = true) : (!a) = true := by cases a <;> cases b <;> cases c <;> simp_all
theorem brw_e {a b c : Bool} (h : (!a || (!b && !c)) = true) (z : c = true) : (!a) = true := by cases a <;> cases b <;> cases c <;> simp_all
theorem tI.more {X : Cx} {iov : Nat → Option V} {tg e : Expr} {ρ ρ1 : Env} {ds : List D} {wa w : Bool} (h : PI X tg e (tI X.K iov ρ ds ρ1 wa)) (hw : wa = true → w = true) : PI X tg e (tI X.K iov ρ ds ρ1 w) :=
  PI.imp' h fun σ H Q ⟨F, fp, S, k⟩ => ⟨F, fp, S, fun J H1 F1 fp1 S1 it P => k J H1 F1 fp1 S1 it (P.more hw)⟩
theorem tO.more {X : Cx} {iov : Nat → Option V} {e : Option Expr} {ρ ρ1 : Env} {l : Option Int} {wa w : Bool} (h : PO X e (tO X.K iov ρ l ρ1 wa)) (hw : wa = true → w = true) : PO X e (tO X.K iov ρ l ρ1 w) :=
  PO.imp' h fun σ H Q ⟨F, fp, S, k⟩ => ⟨F, fp, S, fun H1 F1 fp1 S1 P => k H1 F1 fp1 S1 (P.more hw)⟩
theorem PTs.imp' {X : Cx} {e : List Expr} {t t' : TT} (h : PTs X e t) (k : ∀ σ H Q, t' σ H Q → t σ H Q) : PTs X e t' := ⟨fun pins s σ H Q I q => h.run pins s σ H Q I (k _ _ _ q)⟩
theorem dict_flat {x : T} {p : List Key × List T} (h : dictOf x = some p) : True := trivial
theorem ix_none {x : T} (h : dictOf x = none) : True := trivial
theorem ixVal_get {ρ : Env} {va : Val} {i x : T} {vc : Val} (hr : resolve ρ va = some x) (h : ixVal ρ va i = some vc) : ∃ t k, getIx x i = some (t, k) := by
  cases va with
  | t t =>
    cases hr
    obtain ⟨p, e1, _⟩ := Option.map_eq_some_iff.mp h
    exact ⟨p.1, p.2, e1⟩
  | pt j l =>
    have hr : getPt ρ j l = some x := hr
    unfold ixVal at h
    simp only [hr] at h
    split at h
    · rename_i d k e; exact ⟨_, _, e⟩
    · rename_i t k _ e; exact ⟨_, _, e⟩
    · cases h
theorem tyNm_boot {f : Blt} {T : String} (h : isTy f = some T) : bootBuiltins (tyNm f) = some (.type T) ∧ tyNm f ≠ "__name__" ∧ (tyNm f == ("__debug__" : Str)) = false := by
  cases f <;> simp [isTy] at h <;> subst h
  · exact ⟨boot_int, by decide +kernel, by decide +kernel⟩
  · exact ⟨boot_bool, by decide +kernel, by decide +kernel⟩
  · exact ⟨boot_str, by decide +kernel, by decide +kernel⟩
  · exact ⟨boot_list, by decide +kernel, by decide +kernel⟩
  · exact ⟨boot_tuple, by decide +kernel, by decide +kernel⟩
theorem bltN_isi {f : Blt} {T : String} (h : isTy f = some T) : bltN f = "isinstance" := by
  cases f <;> simp [isTy] at h <;> rfl
theorem callF_1 {va : Val} {f : Fn} {ρ ρ' : Env} {vs : List Val} (h : (callF f ρ vs).map (fun p => (Val.t p.1, p.2)) = some (va, ρ')) : ∃ t, va = .t t ∧ callF f ρ vs = some (t, ρ') := by
  obtain ⟨p, e1, e2⟩ := Option.map_eq_some_iff.mp h
  cases e2
  exact ⟨_, rfl, e1⟩
section
variable {sx : Sx} {G : Gam} {iov : Nat → Option V}
set_option maxHeartbeats 20000000
mutual
theorem sndC : ∀ (c : C) {sc : Scope} {cf : Cf} {X : Cx} (ok : CtxOk sx G sc cf X) {e : Expr}, chkC sx sc c e = true → ∀ {ρ a ρ'}, evC G c ρ = some (a, ρ') → PE X e (tE X.K iov ρ a ρ' c.wr)
  | .var i, sc, cf, X, ok, e, h, ρ, a, ρ', ev => by
    cases e with
    | Name nm p =>
      simp only [chkC, Bool.and_eq_true, decide_eq_true_eq] at h
      obtain ⟨⟨h1, h2⟩, h3⟩ := h
      simp only [evC] at ev
      obtain ⟨v, e1, e2⟩ := Option.map_eq_some_iff.mp ev
      cases e2
      exact s_var (ok.ix h1) (ok.vis h2) (nmOk_1 h3).1 (nmOk_1 h3).2 e1
    | _ => simp [chkC] at h
  | .mv i, sc, cf, X, ok, e, h, ρ, a, ρ', ev => by
    cases e with
    | Name nm p =>
      simp only [chkC, Bool.and_eq_true, decide_eq_true_eq] at h
      obtain ⟨⟨h1, h2⟩, h3⟩ := h
      simp only [evC] at ev
      split at ev
      · rename_i t e1
        cases ev
        exact s_mv (ok.ix h1) (ok.vis h2) (nmOk_1 h3).1 (nmOk_1 h3).2 e1
      · cases ev
    | _ => simp [chkC] at h
  | .kst d, sc, cf, X, ok, e, h, ρ, a, ρ', ev => by
    cases e with
    | Constant c k p =>
      simp only [chkC] at h
      simp only [evC] at ev
      cases ev
      split at h
      · exact s_const_none
      · simp at h; subst h; exact s_const_bool
      · simp at h; subst h; exact s_const_int
      · simp at h; subst h; exact s_const_str
      · cases h
    | _ => simp [chkC] at h
  | .gl g, sc, cf, X, ok, e, h, ρ, a, ρ', ev => by
    cases e with
    | Name nm p =>
      simp only [chkC, Bool.and_eq_true, decide_eq_true_eq] at h
      obtain ⟨⟨h1, h2⟩, h3⟩ := h
      simp only [evC] at ev
      obtain ⟨d, e1, e2⟩ := Option.map_eq_some_iff.mp ev
      cases e2
      exact s_gl (ok.glob h2) (ok.gl g d nm e1 h1) (nmOk_1 h3).1
    | _ => simp [chkC] at h
  | .fzv c, sc, cf, X, ok, e, h, ρ, a, ρ', ev => by
    have h : chkC sx sc c e = true := by simpa only [chkC] using h
    simp only [evC] at ev
    split at ev
    · rename_i v ρ1 e1
      obtain ⟨p, e2, e3⟩ := Option.map_eq_some_iff.mp ev
      cases e3
      exact s_fzv (sndC c ok h e1) e2
    · cases ev
  | .tup es, sc, cf, X, ok, e, h, ρ, a, ρ', ev => by
    cases e with
    | Tuple xs k p =>
      simp only [chkC, Bool.and_eq_true, decide_eq_true_eq] at h
      simp only [evC] at ev
      split at ev
      · rename_i vs ρ1 e1
        obtain ⟨q, e2, e3⟩ := Option.map_eq_some_iff.mp ev
        cases e3
        obtain ⟨h1, _, h3⟩ := sndCs es ok h.2 e1
        exact s_tup h.1 h3 h1 e2
      · cases ev
    | _ => simp [chkC] at h
  | .list es, sc, cf, X, ok, e, h, ρ, a, ρ', ev => by
    cases e with
    | List xs p =>
      simp only [chkC, Bool.and_eq_true, decide_eq_true_eq] at h
      simp only [evC] at ev
      split at ev
      · rename_i vs ρ1 e1
        obtain ⟨q, e2, e3⟩ := Option.map_eq_some_iff.mp ev
        cases e3
        obtain ⟨h1, _, h3⟩ := sndCs es ok h.2 e1
        exact s_list h.1 h3 h1 e2
      · cases ev
    | _ => simp [chkC] at h
  | .dict0, sc, cf, X, ok, e, h, ρ, a, ρ', ev => by
    simp only [evC] at ev
    cases ev
    cases e with
    | Dict ks vs p =>
      match ks, vs, h with
      | [], [], h => exact s_dict0
      | [], _ :: _, h => simp [chkC] at h
      | _ :: _, _, h => simp [chkC] at h
    | _ => simp [chkC] at h
  | .bin op ca cb, sc, cf, X, ok, e, h, ρ, a, ρ', ev => by
    cases e with
    | BinOp x op' y p =>
      simp only [chkC, Bool.and_eq_true, decide_eq_true_eq] at h
      obtain ⟨⟨rfl, h2⟩, h3⟩ := h
      simp only [evC] at ev
      split at ev
      · rename_i va ρ1 e1
        split at ev
        · rename_i vb ρ2 e2
          split at ev
          · rename_i st
            split at ev
            · rename_i tx ty rx ry
              obtain ⟨t, e3, e4⟩ := Option.map_eq_some_iff.mp ev
              cases e4
              exact s_bin (sndC ca ok h2 e1) (sndC cb ok h3 e2) st rx ry e3
            · cases ev
          · cases ev
        · cases ev
      · cases ev
    | _ => simp [chkC] at h
  | .neg ca, sc, cf, X, ok, e, h, ρ, a, ρ', ev => by
    cases e with
    | UnaryOp op x p =>
      cases op with
      | USub =>
        simp only [chkC] at h
        simp only [evC] at ev
        split at ev
        · rename_i i ρ1 e1
          cases ev
          exact s_neg (sndC ca ok h e1)
        · cases ev
      | _ => simp [chkC] at h
    | _ => simp [chkC] at h
  | .notv ca, sc, cf, X, ok, e, h, ρ, a, ρ', ev => by
    cases e with
    | UnaryOp op x p =>
      cases op with
      | Not =>
        simp only [chkC] at h
        simp only [evC] at ev
        split at ev
        · rename_i i ρ1 e1
          cases ev
          exact s_notv (sndC ca ok h e1)
        · cases ev
      | _ => simp [chkC] at h
    | _ => simp [chkC] at h
  | .boolop op ca cb, sc, cf, X, ok, e, h, ρ, a, ρ', ev => by
    cases e with
    | BoolOp op' xs p =>
      match xs, h with
      | [], h => simp [chkC] at h
      | [_], h => simp [chkC] at h
      | x :: y :: r, h =>
        simp only [chkC, Bool.and_eq_true, decide_eq_true_eq] at h
        obtain ⟨⟨rfl, h2⟩, h3⟩ := h
        simp only [evC] at ev
        split at ev
        · rename_i k ρ1 e1
          have hb : (decide (op = .And)) = k → ∀ {a ρ'}, evC G cb ρ1 = some (a, ρ') → PE X (.BoolOp op (y :: r) p) (tE X.K iov ρ1 a ρ' cb.wr) := fun _ a ρ' e2 => by
            cases r with
            | nil => exact pe_one (sndC cb ok h3 e2)
            | cons z r => exact sndC cb ok h3 e2
          by_cases hk : (decide (op = .And)) = k
          · rw [if_pos hk] at ev
            exact s_boolop (sndC ca ok h2 e1) (fun _ => hb hk ev) (fun z => absurd hk z)
          · rw [if_neg hk] at ev
            cases ev
            exact s_boolop (sndC ca ok h2 e1) (fun z => absurd z hk) (fun _ => ⟨rfl, rfl⟩)
        · cases ev
    | _ => simp [chkC] at h
  | .cmp op ca cb, sc, cf, X, ok, e, h, ρ, a, ρ', ev => by
    cases e with
    | Compare x ops cs p =>
      match ops, cs, h with
      | [], _, h => simp [chkC] at h
      | [_], [], h => simp [chkC] at h
      | [_], _ :: _ :: _, h => simp [chkC] at h
      | _ :: _ :: _, _, h => simp [chkC] at h
      | [op'], [y], h =>
        simp only [chkC, Bool.and_eq_true, decide_eq_true_eq, Bool.not_eq_true'] at h
        obtain ⟨⟨⟨rfl, hm⟩, h2⟩, h3⟩ := h
        simp only [evC] at ev
        split at ev
        · rename_i va ρ1 e1
          split at ev
          · rename_i vb ρ2 e2
            split at ev
            · rename_i st
              split at ev
              · rename_i tx ty rx ry
                obtain ⟨t, e3, e4⟩ := Option.map_eq_some_iff.mp ev
                cases e4
                exact s_cmp ok.units (sndC ca ok h2 e1) (sndC cb ok h3 e2) st rx ry e3 hm
              · cases ev
            · cases ev
          · cases ev
        · cases ev
    | _ => simp [chkC] at h
  | .chain o1 o2 ca cb cc, sc, cf, X, ok, e, h, ρ, a, ρ', ev => by
    cases e with
    | Compare x ops cs p =>
      match ops, cs, h with
      | [], _, h => simp [chkC] at h
      | [_], _, h => simp [chkC] at h
      | _ :: _ :: _ :: _, _, h => simp [chkC] at h
      | [_, _], [], h => simp [chkC] at h
      | [_, _], [_], h => simp [chkC] at h
      | [_, _], _ :: _ :: _ :: _, h => simp [chkC] at h
      | [p1, p2], [y, z], h =>
        simp only [chkC, Bool.and_eq_true, decide_eq_true_eq, Bool.not_eq_true'] at h
        obtain ⟨⟨⟨⟨⟨rfl, rfl⟩, hm⟩, h2⟩, h3⟩, h4⟩ := h
        simp only [evC] at ev
        split at ev
        · rename_i tx ρ1 e1
          split at ev
          · rename_i ty ρ2 e2
            split at ev
            · rename_i e3
              cases ev
              exact s_chainF ok.units (sndC ca ok h2 e1) (sndC cb ok h3 e2) e3 hm
            · rename_i e3
              split at ev
              · rename_i tz ρ3 e4
                obtain ⟨t, e5, e6⟩ := Option.map_eq_some_iff.mp ev
                cases e6
                exact s_chainT ok.units (sndC ca ok h2 e1) (sndC cb ok h3 e2) e3 (sndC cc ok h4 e4) e5 hm
              · cases ev
            · cases ev
          · cases ev
        · cases ev
    | _ => simp [chkC] at h
  | .ite ct ca cb, sc, cf, X, ok, e, h, ρ, a, ρ', ev => by
    cases e with
    | IfExp t x y p =>
      simp only [chkC, Bool.and_eq_true] at h
      obtain ⟨⟨h1, h2⟩, h3⟩ := h
      simp only [evC] at ev
      have fin : ∀ {w : Bool}, PE X (.IfExp t x y p) (tE X.K iov ρ a ρ' (ct.wr || (ca.wr || cb.wr))) → PE X (.IfExp t x y p) (tE X.K iov ρ a ρ' (C.ite ct ca cb).wr) := fun {w} q => tE.more q (by simp only [C.wr, Bool.or_assoc]; exact id)
      split at ev
      · rename_i ρ1 e1
        exact fin (w := true) (s_ite (tc := fun _ _ _ => False) (sndT ct ok h1 e1) (fun _ => tE.more (sndC ca ok h2 ev) (by intro z; rw [z]; rfl)) (fun z => nomatch z))
      · rename_i ρ1 e1
        exact fin (w := true) (s_ite (tc := fun _ _ _ => False) (sndT ct ok h1 e1) (fun z => nomatch z) (fun _ => tE.more (sndC cb ok h3 ev) (by intro z; rw [z, Bool.or_true])))
      · cases ev
    | _ => simp [chkC] at h
  | .ix ca ci, sc, cf, X, ok, e, h, ρ, a, ρ', ev => by
    cases e with
    | Subscript x y p =>
      simp only [chkC, Bool.and_eq_true] at h
      obtain ⟨⟨h1, h2⟩, h3⟩ := h
      simp only [evC] at ev
      split at ev
      · rename_i va ρ1 e1
        split at ev
        · rename_i ti ρ2 e2
          split at ev
          · rename_i st
            split at ev
            · rename_i tx rx
              split at ev
              · rename_i ks ts hd
                obtain ⟨d, e3, e4⟩ := Option.map_eq_some_iff.mp ev
                cases e4
                exact s_dix ok.units (plainIx_noSl h1) (sndC ca ok h2 e1) (sndC ci ok h3 e2) st rx hd e3
              · obtain ⟨v, e3, e4⟩ := Option.map_eq_some_iff.mp ev
                cases e4
                obtain ⟨t, k, e5⟩ := ixVal_get rx e3
                exact s_ix h1 (sndC ca ok h2 e1) (sndC ci ok h3 e2) st rx e5 e3
            · cases ev
          · cases ev
        · cases ev
      · cases ev
    | _ => simp [chkC] at h
  | .sl ca lo hi, sc, cf, X, ok, e, h, ρ, a, ρ', ev => by
    cases e with
    | Subscript x y p =>
      cases y with
      | Slice l u st p2 =>
        cases st with
        | some _ => simp [chkC] at h
        | none =>
          simp only [chkC, Bool.and_eq_true] at h
          obtain ⟨⟨h1, h2⟩, h3⟩ := h
          simp only [evC] at ev
          split at ev
          · rename_i va ρ1 e1
            split at ev
            · rename_i l' ρ2 e2
              split at ev
              · rename_i u' ρ3 e3
                split at ev
                · rename_i st
                  simp only [Bool.and_eq_true] at st
                  split at ev
                  · rename_i tx rx
                    obtain ⟨t, e4, e5⟩ := Option.map_eq_some_iff.mp ev
                    cases e5
                    exact tE.more (s_sl (sndC ca ok h1 e1) (sndO lo ok h2 e2) (sndO hi ok h3 e3) st.1.1 rx e4) (by simp only [C.wr, Bool.or_assoc]; exact id)
                  · cases ev
                · cases ev
              · cases ev
            · cases ev
          · cases ev
      | _ => simp [chkC] at h
    | _ => simp [chkC] at h
  | .call k cs, sc, cf, X, ok, e, h, ρ, a, ρ', ev => by
    cases e with
    | Call f args kws p =>
      cases f with
      | Name nm p2 =>
        match args, kws, h with
        | [], _, h => simp [chkC] at h
        | _ :: _, _ :: _, h => simp [chkC] at h
        | x :: xs, [], h =>
          simp only [chkC, Bool.and_eq_true] at h
          obtain ⟨⟨⟨h1, h2⟩, h3⟩, h4⟩ := h
          simp only [evC] at ev
          split at ev
          · rename_i fn hf
            split at ev
            · rename_i vs ρ1 e1
              obtain ⟨t, rfl, e2⟩ := callF_1 ev
              split at h1
              · rename_i n pk hn
                obtain ⟨ps, kb⟩ := pk
                have h1 : n = nm := by simpa using h1
                subst h1
                obtain ⟨_, a2, a3⟩ := sndCs cs ok h4 e1
                simp only [List.all_cons, Bool.and_eq_true] at a2
                exact s_call (ok.fn k fn n ps kb hf hn) ok.gd (ok.glob h2) (nmOk_1 h3).1 a2.1 (plain_back p X.env a2.2) a3 e2
              · cases h1
            · cases ev
          · cases ev
      | _ => simp [chkC] at h
    | _ => simp [chkC] at h
  | .callk k perm cs, sc, cf, X, ok, e, h, ρ, a, ρ', ev => by
    cases e with
    | Call f args kws p =>
      cases f with
      | Name nm p2 =>
        cases args with
        | cons _ _ => simp [chkC] at h
        | nil =>
          simp only [chkC, Bool.and_eq_true, decide_eq_true_eq] at h
          obtain ⟨⟨⟨⟨h1, hnd⟩, h2⟩, h3⟩, h4⟩ := h
          simp only [evC] at ev
          split at ev
          · rename_i fn hf
            split at ev
            · rename_i vs ρ1 e1
              split at ev
              · rename_i ws e5
                obtain ⟨t, rfl, e2⟩ := callF_1 ev
                split at h1
                · rename_i n ps kb hn
                  simp only [Bool.and_eq_true, decide_eq_true_eq] at h1
                  obtain ⟨rfl, h1⟩ := h1
                  obtain ⟨q, hq, hq2⟩ := List.any_eq_true.mp h1
                  simp only [Bool.and_eq_true, decide_eq_true_eq] at hq2
                  obtain ⟨ks, pm⟩ := q
                  obtain ⟨hq2, rfl⟩ := hq2
                  obtain ⟨a1, a3⟩ := sndK cs ok h4 e1
                  have hkl : kws.length = ks.length := by have := congrArg List.length hq2; simpa using this
                  exact s_callk (ok.fn k fn n ps kb hf hn) ok.gd (ok.glob h2) (nmOk_1 h3).1 hq hq2 hkl (by rw [a1, hkl]) a3 e5 hnd e2
                · cases h1
              · cases ev
            · cases ev
          · cases ev
      | _ => simp [chkC] at h
    | _ => simp [chkC] at h
  | .blt f cs, sc, cf, X, ok, e, h, ρ, a, ρ', ev => by
    cases e with
    | Call g args kws p =>
      cases g with
      | Name nm p2 =>
        match args, kws, h with
        | [], _, h => simp [chkC] at h
        | _ :: _, _ :: _, h => simp [chkC] at h
        | x :: xs, [], h =>
          unfold chkC at h
          simp only [Bool.and_eq_true, decide_eq_true_eq] at h
          obtain ⟨⟨⟨⟨h1, h2⟩, h3⟩, rfl⟩, h5⟩ := h
          simp only [evC] at ev
          split at ev
          · rename_i vs ρ1 e1
            split at ev
            · rename_i ts e2
              obtain ⟨t, e3, e4⟩ := Option.map_eq_some_iff.mp ev
              cases e4
              split at h5
              · rename_i hty
                obtain ⟨_, a2, a3⟩ := sndCs cs ok h5 e1
                simp only [List.all_cons, Bool.and_eq_true] at a2
                exact s_blt ok.calm ok.units ok.gd rfl (ok.glob h1) (ok.bltn h3) a2.1 (plain_back p X.env a2.2) a3 e2 e3 hty
              · rename_i Ty hty
                split at h5
                · rename_i tn p3
                  simp only [Bool.and_eq_true, decide_eq_true_eq] at h5
                  obtain ⟨⟨⟨b1, rfl⟩, b3⟩, b4⟩ := h5
                  split at b4
                  · rename_i c
                    simp only [Bool.and_eq_true] at b4
                    rw [bltN_isi hty] at *
                    obtain ⟨q1, q2, q3⟩ := tyNm_boot hty
                    simp only [evs] at e1
                    split at e1
                    · rename_i v ρ2 e5
                      try simp only at e1
                      split at e1
                      · cases e1
                        have e2' := e2
                        simp only [resolves] at e2'
                        split at e2'
                        · rename_i t1 ts1 r1 r2
                          cases r2
                          cases e2'
                          exact tE.more (s_isi hty q1 (ok.glob h1) (ok.bltn h3) (ok.glob b1) (ok.bltn b3) q2 q3 b4.1 (sndC c ok b4.2 e5) r1 e3) (by simp only [C.wr, Cs.wr, Bool.or_false]; exact id)
                        · cases e2'
                      · cases e1
                    · cases e1
                  · cases b4
                · cases h5
            · cases ev
          · cases ev
      | _ => simp [chkC] at h
    | _ => simp [chkC] at h
  | .get2 co ck cd, sc, cf, X, ok, e, h, ρ, a, ρ', ev => by
    cases e with
    | Call g args kws p =>
      cases g with
      | Attribute x m ap =>
        match args, kws, h with
        | [], _, h => simp [chkC] at h
        | [_], _, h => simp [chkC] at h
        | _ :: _ :: _ :: _, _, h => simp [chkC] at h
        | [_, _], _ :: _, h => simp [chkC] at h
        | [y, z], [], h =>
          simp only [chkC, Bool.and_eq_true, decide_eq_true_eq] at h
          obtain ⟨⟨⟨⟨⟨⟨⟨rfl, h1⟩, h2⟩, h3⟩, h4⟩, h5⟩, h6⟩, h7⟩ := h
          have m2 : M2 X x "get" ap y z p := ⟨base_ok h1 _ _ _, by rw [star_plain h2, star_plain h3]; rfl, h4, by rw [star_plain h2, star_plain h3]; rfl⟩
          simp only [evC] at ev
          split at ev
          · rename_i va ρ1 e1
            split at ev
            · rename_i key ρ2 e2
              split at ev
              · rename_i dft ρ3 e3
                split at ev
                · rename_i st
                  simp only [Bool.and_eq_true] at st
                  obtain ⟨p1, hp1⟩ := Option.isSome_iff_exists.mp st.2
                  obtain ⟨x1, r1, d1⟩ := Option.bind_eq_some_iff.mp hp1
                  split at ev
                  · rename_i ks ts kk q1 q2
                    obtain ⟨x3, r3, d3⟩ := Option.bind_eq_some_iff.mp q1
                    have go : ∀ d, ((findK kk ks ts = some (.fz d)) ∨ (findK kk ks ts = none ∧ d = dft)) → PE X (.Call (.Attribute x "get" ap) [y, z] [] p) (tE X.K iov ρ (.t (.fz d)) ρ3 (C.get2 co ck cd).wr) := fun d hd =>
                      tE.more (s_get2 ok.units m2 (sndC co ok h5 e1) (sndC ck ok h6 e2) (sndC cd ok h7 e3) st.1 r1 d1 r3 d3 q2 hd) (by simp only [C.wr, Bool.or_assoc]; exact id)
                    split at ev
                    · rename_i xx hf; cases ev; exact go _ (.inl hf)
                    · cases ev
                    · rename_i hf; cases ev; exact go _ (.inr ⟨hf, rfl⟩)
                  · cases ev
                · cases ev
              · cases ev
            · cases ev
          · cases ev
      | _ => simp [chkC] at h
    | _ => simp [chkC] at h
  | .get1 _ _, sc, cf, X, ok, e, h, ρ, a, ρ', ev => by simp [evC] at ev
  | .rv ca, sc, cf, X, ok, e, h, ρ, a, ρ', ev => by
    unfold chkC at h
    split at h <;> (try contradiction)
    rename_i heq
    cases heq
    simp only [evC] at ev
    split at ev
    · rename_i va ρ1 e1
      split at ev
      · rename_i x rx
        obtain ⟨ds, hf, e4⟩ := Option.map_eq_some_iff.mp ev
        cases e4
        exact s_rv (sndC ca ok h e1) rx hf
      · cases ev
    · cases ev
  | .lrg1 ca, sc, cf, X, ok, e, h, ρ, a, ρ', ev => by
    unfold chkC at h
    split at h <;> (try contradiction)
    rename_i heq
    cases heq
    simp only [Bool.and_eq_true, decide_eq_true_eq] at h
    obtain ⟨⟨⟨⟨⟨⟨⟨rfl, rfl⟩, g1⟩, g2⟩, m1⟩, m2⟩, hp⟩, hc⟩ := h
    simp only [evC] at ev
    split at ev
    · rename_i i ρ1 e1
      split at ev
      · rename_i hi
        cases ev
        exact s_lrg1 ok.calm (ok.glob g1) (ok.bltn m1) (ok.glob g2) (ok.bltn m2) hp (sndC ca ok hc e1) hi
      · cases ev
    · cases ev
  | .lrg2 ca cb, sc, cf, X, ok, e, h, ρ, a, ρ', ev => by
    unfold chkC at h
    split at h <;> (try contradiction)
    rename_i heq1 heq
    cases heq1
    cases heq
    simp only [Bool.and_eq_true, decide_eq_true_eq] at h
    obtain ⟨⟨⟨⟨⟨⟨⟨⟨⟨rfl, rfl⟩, g1⟩, g2⟩, m1⟩, m2⟩, hp⟩, hp2⟩, hc⟩, hc2⟩ := h
    simp only [evC] at ev
    split at ev
    · rename_i i ρ1 e1
      split at ev
      · rename_i j ρ2 e2
        split at ev
        · rename_i hi
          cases ev
          exact s_lrg2 ok.calm (ok.glob g1) (ok.bltn m1) (ok.glob g2) (ok.bltn m2) hp hp2 (sndC ca ok hc e1) (sndC cb ok hc2 e2) hi
        · cases ev
      · cases ev
    · cases ev
  | .cnt co ck, sc, cf, X, ok, e, h, ρ, a, ρ', ev => by
    unfold chkC at h
    split at h <;> (try contradiction)
    rename_i heq1 heq
    cases heq1
    cases heq
    simp only [Bool.and_eq_true, decide_eq_true_eq] at h
    obtain ⟨⟨⟨⟨⟨rfl, h1⟩, h2⟩, h4⟩, h5⟩, h6⟩ := h
    simp only [evC] at ev
    split at ev
    · rename_i va ρ1 e1
      split at ev
      · rename_i i ρ2 e2
        split at ev
        · rename_i st
          simp only [Bool.and_eq_true] at st
          obtain ⟨p1, hp1⟩ := Option.isSome_iff_exists.mp st.2
          obtain ⟨x1, r1, f1⟩ := Option.bind_eq_some_iff.mp hp1
          split at ev
          · rename_i ns q
            cases ev
            obtain ⟨ds2, q1, q2⟩ := Option.bind_eq_some_iff.mp q
            obtain ⟨x2, r2, f2⟩ := Option.bind_eq_some_iff.mp q1
            rw [intsOf_eq q2] at f2
            exact s_cnt (base_ok h1 _ _ _) h2 h4 (sndC co ok h5 e1) (sndC ck ok h6 e2) st.1 r1 f1 r2 f2
          · cases ev
        · cases ev
      · cases ev
    · cases ev
  | .idx co ck, sc, cf, X, ok, e, h, ρ, a, ρ', ev => by
    unfold chkC at h
    split at h <;> (try contradiction)
    rename_i heq1 heq
    cases heq1
    cases heq
    simp only [Bool.and_eq_true, decide_eq_true_eq] at h
    obtain ⟨⟨⟨⟨⟨rfl, h1⟩, h2⟩, h4⟩, h5⟩, h6⟩ := h
    simp only [evC] at ev
    split at ev
    · rename_i va ρ1 e1
      split at ev
      · rename_i d ρ2 e2
        split at ev
        · rename_i st
          simp only [Bool.and_eq_true] at st
          obtain ⟨p1, hp1⟩ := Option.isSome_iff_exists.mp st.1.2
          obtain ⟨x1, r1, f1⟩ := Option.bind_eq_some_iff.mp hp1
          split at ev
          · rename_i ds q
            split at ev
            · rename_i fl
              obtain ⟨j, hj, e4⟩ := Option.map_eq_some_iff.mp ev
              cases e4
              obtain ⟨x2, r2, f2⟩ := Option.bind_eq_some_iff.mp q
              exact s_idx (base_ok h1 _ _ _) h2 h4 (sndC co ok h5 e1) (sndC ck ok h6 e2) st.1.1 r1 f1 r2 f2 st.2 fl hj
            · cases ev
          · cases ev
        · cases ev
      · cases ev
    · cases ev
  | .lc own tg it tests elt, sc, cf, X, ok, e, h, ρ, a, ρ', ev => by
    cases e with
    | ListComp el gens scope p =>
      match gens, h with
      | [], h => simp [chkC] at h
      | _ :: _ :: _, h => simp [chkC] at h
      | [⟨t, iter, ifs, n⟩], h =>
          simp only [chkC, Bool.and_eq_true, decide_eq_true_eq] at h
          obtain ⟨⟨⟨⟨⟨⟨⟨⟨rfl, h0⟩, h1⟩, h2⟩, h3⟩, h4⟩, h5⟩, h6⟩, h7⟩ := h
          simp only [evC] at ev
          split at ev
          · rename_i ds ρ1 e1
            split at ev
            · rename_i hown
              split at ev
              · rename_i ts ρ5 e2
                split at ev
                · rename_i hz
                  cases ev
                  refine s_lc (evt := evTo G tests) (eve := evC G elt) (wt := tests.wr) (we := elt.wr) (wb := !it.isBrw) ok.calm ok.nd (brw_t h0) (brw_e h0) (sndI it ok h5 e1) (by rw [ok.N, ok.sc]; exact blkOk_by h1) (fun i hi => by simpa using List.all_eq_true.mp h3 i hi)
                    (fun s H C cl fp ρ d ρ2 hb => tg_ok (ok.blk s H scope C cl fp) h4 hb) (fun s H C cl fp ρ b ρ2 hb => sndTo tests (ok.blk s H scope C cl fp) h6 hb)
                    (fun s H C cl fp ρ v ρ2 hb => sndC elt (ok.blk s H scope C cl fp) h7 hb) (notSet_ok h2 X.env) e2 (of_decide_eq_true hz) hown
                · cases ev
              · cases ev
            · cases ev
          · cases ev
    | _ => simp [chkC] at h
  | .lci own i tg tests elt, sc, cf, X, ok, e, h, ρ, a, ρ', ev => by
    cases e with
    | ListComp el gens scope p =>
      match gens, h with
      | [], h => simp [chkC] at h
      | _ :: _ :: _, h => simp [chkC] at h
      | [⟨t, iter, ifs, n⟩], h =>
        cases t with
        | Tuple elts kk tp =>
          cases iter with
          | Call f as kws cp =>
            cases f with
            | Attribute o m ap =>
              cases o with
              | Name nm np =>
                match as, kws, h with
                | _ :: _, _, h => simp [chkC] at h
                | [], _ :: _, h => simp [chkC] at h
                | [], [], h =>
                  simp only [chkC, Bool.and_eq_true, decide_eq_true_eq, Bool.not_eq_true'] at h
                  obtain ⟨⟨⟨⟨⟨⟨⟨⟨⟨⟨⟨rfl, rfl⟩, g1⟩, g2⟩, g3⟩, g4⟩, ⟨g5, g6⟩⟩, g7⟩, g8⟩, g9⟩, g10⟩, g11⟩ := h
                  simp only [evC] at ev
                  split at ev
                  · rename_i ks ts0 e1
                    split at ev
                    · rename_i ds e2
                      split at ev
                      · rename_i hq
                        rw [Bool.and_eq_true] at hq
                        split at ev
                        · rename_i ts ρ5 e3
                          split at ev
                          · rename_i hz
                            cases ev
                            exact s_lci (evt := evTo G tests) (eve := evC G elt) (wt := tests.wr) (we := elt.wr) ok.calm ok.nd (ok.ix g1) (ok.vis g2) (nmOk_1 g3).1 (nmOk_1 g3).2 g4 e1 e2 hq.1 g5 g6 (by rw [ok.N, ok.sc]; exact blkOk_by g7) (fun i hi => by simpa using List.all_eq_true.mp g8 i hi)
                              (fun s H C cl fp ρ d ρ2 hb => tg_ok (ok.blk s H scope C cl fp) g9 hb) (fun s H C cl fp ρ b ρ2 hb => sndTo tests (ok.blk s H scope C cl fp) g10 hb)
                              (fun s H C cl fp ρ v ρ2 hb => sndC elt (ok.blk s H scope C cl fp) g11 hb) e3 (of_decide_eq_true hz) hq.2
                          · cases ev
                        · cases ev
                      · cases ev
                    · cases ev
                  · cases ev
              | _ => simp [chkC] at h
            | _ => simp [chkC] at h
          | _ => simp [chkC] at h
        | _ => simp [chkC] at h
    | _ => simp [chkC] at h
theorem sndT : ∀ (c : Tc) {sc : Scope} {cf : Cf} {X : Cx} (ok : CtxOk sx G sc cf X) {e : Expr}, chkT sx sc c e = true → ∀ {ρ b ρ'}, evT G c ρ = some (b, ρ') → PT X e (tT X.K iov ρ b ρ' c.wr)
  | .val c, sc, cf, X, ok, e, h, ρ, b, ρ', ev => by
    have h : (valB e && chkC sx sc c e) = true := by simpa only [chkT] using h
    simp only [Bool.and_eq_true] at h
    simp only [evT] at ev
    split at ev
    · rename_i v ρ1 e1
      split at ev
      · rename_i t e2
        obtain ⟨q, e3, e4⟩ := Option.map_eq_some_iff.mp ev
        cases e4
        exact t_val (sndC c ok h.2 e1) e2 e3 (val_ok h.1 X.env)
      · cases ev
    · cases ev
  | .not c, sc, cf, X, ok, e, h, ρ, b, ρ', ev => by
    cases e with
    | UnaryOp op x p =>
      cases op with
      | Not =>
        simp only [chkT] at h
        simp only [evT] at ev
        obtain ⟨q, e3, e4⟩ := Option.map_eq_some_iff.mp ev
        cases e4
        exact t_not (sndT c ok h e3)
      | _ => simp [chkT] at h
    | _ => simp [chkT] at h
  | .bool op ts, sc, cf, X, ok, e, h, ρ, b, ρ', ev => by
    cases e with
    | BoolOp op' xs p =>
      simp only [chkT, Bool.and_eq_true, decide_eq_true_eq] at h
      obtain ⟨rfl, h⟩ := h
      simp only [evT] at ev
      exact (sndTs ts ok h ev).pt
    | _ => simp [chkT] at h
  | .cmp op ca cb, sc, cf, X, ok, e, h, ρ, b, ρ', ev => by
    cases e with
    | Compare x ops cs p =>
      match ops, cs, h with
      | [], _, h => simp [chkT] at h
      | [_], [], h => simp [chkT] at h
      | [_], _ :: _ :: _, h => simp [chkT] at h
      | _ :: _ :: _, _, h => simp [chkT] at h
      | [op'], [y], h =>
        simp only [chkT, Bool.and_eq_true, decide_eq_true_eq, Bool.not_eq_true'] at h
        obtain ⟨⟨⟨rfl, hm⟩, h2⟩, h3⟩ := h
        simp only [evT] at ev
        split at ev
        · rename_i va ρ1 e1
          split at ev
          · rename_i vb ρ2 e2
            split at ev
            · rename_i st
              split at ev
              · rename_i tx ty rx ry
                obtain ⟨t, e3, e4⟩ := Option.map_eq_some_iff.mp ev
                cases e4
                exact s_cmpT ok.units (sndC ca ok h2 e1) (sndC cb ok h3 e2) st rx ry e3 hm
              · cases ev
            · cases ev
          · cases ev
        · cases ev
    | _ => simp [chkT] at h
  | .chain o1 o2 ca cb cc, sc, cf, X, ok, e, h, ρ, b, ρ', ev => by
    cases e with
    | Compare x ops cs p =>
      match ops, cs, h with
      | [], _, h => simp [chkT] at h
      | [_], _, h => simp [chkT] at h
      | _ :: _ :: _ :: _, _, h => simp [chkT] at h
      | [_, _], [], h => simp [chkT] at h
      | [_, _], [_], h => simp [chkT] at h
      | [_, _], _ :: _ :: _ :: _, h => simp [chkT] at h
      | [p1, p2], [y, z], h =>
        simp only [chkT, Bool.and_eq_true, decide_eq_true_eq, Bool.not_eq_true'] at h
        obtain ⟨⟨⟨⟨⟨rfl, rfl⟩, hm⟩, h2⟩, h3⟩, h4⟩ := h
        simp only [evT] at ev
        split at ev
        · rename_i tx ρ1 e1
          split at ev
          · rename_i ty ρ2 e2
            split at ev
            · rename_i e3
              cases ev
              exact t_chainF ok.units (sndC ca ok h2 e1) (sndC cb ok h3 e2) e3 hm
            · rename_i e3
              split at ev
              · rename_i tz ρ3 e4
                obtain ⟨t, e5, e6⟩ := Option.map_eq_some_iff.mp ev
                cases e6
                exact t_chainT ok.units (sndC ca ok h2 e1) (sndC cb ok h3 e2) e3 (sndC cc ok h4 e4) e5 hm
              · cases ev
            · cases ev
          · cases ev
        · cases ev
    | _ => simp [chkT] at h
theorem sndTs : ∀ (c : Tcs) {sc : Scope} {cf : Cf} {X : Cx} (ok : CtxOk sx G sc cf X) {es : List Expr} {op : BoolOp} {pos : Pos}, chkTs sx sc c es = true → ∀ {ρ b ρ'}, evB G op c ρ = some (b, ρ') → PW X (.BoolOp op es pos) (tT X.K iov ρ b ρ' c.wr)
  | .one t, sc, cf, X, ok, es, op, pos, h, ρ, b, ρ', ev => by
    match es, h with
    | [], h => simp [chkTs] at h
    | _ :: _ :: _, h => simp [chkTs] at h
    | [e], h =>
      simp only [chkTs] at h
      simp only [evB] at ev
      exact t_bool1 (sndT t ok h ev)
  | .cons t ts, sc, cf, X, ok, es, op, pos, h, ρ, b, ρ', ev => by
    match es, h with
    | [], h => simp [chkTs] at h
    | [e], h => simp only [chkTs, Bool.and_eq_true] at h; exact absurd h.2 (by cases ts <;> simp [chkTs])
    | e :: e2 :: es, h =>
      simp only [chkTs, Bool.and_eq_true] at h
      simp only [evB] at ev
      split at ev
      · rename_i k ρ1 e1
        by_cases hk : (decide (op = .And)) = k
        · rw [if_pos hk] at ev
          exact t_bool (sndT t ok h.1 e1) (fun _ => sndTs ts ok h.2 ev) (fun z => absurd hk z)
        · rw [if_neg hk] at ev
          cases ev
          exact t_bool (sndT t ok h.1 e1) (fun z => absurd z hk) (fun _ => ⟨rfl, rfl⟩)
      · cases ev
theorem sndTo : ∀ (c : Tco) {sc : Scope} {cf : Cf} {X : Cx} (ok : CtxOk sx G sc cf X) {es : List Expr}, chkTo sx sc c es = true → ∀ {ρ b ρ'}, evTo G c ρ = some (b, ρ') → PTs X es (tT X.K iov ρ b ρ' c.wr)
  | .none, sc, cf, X, ok, es, h, ρ, b, ρ', ev => by
    match es, h with
    | _ :: _, h => simp [chkTo] at h
    | [], h =>
      simp only [evTo, Option.some.injEq, Prod.mk.injEq] at ev
      obtain ⟨rfl, rfl⟩ := ev
      exact PTs.imp' pts_nil fun σ H Q ⟨F, fp, S, k⟩ => k H F fp S (.refl S)
  | .some t, sc, cf, X, ok, es, h, ρ, b, ρ', ev => by
    match es, h with
    | [], h => simp [chkTo] at h
    | _ :: _ :: _, h => simp [chkTo] at h
    | [e], h =>
      simp only [chkTo] at h
      simp only [evTo] at ev
      exact pts_one (sndT t ok h ev)
theorem sndCs : ∀ (c : Cs) {sc : Scope} {cf : Cf} {X : Cx} (ok : CtxOk sx G sc cf X) {es : List Expr}, chkCs sx sc c es = true → ∀ {ρ as ρ'}, evs G c ρ = some (as, ρ') → as.length = es.length ∧ es.all plainE = true ∧ PA X es (tA X.K iov ρ as ρ' c.wr)
  | .nil, sc, cf, X, ok, es, h, ρ, as, ρ', ev => by
    match es, h with
    | _ :: _, h => simp [chkCs] at h
    | [], h =>
      simp only [evs, Option.some.injEq, Prod.mk.injEq] at ev
      obtain ⟨rfl, rfl⟩ := ev
      exact ⟨rfl, rfl, a_nil⟩
  | .cons c cs, sc, cf, X, ok, es, h, ρ, as, ρ', ev => by
    match es, h with
    | [], h => simp [chkCs] at h
    | e :: es, h =>
      simp only [chkCs, Bool.and_eq_true] at h
      simp only [evs] at ev
      split at ev
      · rename_i v ρ1 e1
        split at ev
        · rename_i vs ρ2 e2
          split at ev
          · rename_i st
            cases ev
            obtain ⟨a1, a2, a3⟩ := sndCs cs ok h.2 e2
            exact ⟨by simp [a1], by simp [h.1.1, a2], a_cons h.1.1 (sndC c ok h.1.2 e1) a3 st⟩
          · cases ev
        · cases ev
      · cases ev
theorem sndK : ∀ (c : Cs) {sc : Scope} {cf : Cf} {X : Cx} (ok : CtxOk sx G sc cf X) {es : List Keyword}, chkK sx sc c es = true → ∀ {ρ as ρ'}, evs G c ρ = some (as, ρ') → as.length = es.length ∧ PK X es (tA X.K iov ρ as ρ' c.wr)
  | .nil, sc, cf, X, ok, es, h, ρ, as, ρ', ev => by
    match es, h with
    | _ :: _, h => simp [chkK] at h
    | [], h =>
      simp only [evs, Option.some.injEq, Prod.mk.injEq] at ev
      obtain ⟨rfl, rfl⟩ := ev
      exact ⟨rfl, k_nil⟩
  | .cons c cs, sc, cf, X, ok, es, h, ρ, as, ρ', ev => by
    match es, h with
    | [], h => simp [chkK] at h
    | ⟨nm, e, kp⟩ :: es, h =>
      simp only [chkK, Bool.and_eq_true] at h
      simp only [evs] at ev
      split at ev
      · rename_i v ρ1 e1
        split at ev
        · rename_i vs ρ2 e2
          split at ev
          · rename_i st
            cases ev
            obtain ⟨a1, a3⟩ := sndK cs ok h.2 e2
            exact ⟨by simp [a1], k_cons (sndC c ok h.1 e1) a3 st⟩
          · cases ev
        · cases ev
      · cases ev
theorem sndO : ∀ (c : Co) {sc : Scope} {cf : Cf} {X : Cx} (ok : CtxOk sx G sc cf X) {e : Option Expr}, chkO sx sc c e = true → ∀ {ρ l ρ'}, evO G c ρ = some (l, ρ') → PO X e (tO X.K iov ρ l ρ' c.wr)
  | .none, sc, cf, X, ok, e, h, ρ, l, ρ', ev => by
    cases e with
    | some _ => simp [chkO] at h
    | none =>
      simp only [evO, Option.some.injEq, Prod.mk.injEq] at ev
      obtain ⟨rfl, rfl⟩ := ev
      exact o_none
  | .some c, sc, cf, X, ok, e, h, ρ, l, ρ', ev => by
    cases e with
    | none => simp [chkO] at h
    | some e =>
      simp only [chkO] at h
      simp only [evO] at ev
      split at ev
      · rename_i i ρ1 e1
        cases ev
        exact o_some (sndC c ok h e1)
      · cases ev
theorem sndI : ∀ (c : I) {sc : Scope} {cf : Cf} {X : Cx} (ok : CtxOk sx G sc cf X) {tg e : Expr}, chkI sx sc tg c e = true → ∀ {ρ ds ρ'}, evI G c ρ = some (ds, ρ') → PI X tg e (tIW (!c.isBrw) X.K iov ρ ds ρ' true)
  | .seq c, sc, cf, X, ok, tg, e, h, ρ, ds, ρ', ev => by
    have h : chkC sx sc c e = true := by simpa only [chkI] using h
    simp only [evI] at ev
    split at ev
    · rename_i v ρ1 e1
      split at ev
      · rename_i t ρ2 e2
        split at ev
        · rename_i ds' e3
          cases ev
          exact tIW.of <| tI.more (i_list (sndC c ok h e1) e2 e3) fun _ => rfl
        · rename_i ds' e3
          cases ev
          exact tIW.of <| tI.more (i_tup (sndC c ok h e1) e2 e3) fun _ => rfl
        · cases ev
      · cases ev
    · cases ev
  | .brw c, sc, cf, X, ok, tg, e, h, ρ, ds, ρ', ev => by
    have h : chkC sx sc c e = true := by simpa only [chkI] using h
    simp only [evI] at ev
    split at ev
    · rename_i v ρ1 e1
      split at ev
      · rename_i t e2
        obtain ⟨ds', e3, e4⟩ := Option.map_eq_some_iff.mp ev
        cases e4
        exact tIW.more (i_brw (sndC c ok h e1) e2 e3) fun _ => rfl
      · cases ev
    · cases ev
  | .rng1 c, sc, cf, X, ok, tg, e, h, ρ, ds, ρ', ev => by
    cases e with
    | Call g args kws p =>
      cases g with
      | Name nm p2 =>
        match args, kws, h with
        | [], _, h => simp [chkI] at h
        | _ :: _ :: _, _, h => simp [chkI] at h
        | [_], _ :: _, h => simp [chkI] at h
        | [x], [], h =>
          simp only [chkI, Bool.and_eq_true, decide_eq_true_eq] at h
          obtain ⟨⟨⟨⟨rfl, h2⟩, h3⟩, h4⟩, h5⟩ := h
          simp only [evI] at ev
          split at ev
          · rename_i i ρ1 e1
            split at ev
            · rename_i hi
              cases ev
              exact tIW.of <| tI.more (i_rng1 (ok.glob h2) (ok.bltn h3) h4 (sndC c ok h5 e1) hi) fun _ => rfl
            · cases ev
          · cases ev
      | _ => simp [chkI] at h
    | _ => simp [chkI] at h
  | .rng2 ca cb, sc, cf, X, ok, tg, e, h, ρ, ds, ρ', ev => by
    cases e with
    | Call g args kws p =>
      cases g with
      | Name nm p2 =>
        match args, kws, h with
        | [], _, h => simp [chkI] at h
        | [_], _, h => simp [chkI] at h
        | _ :: _ :: _ :: _, _, h => simp [chkI] at h
        | [_, _], _ :: _, h => simp [chkI] at h
        | [x, y], [], h =>
          simp only [chkI, Bool.and_eq_true, decide_eq_true_eq] at h
          obtain ⟨⟨⟨⟨⟨⟨rfl, h2⟩, h3⟩, h4⟩, h5⟩, h6⟩, h7⟩ := h
          simp only [evI] at ev
          split at ev
          · rename_i i ρ1 e1
            split at ev
            · rename_i j ρ2 e2
              split at ev
              · rename_i hi
                simp only [Bool.and_eq_true] at hi
                cases ev
                exact tIW.of <| tI.more (i_rng2 (ok.glob h2) (ok.bltn h3) h4 h5 (sndC ca ok h6 e1) (sndC cb ok h7 e2) hi.1 hi.2) fun _ => rfl
              · cases ev
            · cases ev
          · cases ev
      | _ => simp [chkI] at h
    | _ => simp [chkI] at h
  | .enum c, sc, cf, X, ok, tg, e, h, ρ, ds, ρ', ev => by
    cases e with
    | Call g args kws p =>
      cases g with
      | Name nm p2 =>
        match args, kws, h with
        | [], _, h => simp [chkI] at h
        | _ :: _ :: _, _, h => simp [chkI] at h
        | [_], _ :: _, h => simp [chkI] at h
        | [x], [], h =>
          simp only [chkI, Bool.and_eq_true, decide_eq_true_eq] at h
          obtain ⟨⟨⟨⟨⟨rfl, h2⟩, h3⟩, h4⟩, h6⟩, h5⟩ := h
          cases tg with
          | Tuple es kk tp =>
            simp only [evI] at ev
            split at ev
            · rename_i v ρ1 e1
              split at ev
              · rename_i t ρ2 e2
                split at ev
                · rename_i ds' e3
                  cases ev
                  exact tIW.of <| tI.more (i_enum (ok.glob h2) (ok.bltn h3) h4 (sndC c ok h5 e1) e2 e3) fun _ => rfl
                · cases ev
              · cases ev
            · cases ev
          | _ => simp at h6
      | _ => simp [chkI] at h
    | _ => simp [chkI] at h
end
end
end Mv

end
section
/-! The checker and its soundness: statements. -/
namespace Mv
open PySem PySem.Spec PyProof.Rows L2
def dEnv (sc : Scope) : PySem.Env := { scope := sc, locals := 0, globals := 0, cells := [], qual := "", func := none, code := .none, frame := none, builtins := 0 }
def pureOf {α : Type} : Sem α → Option α
  | .pure a => some a
  | _ => none
theorem pureOf_ok {α : Type} {m : Sem α} {a : α} (h : pureOf m = some a) : m = pure a := by
  cases m <;> first | (cases h; rfl) | cases h
theorem stores_env {env : PySem.Env} {sc : Scope} (hs : env.scope = sc) (ts : List Expr) (v : Expr) : swappedStores ts v env = swappedStores ts v (dEnv sc) := by
  subst hs; rfl
theorem swaps_env {env : PySem.Env} {sc : Scope} (hs : env.scope = sc) (e : Expr) (t : Option Expr) (l : Nat) : swapsWith e t l env = swapsWith e t l (dEnv sc) := by
  subst hs; rfl
theorem swapsSole_env {env : PySem.Env} {sc : Scope} (hs : env.scope = sc) (e : Expr) (t : List Expr) (l : Nat) : swapsWithSole t e l env = swapsWithSole t e l (dEnv sc) := by
  subst hs
  match t with
  | [] => rfl
  | [_] => rfl
  | _ :: _ :: _ => rfl
def swB (sc : Scope) (e : Expr) (t : Option Expr) (l : Nat) : Option Bool := pureOf (swapsWith e t l (dEnv sc))
def swS (sc : Scope) (t : List Expr) (e : Expr) (l : Nat) : Option Bool := pureOf (swapsWithSole t e l (dEnv sc))
def swN (sc : Scope) (t : List Expr) (e : Expr) : Option (Option (List Str)) := pureOf (swappedStores t e (dEnv sc))
def isLc : C → Bool
  | .lc _ _ _ _ _ => true
  | _ => false
mutual
def chkS (sx : Sx) (sc : Scope) (cf : Cf) : S → Stmt → Bool
  | .set i c, st => (match st with
    | .Assign [.Name nm p] e pos => decide (sx.N[i]? = some nm) && locB sc cf nm && chkC sx sc c e && (match swB sc e (some (.Name nm p)) pos.line with
      | some false => true
      | some true => isLc c && decide (sc.names.lookup nm = some .local)
      | none => false)
    | _ => false)
  | .setT is c, st => (match st with
    | .Assign [.Tuple ts kk p] e pos => chkTgN sx sc cf is ts && chkC sx sc c e && decide (swS sc [.Tuple ts kk p] e pos.line = some false) && decide (swN sc [.Tuple ts kk p] e = some none)
    | _ => false)
  | .setL is c, st => (match st with
    | .Assign [.Tuple ts kk p] e pos => chkTgN sx sc cf is ts && chkC sx sc c e && decide (swS sc [.Tuple ts kk p] e pos.line = some false) && decide (swN sc [.Tuple ts kk p] e = some none)
    | _ => false)
  | .par is es, st => (match st with
    | .Assign [.Tuple ts kk p] (.Tuple vs k2 p2) _ => chkTgN sx sc cf is ts && chkCs sx sc es vs && (match is, ts, vs with
      | [_, _], [.Name x px, .Name y py], [a, b] => decide (sc.names.lookup x = some .local) && decide (sc.names.lookup y = some .local) && decide (swN sc [.Tuple ts kk p] (.Tuple vs k2 p2) = some (some [x, y]))
      | [_, _, _], [.Name x px, .Name y py, .Name z pz], [a, b, c] => decide (sc.names.lookup x = some .local) && decide (sc.names.lookup y = some .local) && decide (sc.names.lookup z = some .local) && decide (swN sc [.Tuple ts kk p] (.Tuple vs k2 p2) = some (some [x, y, z]))
      | _, _, _ => false)
    | _ => false)
  | .sto b i c, st => (match st with
    | .Assign [.Subscript x y p] e pos => noSl y && decide (swB sc e (some (.Subscript x y p)) pos.line = some false) && chkC sx sc c e && chkC sx sc b x && chkC sx sc i y
    | _ => false)
  | .aug i op c, st => (match st with
    | .AugAssign (.Name nm _) op' e _ => decide (sx.N[i]? = some nm) && locB sc cf nm && decide (op = op') && (decide (op = .Add) || decide (op = .Sub) || decide (op = .Mult)) && chkC sx sc c e
    | _ => false)
  | .app b c, st => (match st with
    | .Expr (.Call (.Attribute x m p1) [y] [] p2) _ => decide (m = "append") && plainE y && baseB x && (p1.endLine == p2.line) && chkC sx sc b x && chkC sx sc c y
    | _ => false)
  | .exp c, st => (match st with
    | .Expr e pos => chkC sx sc c e && decide (swB sc e none pos.line = some false)
    | _ => false)
  | .ret c, st => (match st with
    | .Return (some e) _ => chkC sx sc c e
    | _ => false)
  | .retN, st => (match st with
    | .Return none _ => true
    | _ => false)
  | .ite c a b, st => (match st with
    | .If t x y _ => chkT sx sc c t && chkSs sx sc cf a x && chkSs sx sc cf b y
    | _ => false)
  | .for tg it b, st => (match st with
    | .For t iter body [] _ => chkTg sx sc cf tg t && notSet iter && (!it.isBrw && chkI sx sc t it iter) && chkSs sx sc cf b body
    | _ => false)
  | .while _ c b, st => (match st with
    | .While t body [] _ => chkT sx sc c t && chkSs sx sc cf b body
    | _ => false)
  | .pass, st => (match st with | .Pass _ => true | _ => false)
  | .cont, st => (match st with | .Continue _ => true | _ => false)
  | .brk, st => (match st with | .Break _ => true | _ => false)
  | .stuck, _ => true
def chkSs (sx : Sx) (sc : Scope) (cf : Cf) : Ss → List Stmt → Bool
  | .nil, [] => true
  | .cons s ss, st :: sts => chkS sx sc cf s st && chkSs sx sc cf ss sts
  | _, _ => false
end
section
variable {sx : Sx} {G : Gam} {iov : Nat → Option V} {sc : Scope} {cf : Cf} {X : Cx} {ρ ρ' : Env} {e : Expr} {pos : Pos}
theorem snd_set (ok : CtxOk sx G sc cf X) {i : Nat} {c : C} {nm : Str} {p : Pos} (h1 : sx.N[i]? = some nm) (h2 : locB sc cf nm = true) (h3 : chkC sx sc c e = true) (h4 : (match swB sc e (some (.Name nm p)) pos.line with
    | some false => true
    | some true => isLc c && decide (sc.names.lookup nm = some .local)
    | none => false) = true) {a : Val} {ρ1 : Env} (e1 : evC G c ρ = some (a, ρ1)) (e2 : bindS ρ1 i a = some ρ') : PS X (.Assign [.Name nm p] e pos) (tS X.K iov ρ (.nx ρ')) := by
  split at h4
  · rename_i hs
    exact st_set ok.nd (ok.ix h1) (ok.loc h2).1 (ok.loc h2).2 (sndC c ok h3 e1) e2 (by rw [swaps_env ok.sc]; exact pureOf_ok hs)
  · rename_i hs
    simp only [Bool.and_eq_true, decide_eq_true_eq] at h4
    cases c with
    | lc own tg it tests elt =>
      cases e with
      | ListComp el gens scope p' =>
        match gens, h3, hs with
        | [], h, _ => simp [chkC] at h
        | _ :: _ :: _, h, _ => simp [chkC] at h
        | [⟨t, iter, ifs, n⟩], h, hs =>
          simp only [chkC, Bool.and_eq_true, decide_eq_true_eq] at h
          obtain ⟨⟨⟨⟨⟨⟨⟨⟨rfl, g0⟩, g1⟩, g2⟩, g3⟩, g4⟩, g5⟩, g6⟩, g7⟩ := h
          simp only [evC] at e1
          split at e1
          · rename_i ds ρ2 i1
            split at e1
            · rename_i hown
              split at e1
              · rename_i ts ρ5 i2
                split at e1
                · rename_i hz
                  cases e1
                  exact st_setLc (evt := evTo G tests) (eve := evC G elt) (wt := tests.wr) (we := elt.wr) (wb := !it.isBrw) ok.calm ok.nd (ok.ix h1) (by rw [ok.sc]; exact h4.2) (by rw [swaps_env ok.sc]; exact pureOf_ok hs) (brw_t g0) (brw_e g0) (sndI it ok g5 i1) (by rw [ok.N, ok.sc]; exact blkOk_by g1) (fun i hi => by simpa using List.all_eq_true.mp g3 i hi)
                    (fun s H C cl fp ρ d ρ2 hb => tg_ok (ok.blk s H scope C cl fp) g4 hb) (fun s H C cl fp ρ b ρ2 hb => sndTo tests (ok.blk s H scope C cl fp) g6 hb)
                    (fun s H C cl fp ρ v ρ2 hb => sndC elt (ok.blk s H scope C cl fp) g7 hb) (notSet_ok g2 X.env) i2 (of_decide_eq_true hz) hown e2
                · cases e1
              · cases e1
            · cases e1
          · cases e1
      | _ => simp [chkC] at h3
    | _ => simp [isLc] at h4
  · cases h4
theorem evs_len : ∀ {es : Cs} {vs : List Val} {ρ ρ' : Env}, evs G es ρ = some (vs, ρ') → True := fun _ => trivial
structure StOk (sx : Sx) (G : Gam) (sc : Scope) (cf : Cf) (X : Cx) : Prop extends CtxOk sx G sc cf X where
  own : PassesOwn (model X.prog X.w) X.A X.env X.xe
set_option maxHeartbeats 20000000
mutual
theorem sndS (ok : StOk sx G sc cf X) : ∀ (s : S) {st : Stmt}, chkS sx sc cf s st = true → ∀ {ρ o}, evS G s ρ = some o → PS X st (tS X.K iov ρ o)
  | .set i c, st, h, ρ, o, ev => by
    simp only [chkS] at h
    split at h
    · rename_i nm p e pos
      simp only [Bool.and_eq_true, decide_eq_true_eq] at h
      obtain ⟨⟨⟨h1, h2⟩, h3⟩, h4⟩ := h
      simp only [evS] at ev
      split at ev
      · rename_i v ρ1 e1
        obtain ⟨ρ2, e2, rfl⟩ := Option.map_eq_some_iff.mp ev
        exact snd_set ok.toCtxOk h1 h2 h3 h4 e1 e2
      · cases ev
    · cases h
  | .setT is c, st, h, ρ, o, ev => by
    simp only [chkS] at h
    split at h
    · rename_i es kk p e pos
      simp only [Bool.and_eq_true, decide_eq_true_eq] at h
      obtain ⟨⟨⟨h1, h2⟩, h3⟩, h4⟩ := h
      obtain ⟨g1, g2, g3⟩ := tgN_ok ok.toCtxOk h1
      obtain ⟨a1, a2⟩ := assignEach_plain X.env g2
      have q1 := pureOf_ok h3
      have q2 := pureOf_ok h4
      rw [← swapsSole_env ok.sc] at q1
      rw [← stores_env ok.sc] at q2
      simp only [evS] at ev
      split at ev
      · rename_i ds ρ1 e1
        obtain ⟨ρ2, e2, rfl⟩ := Option.map_eq_some_iff.mp ev
        exact st_setT ok.calm ok.nd g1 a1 a2 g3 q1 q2 (sndC c ok.toCtxOk h2 e1) rfl e2
      · rename_i ts' ρ1 e1
        obtain ⟨ρ2, e2, rfl⟩ := Option.map_eq_some_iff.mp ev
        exact st_setT ok.calm ok.nd g1 a1 a2 g3 q1 q2 (sndC c ok.toCtxOk h2 e1) rfl e2
      · cases ev
    · cases h
  | .setL is c, st, h, ρ, o, ev => by
    simp only [chkS] at h
    split at h
    · rename_i es kk p e pos
      simp only [Bool.and_eq_true, decide_eq_true_eq] at h
      obtain ⟨⟨⟨h1, h2⟩, h3⟩, h4⟩ := h
      obtain ⟨g1, g2, g3⟩ := tgN_ok ok.toCtxOk h1
      obtain ⟨a1, a2⟩ := assignEach_plain X.env g2
      have q1 := pureOf_ok h3
      have q2 := pureOf_ok h4
      rw [← swapsSole_env ok.sc] at q1
      rw [← stores_env ok.sc] at q2
      simp only [evS] at ev
      split at ev
      · rename_i t ρ1 e1
        split at ev
        · rename_i ds hf
          obtain ⟨ρ2, e2, rfl⟩ := Option.map_eq_some_iff.mp ev
          exact st_setL ok.calm ok.nd g1 a1 a2 g3 q1 q2 (sndC c ok.toCtxOk h2 e1) hf e2
        · cases ev
      · cases ev
    · cases h
  | .par is cs, st, h, ρ, o, ev => by
    simp only [chkS] at h
    split at h
    · rename_i ts kk p vs k2 p2 pos
      simp only [Bool.and_eq_true] at h
      obtain ⟨⟨h1, h2⟩, h3⟩ := h
      obtain ⟨g1, g2, g3⟩ := tgN_ok ok.toCtxOk h1
      simp only [evS] at ev
      split at ev
      · rename_i us ρ1 e1
        split at ev
        · rename_i hp
          obtain ⟨ρ2, e2, rfl⟩ := Option.map_eq_some_iff.mp ev
          obtain ⟨pl1, pl2, pa⟩ := sndCs (iov := iov) cs ok.toCtxOk h2 e1
          split at h3
          · rename_i i j x px y py a b
            simp only [Bool.and_eq_true, decide_eq_true_eq] at h3
            obtain ⟨⟨k1, k2'⟩, k3⟩ := h3
            have q2 := pureOf_ok k3
            rw [← stores_env ok.sc] at q2
            obtain ⟨n1, _, z1, z2, _⟩ := g3 0 i _ rfl rfl
            obtain ⟨n2, _, z3, z4, _⟩ := g3 1 j _ rfl rfl
            cases z1; cases z3
            exact st_par2 ok.calm ok.nd z2 z4 (by rw [ok.sc]; exact k1) (by rw [ok.sc]; exact k2') pa hp e2 q2
          · rename_i i j l x px y py z pz a b c
            simp only [Bool.and_eq_true, decide_eq_true_eq] at h3
            obtain ⟨⟨⟨k1, k2'⟩, k4⟩, k3⟩ := h3
            have q2 := pureOf_ok k3
            rw [← stores_env ok.sc] at q2
            obtain ⟨n1, _, z1, z2, _⟩ := g3 0 i _ rfl rfl
            obtain ⟨n2, _, z3, z4, _⟩ := g3 1 j _ rfl rfl
            obtain ⟨n3, _, z5, z6, _⟩ := g3 2 l _ rfl rfl
            cases z1; cases z3; cases z5
            exact st_par3 ok.calm ok.nd z2 z4 z6 (by rw [ok.sc]; exact k1) (by rw [ok.sc]; exact k2') (by rw [ok.sc]; exact k4) pa hp e2 q2
          · cases h3
        · cases ev
      · cases ev
    · cases h
  | .sto b i c, st, h, ρ, o, ev => by
    simp only [chkS] at h
    split at h
    · rename_i x y p e pos
      simp only [Bool.and_eq_true, decide_eq_true_eq] at h
      obtain ⟨⟨⟨⟨h1, h2⟩, h3⟩, h4⟩, h5⟩ := h
      simp only [evS] at ev
      split at ev
      · rename_i vc ρ1 e1
        split at ev
        · rename_i t ρ2 e2
          split at ev
          · rename_i j k ρ3 e3
            split at ev
            · rename_i vi ρ4 e4
              split at ev
              · rename_i hst
                split at ev
                · rename_i tx e5
                  split at ev
                  · rename_i ty e6
                    obtain ⟨ρ5, e7, rfl⟩ := Option.map_eq_some_iff.mp ev
                    exact st_sto (by have := ok.units; omega) h1 (by rw [swaps_env ok.sc]; exact pureOf_ok h2) (sndC c ok.toCtxOk h3 e1) e2 (sndC b ok.toCtxOk h4 e3) (sndC i ok.toCtxOk h5 e4) hst e5 e6 e7
                  · cases ev
                · cases ev
              · cases ev
            · cases ev
          · cases ev
        · cases ev
      · cases ev
    · cases h
  | .aug i op c, st, h, ρ, o, ev => by
    simp only [chkS] at h
    split at h
    · rename_i nm p op' e pos
      simp only [Bool.and_eq_true, Bool.or_eq_true, decide_eq_true_eq] at h
      obtain ⟨⟨⟨⟨h1, h2⟩, rfl⟩, h4⟩, h5⟩ := h
      simp only [evS] at ev
      split at ev
      · rename_i tx e1
        split at ev
        · rename_i ty ρ1 e2
          split at ev
          · rename_i t e3
            obtain ⟨ρ2, e4, rfl⟩ := Option.map_eq_some_iff.mp ev
            unfold augT at e3
            split at e3
            · rename_i n m
              obtain ⟨r, e5, rfl⟩ := Option.map_eq_some_iff.mp e3
              rcases h4 with (rfl | rfl) | rfl
              · cases e5
                exact st_aug ok.nd (ok.ix h1) (ok.loc h2).1 (ok.loc h2).2 (ip_c ip_add n m) e1 (sndC c ok.toCtxOk h5 e2) e4
              · cases e5
                exact st_aug ok.nd (ok.ix h1) (ok.loc h2).1 (ok.loc h2).2 (ip_c ip_sub n m) e1 (sndC c ok.toCtxOk h5 e2) e4
              · simp only [Mv.intOp] at e5
                split at e5
                · rename_i hh
                  simp only [Bool.and_eq_true] at hh
                  cases e5
                  exact st_aug ok.nd (ok.ix h1) (ok.loc h2).1 (ok.loc h2).2 (ip_mulX hh.1 hh.2) e1 (sndC c ok.toCtxOk h5 e2) e4
                · cases e5
            · cases e3
          · cases ev
        · cases ev
      · cases ev
    · cases h
  | .app b c, st, h, ρ, o, ev => by
    simp only [chkS] at h
    split at h
    · rename_i x m p1 y p2 pos
      simp only [Bool.and_eq_true, decide_eq_true_eq] at h
      obtain ⟨⟨⟨⟨⟨rfl, h2⟩, h3⟩, h4⟩, h5⟩, h6⟩ := h
      simp only [evS] at ev
      split at ev
      · rename_i j k ρ1 e1
        split at ev
        · rename_i ts1 e2
          split at ev
          · rename_i v ρ2 e3
            split at ev
            · rename_i t ρ3 e4
              split at ev
              · rename_i hst
                split at ev
                · rename_i tx e5
                  split at ev
                  · rename_i ty e6
                    obtain ⟨ρ5, e7, rfl⟩ := Option.map_eq_some_iff.mp ev
                    exact st_app h2 (base_ok h3 _ _ _) h4 (sndC b ok.toCtxOk h5 e1) e2 (sndC c ok.toCtxOk h6 e3) e4 hst e5 e6 e7
                  · cases ev
                · cases ev
              · cases ev
            · cases ev
          · cases ev
        · cases ev
      · cases ev
    · cases h
  | .exp c, st, h, ρ, o, ev => by
    simp only [chkS] at h
    split at h
    · rename_i e pos
      simp only [Bool.and_eq_true, decide_eq_true_eq] at h
      simp only [evS] at ev
      obtain ⟨⟨v, ρ1⟩, e1, rfl⟩ := Option.map_eq_some_iff.mp ev
      exact st_exp (sndC c ok.toCtxOk h.1 e1) (by rw [swaps_env ok.sc]; exact pureOf_ok h.2)
    · cases h
  | .ret c, st, h, ρ, o, ev => by
    simp only [chkS] at h
    split at h
    · rename_i e pos
      simp only [evS] at ev
      split at ev
      · rename_i v ρ1 e1
        obtain ⟨⟨t, ρ2⟩, e2, rfl⟩ := Option.map_eq_some_iff.mp ev
        exact st_ret (sndC c ok.toCtxOk h e1) e2
      · cases ev
    · cases h
  | .retN, st, h, ρ, o, ev => by
    simp only [chkS] at h
    split at h
    · skip
      simp only [evS, Option.some.injEq] at ev; subst ev; exact st_retN
    · cases h
  | .ite c a b, st, h, ρ, o, ev => by
    simp only [chkS] at h
    split at h
    · rename_i t x y pos
      simp only [Bool.and_eq_true] at h
      obtain ⟨⟨h1, h2⟩, h3⟩ := h
      simp only [evS] at ev
      split at ev
      · rename_i ρ1 e1
        exact st_if (sndT c ok.toCtxOk h1 e1) (fun _ => sndSs ok a h2 ev) (fun z => nomatch z)
      · rename_i ρ1 e1
        exact st_if (sndT c ok.toCtxOk h1 e1) (fun z => nomatch z) (fun _ => sndSs ok b h3 ev)
      · cases ev
    · cases h
  | .for tg it b, st, h, ρ, o, ev => by
    simp only [chkS] at h
    split at h
    · rename_i t iter body pos
      simp only [Bool.and_eq_true] at h
      obtain ⟨⟨⟨h1, h2⟩, h0, h3⟩, h4⟩ := h
      simp only [evS] at ev
      split at ev
      · rename_i ds ρ1 e1
        have hI := sndI (iov := iov) it ok.toCtxOk h3 e1
        rw [h0] at hI
        exact st_for ok.own ok.calm (tIW.toI hI) (fun ρ d ρ2 hb => tg_ok ok.toCtxOk h1 hb) (fun ρ o hb => sndSs ok b h4 hb) (notSet_ok h2 X.env) ev
      · cases ev
    · cases h
  | .while n c b, st, h, ρ, o, ev => by
    simp only [chkS] at h
    split at h
    · rename_i t body pos
      simp only [Bool.and_eq_true] at h
      simp only [evS] at ev
      exact st_while ok.own (fun ρ d ρ2 hb => sndT c ok.toCtxOk h.1 hb) (fun ρ o hb => sndSs ok b h.2 hb) ev
    · cases h
  | .pass, st, h, ρ, o, ev => by
    simp only [chkS] at h
    split at h
    · skip
      simp only [evS, Option.some.injEq] at ev; subst ev; exact st_pass
    · cases h
  | .cont, st, h, ρ, o, ev => by
    simp only [chkS] at h
    split at h
    · skip
      simp only [evS, Option.some.injEq] at ev; subst ev; exact st_cont
    · cases h
  | .brk, st, h, ρ, o, ev => by
    simp only [chkS] at h
    split at h
    · skip
      simp only [evS, Option.some.injEq] at ev; subst ev; exact st_brk
    · cases h
  | .stuck, st, h, ρ, o, ev => by simp [evS] at ev
theorem sndSs (ok : StOk sx G sc cf X) : ∀ (s : Ss) {st : List Stmt}, chkSs sx sc cf s st = true → ∀ {ρ o}, evSs G s ρ = some o → PSs X st (tS X.K iov ρ o)
  | .nil, st, h, ρ, o, ev => by
    cases st with
    | cons _ _ => simp [chkSs] at h
    | nil => simp only [evSs, Option.some.injEq] at ev; subst ev; exact sts_nil
  | .cons s ss, st, h, ρ, o, ev => by
    cases st with
    | nil => simp [chkSs] at h
    | cons st sts =>
      simp only [chkSs, Bool.and_eq_true] at h
      simp only [evSs] at ev
      split at ev
      · rename_i ρ1 e1
        exact sts_cons (sndS ok s h.1 e1) (sndSs ok ss h.2 ev)
      · rename_i hn
        exact sts_end (sndS ok s h.1 ev) fun ρ' z => by subst z; exact hn _ ev
end
end
end Mv

end
section
/-! A def keeps its promise. -/
namespace Mv
open PySem PySem.Spec PyProof.Rows L2
section
variable {P : Program} {w : World} {K : PySem.W.Frag} {mg : Str → Option Value} {base : Heap} {F F' : Addr → Prop} {H H' : Hp} {σ : L2.St} {ρ ρ' : Env} {fp fp' : Fp}
theorem fnG_of {lv : Nat} {ad : Addr} {nm ql : Str} {prm : Arguments} {bd : List Stmt} {sco : Scope} {d1 d2 d3 d4 cdv d5 d6 : Value} {an od : Option Addr} {osl : Array (Option Value)} {N ps : List Str} {sp : Sp}
    (lk : K.lookup ad = some ⟨d6, od, .func (PySem.W.fnOf nm ql prm bd sco d1 d2 d3 d4 an cdv d5), osl⟩) (hcd : PySem.W.codeIn K cdv ql = true) (fs : FnScope N ps sco) (len : ∀ vs H Q E, sp vs H Q E → vs.length = ps.length)
    (hb : ∀ (Ar : Around) (up : List PySem.Env) (st : Shared) (Hh : Hp) (vs : List V) (Qq : VK) (Ex : XK), Ar.guards = some [] → Room lv (Ar.deeper (envOfC ql sco st.heap.objs.size ad cdv)) → sp vs Hh Qq Ex →
      ∃ t, PSs (cxOf CX0 P w K mg base N ql sco ad cdv Ar up st Hh Ex).nox bd t ∧ t { nx := fun _ H1 => Qq .non H1, rt := Qq } (L2.start N vs) Hh) :
    FnG P w K mg base (lv + 1) ad (PySem.W.fnOf nm ql prm bd sco d1 d2 d3 d4 an cdv d5) ps sp := by
  refine ⟨len, fun Ar up st Hh args us vs Qq Ex hgd rm en bt rel hsp => ?_⟩
  have hlen := len _ _ _ _ hsp
  have kin : K.In st.heap := en.mod.kin.keeps fun b o e => (en.bs b o e).1
  have nol : st.heap.NoLimit := en.mod.nolimit.keeps fun b o e => (en.bs b o e).1
  refine codeAny_call_function rm.depth (kin _ _ lk) rfl fs.co fs.gen rfl (PySem.W.codeRec_of kin hcd) (bt _ _ _ _ ?_)
  refine wpAny_newFunctionEnv_cells fs.kind (fun ⟨n, v⟩ hy => (fs.par n (List.of_mem_zip hy).1).imp id fun q => ⟨q, PySem.W.cellsFrom_some _ _ _ (.inl q)⟩) fun env he s1 x => ?_
  subst he
  refine ⟨nol.keeps x.toInCall.keep, codeAny_func ?_⟩
  obtain ⟨t, ht, hq⟩ := hb Ar up st Hh vs Qq Ex hgd (rm.deeper _) hsp
  have I : Inv (cxOf CX0 P w K mg base N ql sco ad cdv Ar up st Hh Ex) [] (L2.start N vs) Hh s1 := inv_start fs rm.hd en hlen rel x
  refine wpAny_mono (ht.nox.run [] s1 (L2.start N vs) Hh _ I hq) (fun fl s' hs => ?_) fun e s' hs => hs
  cases fl with
  | ret u => obtain ⟨v, σ', H', J, rv, q⟩ := hs; exact ⟨v, H', J.os, J.bare, J.base, J.hok, rv, q⟩
  | next => obtain ⟨σ', H', J, q⟩ := hs; exact ⟨V.non, H', J.os, J.bare, J.base, J.hok, rfl, q⟩
  | brk => obtain ⟨_, _, _, q⟩ := hs; exact False.elim q
  | cont => obtain ⟨_, _, _, q⟩ := hs; exact False.elim q
/-- the footprints one by one -/
theorem TReps.split : ∀ {ts : List T} {vs : List V} {fq : List Addr}, TReps K F H vs ts fq → ∃ fs : List (List Addr), fq = fs.flatten ∧ fs.length = ts.length ∧ ∀ (i : Nat) t v f, ts[i]? = some t → vs[i]? = some v → fs[i]? = some f → TRep K F H v t f
  | [], [], fq, h => ⟨[], by simp only [TReps] at h; subst h; rfl, rfl, fun i t v f e => by simp at e⟩
  | [], _ :: _, _, h => by simp only [TReps] at h
  | _ :: _, [], _, h => by simp only [TReps] at h
  | t :: ts, v :: vs, fq, h => by
    simp only [TReps] at h
    obtain ⟨f1, f2, rfl, h1, h2⟩ := h
    obtain ⟨fs, e1, e2, e3⟩ := TReps.split h2
    refine ⟨f1 :: fs, by rw [e1]; rfl, by simp [e2], fun i t' v' f' q1 q2 q3 => ?_⟩
    cases i with
    | zero => simp at q1 q2 q3; subst q1 q2 q3; exact h1
    | succ i => exact e3 i t' v' f' (by simpa using q1) (by simpa using q2) (by simpa using q3)
theorem flat_nodup : ∀ {fs : List (List Addr)}, fs.flatten.Nodup → (∀ (i : Nat) f, fs[i]? = some f → f.Nodup) ∧ ∀ (i j : Nat) f g b, fs[i]? = some f → fs[j]? = some g → b ∈ f → b ∈ g → i = j
  | [], _ => ⟨fun i f e => by simp at e, fun i j f g b e => by simp at e⟩
  | f0 :: fs, h => by
    have h : (f0 ++ fs.flatten).Nodup := h
    obtain ⟨n1, n2, n3⟩ := List.nodup_append.mp h
    obtain ⟨a1, a2⟩ := flat_nodup n2
    refine ⟨fun i f e => ?_, fun i j f g b e1 e2 hb hc => ?_⟩
    · cases i with
      | zero => simp at e; subst e; exact n1
      | succ i => exact a1 i f (by simpa using e)
    · cases i with
      | zero =>
        cases j with
        | zero => rfl
        | succ j =>
          simp at e1 e2; subst e1
          exact absurd rfl (n3 b hb b (List.mem_flatten.mpr ⟨g, List.mem_of_getElem? e2, hc⟩))
      | succ i =>
        cases j with
        | zero =>
          simp at e1 e2; subst e2
          exact absurd rfl (n3 b hc b (List.mem_flatten.mpr ⟨f, List.mem_of_getElem? e1, hb⟩))
        | succ j => rw [a2 i j f g b (by simpa using e1) (by simpa using e2) hb hc]
theorem start_SR {io : List Bool} {ts : List T} {vs : List V} {fq : List Addr} {N : List Str} {iov : Nat → Option V} (hr : TReps K F H vs ts fq) (nd : fq.Nodup) (hl : ts.length = io.length) (hn : ts.length ≤ N.length) (hiov : ∀ i, iov i = vs[i]?) (ht : ∀ b, F b → H b ≠ none) :
    ∃ fp0 : Fp, SR K iov [] F H (L2.start N vs) (start0 io ts ++ List.replicate (N.length - ts.length) .no) fp0 ∧ ∀ i b, b ∈ fp0 i → b ∈ fq := by
  obtain ⟨fs, rfl, e2, e3⟩ := hr.split
  obtain ⟨a1, a2⟩ := flat_nodup nd
  have hv := hr.len
  have l0 : (start0 io ts).length = ts.length := by simp [start0, hl]
  have val : ∀ {i : Nat} {v : V}, i < ts.length → vs[i]? = some v → (L2.start N vs)[i]? = some (some v) := fun {i v} hi e => by
    unfold L2.start
    rw [List.getElem?_append_left (by simp [hv, hi]), List.getElem?_map, e]; rfl
  refine ⟨fun i => (fs[i]?).getD [], ⟨by simp [l0, L2.start, hv], fun i s e _ => ?_, fun i h => (nomatch h), fun i e => ?_, fun i => ?_, fun i j b hb hc => ?_, ht⟩, fun i b hb => ?_⟩
  · by_cases hi : i < ts.length
    · rw [List.getElem?_append_left (by rw [l0]; exact hi)] at e
      unfold start0 at e
      rw [List.getElem?_map] at e
      have z1 : ts[i]? = some ts[i] := List.getElem?_eq_getElem hi
      have z2 : io[i]? = some (io[i]'(by omega)) := List.getElem?_eq_getElem _
      have z3 : vs[i]? = some (vs[i]'(by omega)) := List.getElem?_eq_getElem _
      have z4 : fs[i]? = some (fs[i]'(by omega)) := List.getElem?_eq_getElem _
      have z5 : (List.zip io ts)[i]? = some (io[i]'(by omega), ts[i]) := by
        rw [List.getElem?_zip_eq_some]; exact ⟨z2, z1⟩
      rw [z5] at e
      simp only [Option.map_some, Option.some.injEq] at e
      have r := e3 i _ _ _ z1 z3 z4
      split at e
      · subst e
        exact ⟨_, val hi z3, by rw [hiov, z3], by simp only [z4, Option.getD_some]; exact r⟩
      · subst e
        exact ⟨_, val hi z3, by simp only [z4, Option.getD_some]; exact r⟩
    · rw [List.getElem?_append_right (by rw [l0]; omega), List.getElem?_replicate] at e
      split at e
      · cases e
        show (fs[i]?).getD [] = []
        rw [List.getElem?_eq_none (by omega)]; rfl
      · cases e
  · show (fs[i]?).getD [] = []
    have : ts.length ≤ i := by
      have := List.getElem?_eq_none_iff.mp e
      simp [l0] at this
      omega
    rw [List.getElem?_eq_none (by omega)]; rfl
  · show ((fs[i]?).getD []).Nodup
    cases q : fs[i]? with
    | none => exact List.nodup_nil
    | some f => exact a1 i f q
  · cases q : fs[i]? with
    | none => simp [q] at hb
    | some f =>
      cases q2 : fs[j]? with
      | none => simp [q2] at hc
      | some g =>
        simp only [q, q2, Option.getD_some] at hb hc
        exact a2 i j f g b q q2 hb hc
  · cases q : fs[i]? with
    | none => simp [q] at hb
    | some f =>
      simp only [q, Option.getD_some] at hb
      exact List.mem_flatten.mpr ⟨f, List.mem_of_getElem? q, hb⟩
theorem io_outs {iov : Nat → Option V} (S : SR K iov [] F H σ ρ fp) : ∀ {io : List Bool} {vs : List V} {ios : List T} {i0 : Nat}, io.length = vs.length → (∀ n, vs[n]? = iov (i0 + n) ∨ io.length ≤ n) → ioOuts ρ io i0 = some ios → ∃ fpi, TReps K F H (pick io vs) ios fpi ∧ fpi.Nodup ∧ ∀ b ∈ fpi, ∃ i, i0 ≤ i ∧ b ∈ fp i
  | [], [], ios, i0, _, _, h => by cases h; exact ⟨[], by simp only [pick, TReps], List.nodup_nil, fun _ h => (nomatch h)⟩
  | [], _ :: _, _, _, h, _, _ => by simp at h
  | _ :: _, [], _, _, h, _, _ => by simp at h
  | true :: io, v :: vs, ios, i0, hl, hv, h => by
    unfold ioOuts at h
    split at h
    · rename_i t et
      obtain ⟨ts, e1, rfl⟩ := Option.map_eq_some_iff.mp h
      obtain ⟨fpi, r, nd, sub⟩ := io_outs S (vs := vs) (i0 := i0 + 1) (by simpa using hl) (fun n => by
        have := hv (n + 1)
        simpa [Nat.add_assoc, Nat.add_comm 1 n] using this) e1
      obtain ⟨v', h1, h2, h3⟩ := S.slot i0 _ et (by simp)
      have hv0 : iov i0 = some v := by
        have := hv 0
        simp at this
        exact this.symm
      rw [hv0] at h2; cases h2
      refine ⟨fp i0 ++ fpi, ?_, List.nodup_append.mpr ⟨S.nod i0, nd, fun a ha b hb e => ?_⟩, fun b hb => ?_⟩
      · show TReps K F H (v :: pick io vs) (t :: ts) _
        simp only [TReps]
        exact ⟨_, _, rfl, h3, r⟩
      · subst e
        obtain ⟨i, hi, z⟩ := sub a hb
        have := S.dis i0 i a ha z
        omega
      · rcases List.mem_append.mp hb with hb | hb
        · exact ⟨i0, Nat.le_refl _, hb⟩
        · obtain ⟨i, hi, z⟩ := sub b hb
          exact ⟨i, by omega, z⟩
    · cases h
  | false :: io, v :: vs, ios, i0, hl, hv, h => by
    obtain ⟨fpi, r, nd, sub⟩ := io_outs S (vs := vs) (i0 := i0 + 1) (by simpa using hl) (fun n => by
        have := hv (n + 1)
        simpa [Nat.add_assoc, Nat.add_comm 1 n] using this) (show ioOuts ρ io (i0 + 1) = some ios from h)
    exact ⟨fpi, r, nd, fun b hb => (sub b hb).elim fun i ⟨hi, z⟩ => ⟨i, by omega, z⟩⟩
/-- a def that may be called -/
structure Cl (P : Program) (w : World) (K : PySem.W.Frag) (mg : Str → Option Value) (base : Heap) (lv : Nat) (nm : Str) (ps : List Str) (kb : Kbs) (f : Fn) : Prop where
  ex : ∃ (a : Addr) (fd : FuncData), mg nm = some (.ref a) ∧ PySem.W.keepIn K (.ref a) = true ∧ BindsAll fd ps kb ∧ FnG P w K mg base lv a fd ps (spF K f)
  io : f.io.length = ps.length
theorem Cl.mono {i j : Nat} {nm : Str} {ps : List Str} {kb : Kbs} {f : Fn} (c : Cl P w K mg base i nm ps kb f) (h : i ≤ j) : Cl P w K mg base j nm ps kb f := by
  obtain ⟨a, fd, h1, h2, h3, h4⟩ := c.ex
  exact ⟨⟨a, fd, h1, h2, h3, h4.mono h⟩, c.io⟩
/-- a constant of the module -/
def GlK (K : PySem.W.Frag) (mg : Str → Option Value) (nm : Str) (d : D) : Prop := ∃ u v, mg nm = some u ∧ RelV v u ∧ RepD K (fun _ => False) (fun _ => none) v d
/-- what a def's text looks at -/
structure Ctx (P : Program) (w : World) (K : PySem.W.Frag) (mg : Str → Option Value) (base : Heap) (lv : Nat) (sx : Sx) (G : Gam) : Prop where
  blt : ∀ nm ∈ sx.blts, mg nm = none
  fn : ∀ (k : Nat) (f : Fn) (nm : Str) (ps : List Str) (kb : Kbs), G.fns[k]? = some f → sx.fns[k]? = some (nm, ps, kb) → Cl P w K mg base lv nm ps kb f
  gl : ∀ (g : Nat) (d : D) (nm : Str), G.gls[g]? = some d → sx.gls[g]? = some nm → GlK K mg nm d
theorem def_G {lv : Nat} {sx : Sx} {G : Gam} {nm ql : Str} {st : Stmt} {ad : Addr} {fd : FuncData} {ps : List Str} {io : List Bool} {body : Ss} (F : Fun K nm ql st ad fd) (fs : FnScope sx.N ps (defScope st)) (c : Ctx P w K mg base lv sx G) (hio : io.length = ps.length)
    (hchk : chkSs sx (defScope st) (fun _ => true) body (defBody st) = true) : FnG P w K mg base (lv + 1) ad fd ps (spF K ⟨io, runDef G io sx.N.length body⟩) := by
  obtain ⟨oc, od, d2, d3, d4, an, cdv, d5, osl, rfl, lk, hcd⟩ := F.ex
  have hpl : ps.length ≤ sx.N.length := by have := congrArg List.length fs.pre; rw [List.length_take] at this; omega
  refine fnG_of lk hcd fs (fun vs H Q E h => h.1.trans hio) fun Ar up s Hh vs Qq Ex hgd rm hsp => ?_
  obtain ⟨hvl, F0, ts, fpa, t, ios, hr, hnd, htr, hrun, kk⟩ := hsp
  have hrun : runDef G io sx.N.length body ts = some (t, ios) := hrun
  have hvl : vs.length = io.length := hvl
  unfold runDef at hrun
  split at hrun
  case isFalse => cases hrun
  rename_i hl
  let X : Cx := (cxOf CX0 P w K mg base sx.N ql (defScope st) ad cdv Ar up s Hh Ex).nox
  have ok : StOk sx G (defScope st) (fun _ => true) X := by
    refine ⟨⟨rfl, fs.nd, rfl, rfl, ?_, hgd, c.blt, fun k f nm ps' kb h1 h2 => ?_, fun g d nm h1 h2 => c.gl g d nm h1 h2, fun _ _ => rfl⟩, PassesOwn.never⟩
    · have := rm.un
      show (Ar.deeper _).units + 65 < cLine
      omega
    · obtain ⟨a', fd', q1, q2, q3, q4⟩ := (c.fn k f nm ps' kb h1 h2).ex
      exact ⟨⟨a', fd', lv, q1, q2, rm, q3, q4⟩, (c.fn k f nm ps' kb h1 h2).io⟩
  obtain ⟨fp0, S0, sub0⟩ := start_SR (N := sx.N) (iov := fun i => vs[i]?) hr hnd hl (by rw [hl, hio]; exact hpl) (fun _ => rfl) htr
  have fin : ∀ {v : V} {σ' : L2.St} {ρ' : Env} {H' : Hp} {F' : Addr → Prop} {fp' : Fp} {fpv : List Addr} {t' : T}, SR K (fun i => vs[i]?) [] F' H' σ' ρ' fp' → TRep K F' H' v t' fpv → Post F0 Hh fp0 F' H' fp' fpv true → (ioOuts ρ' io 0).map (fun os => (t', os)) = some (t, ios) → Qq v H' := by
    intro v σ' ρ' H' F' fp' fpv t' S' tr P' ho
    obtain ⟨os, e1, e2⟩ := Option.map_eq_some_iff.mp ho
    cases e2
    obtain ⟨fpi, ri, ni, si⟩ := io_outs S' (vs := vs) (i0 := 0) hvl.symm (fun n => .inl (by simp)) e1
    have fr : ∀ b ∈ fpv ++ fpi, b ∈ fpa ∨ Hh b = none := fun b hb => by
      rcases List.mem_append.mp hb with hb | hb
      · exact (P'.freshv b hb).imp (fun ⟨j, z⟩ => sub0 j b z) id
      · obtain ⟨i, _, z⟩ := si b hb
        exact (P'.fresh i b z).imp (fun ⟨j, z⟩ => sub0 j b z) id
    refine kk v H' F' fpv fpi P'.sub (fun b hb => (P'.new b hb).imp id fun z => z.imp (fun ⟨i, z⟩ => sub0 i b z) id) (fun b o e hn => P'.keep b o e (.inr fun i hi => hn (sub0 i b hi))) P'.there S'.trk tr ri (List.nodup_append.mpr ⟨P'.nodv, ni, fun a ha b hb e => ?_⟩) fr
    subst e
    obtain ⟨i, _, z⟩ := si a hb
    exact P'.disv i a z ha
  split at hrun
  · rename_i t' ρ' e1
    refine ⟨_, sndSs (X := X) (iov := fun i => vs[i]?) ok body hchk e1, F0, fp0, ?_, fun v σ' H' F' fp' fpv S' tr P' => fin S' tr P' hrun⟩
    exact S0
  · rename_i ρ' e1
    refine ⟨_, sndSs (X := X) (iov := fun i => vs[i]?) ok body hchk e1, F0, fp0, ?_, fun σ' H' F' fp' S' P' => fin (fpv := []) S' (by simp only [TRep, RepD, and_self]) P' hrun⟩
    exact S0
  · cases hrun
end
end Mv

end
section
/-! The end of a law. -/
namespace Mv
open PySem PySem.Spec PyProof.Rows L2
theorem law_callG {P : Program} {w : World} {K : PySem.W.Frag} {mg mb : Str → Option Value} {lv : Nat} {fa a : Addr} {fd : FuncData} {x : Str} {f : Fn} {s₁ : Shared} {us : List Value} {ns : List Int}
    (kx : K.In s₁.heap) (hm : s₁.heap.Ns mainGlobals mg) (hB : s₁.heap.Ns builtinsNs mb) (hbo : ∀ x : Str, x ≠ "__name__" → mb x = bootBuiltins x) (hno : s₁.heap.NoLimit) (hgen : s₁.gens = #[])
    (hob : s₁.heap.get? a = some { cls := .type "list", data := .seq us.toArray }) (hin : IntsAre us ns) (hle : ns.length ≤ sizeLine) (rm : Room lv callerA)
    (G : ∀ base : Heap, K.In base → base.Ns mainGlobals mg → FnG P w K mg base lv fa fd [x] (spF K f)) (hbi : ∀ (s : Shared) (u : Value), BindsTo s fd ⟨[u], []⟩ [(x, u)]) (hio : f.io = [false])
    (hrun : f.run [.fz (.list (ns.map D.int))] = some (.fz (.bool true), [])) :
    codeAny (model P w) callerA (.call (.ref fa) ⟨[.ref a], []⟩) (fun r s' => r = .ok (.ret (.bool true)) ∧ OldK s₁.heap s'.heap ∧ s'.os = s₁.os ∧ AllBare s'.gens) s₁ := by
  have vi := vals_ints hin
  have li := hin.length
  -- one reading of the heap: nothing but the script is told
  have main : ∀ H : Hp, Only H → LstF K (fun b => H b ≠ none) H a (ns.map V.int) → HOk P w H s₁.heap → (∀ b, H b ≠ none → b = a) → (H a ≠ none → K.lookup a = none) →
      codeAny (model P w) callerA (.call (.ref fa) ⟨[.ref a], []⟩) (fun r s' => r = .ok (.ret (.bool true)) ∧ OldK s₁.heap s'.heap ∧ s'.os = s₁.os ∧ AllBare s'.gens) s₁ := by
    intro H onl ls hk only nk
    have down : ∀ {b : Addr} {o : Obj}, s₁.heap.get? b = some o → H b = none → (hidT s₁.heap H).get? b = some o := fun e n => hidT_get e n
    have away : ∀ {b : Addr} {o : Obj} {es : Array DictEntry} {ep : Nat}, s₁.heap.get? b = some o → o.data = .dict es ep → H b = none := fun {b o es ep} e d => by
      cases q : H b with
      | none => rfl
      | some u =>
        obtain rfl := only b (by rw [q]; simp)
        rw [hob] at e; cases e
        exact absurd (show Data.seq us.toArray _ = Data.dict es ep from d) (by simp)
    have nsD : ∀ {b : Addr} {m : Str → Option Value}, s₁.heap.Ns b m → (hidT s₁.heap H).Ns b m := fun {b m} ⟨o, es, ep, e, d, r⟩ => ⟨o, es, ep, down e (away e d), d, r⟩
    have kD : K.In (hidT s₁.heap H) := fun b o e => down (kx b o e) (by
      cases q : H b with
      | none => rfl
      | some u =>
        obtain rfl := only b (by rw [q]; simp)
        rw [nk (by rw [q]; simp)] at e; cases e)
    have md : Mod K mg (hidT s₁.heap H) := ⟨kD, nsD hm, ⟨mb, nsD hB, hbo⟩, let ⟨mc, h1, h2⟩ := hno; ⟨mc, nsD h1, h2⟩⟩
    have en : Env0 P w K mg (hidT s₁.heap H) callerA [] s₁ H := ⟨rfl, md, fun b o e => of_hidT e, Nat.le_of_eq (hidT_size _ _), trivial, fun b hb => absurd (show b ∈ ([] : List Addr) from hb) (by simp), hk, .of_eq hgen⟩
    have reps : ∀ (l : List Int), RepDs K (fun b => H b ≠ none) H (l.map V.int) (l.map D.int) := fun l => by
      induction l with
      | nil => simp only [List.map_nil, RepDs]
      | cons z l ih => simp only [List.map_cons, RepDs, RepD, true_and]; exact ih
    have hsp : spF K f [.ref a] H (fun v _ => v = .bl true) (fun _ _ _ => False) := by
      refine ⟨by rw [hio]; rfl, fun b => H b ≠ none, [.fz (.list (ns.map D.int))], [], _, _, ?_, List.nodup_nil, fun b h => h, hrun, fun v H' F' fpv fpi _ _ _ _ _ tv _ _ _ => trep_bool tv⟩
      simp only [TReps, TRep, RepD]
      exact ⟨[], [], rfl, ⟨rfl, a, _, rfl, ls, reps ns⟩, rfl⟩
    refine codeAny_mono ((G _ kD (nsD hm)).run callerA [] s₁ H ⟨[.ref a], []⟩ [.ref a] [.ref a] _ _ rfl rm en (hbi s₁ (.ref a)) (.cons rfl .nil) hsp) fun r s' h => ?_
    cases r with
    | error e => exact False.elim h
    | ok fl =>
      cases fl with
      | next => exact False.elim h
      | brk => exact False.elim h
      | cont => exact False.elim h
      | ret u =>
        obtain ⟨v, H', os, br, un, ok', rl, e1⟩ := h
        have e1 : v = .bl true := e1
        subst e1
        obtain rfl : u = Value.bool true := rl
        refine ⟨rfl, OldK.of_keep fun b o e => ?_, os, br⟩
        cases q : H b with
        | none => exact un.keep b o e q (by intro z; exact absurd (show b ∈ ([] : List Addr) from z) (by simp)) (by simp)
        | some u =>
          rcases onl b with z | ⟨ob, xs, z⟩
          · rw [q] at z; cases z
          · obtain ⟨e2, _⟩ := hk b _ z
            obtain ⟨e3, _⟩ := ok' b _ (un.frzs b ob _ z)
            rw [e] at e2; cases e2
            exact e3
  cases hka : K.lookup a with
  | some o =>
    have e := kx a o hka
    rw [hob] at e
    cases e
    exact main (fun _ => none) (fun _ => .inl rfl) (.inr ⟨_, us.toArray, _, hka, rfl, fun _ => rfl, rfl, by rw [List.size_toArray, li]; exact hle, by simpa using vi⟩) (fun b u z => nomatch z) (fun b z => absurd rfl z) fun z => absurd rfl z
  | none =>
    have at_a : ∀ {b : Addr} {u : HO}, (if b = a then some (HO.frz { cls := .type "list", data := .seq us.toArray } (.lst (ns.map V.int))) else none) = some u → b = a ∧ u = .frz { cls := .type "list", data := .seq us.toArray } (.lst (ns.map V.int)) := fun {b u} z => by
      split at z
      · rename_i hb; cases z; exact ⟨hb, rfl⟩
      · cases z
    refine main (fun b => if b = a then some (.frz { cls := .type "list", data := .seq us.toArray } (.lst (ns.map V.int))) else none) (fun b => ?_) (.inl ⟨by simp, .inr ⟨_, if_pos rfl⟩⟩) (fun b u z => ?_) (fun b z => ?_) fun _ => hka
    · by_cases hb : b = a
      · exact .inr ⟨_, _, if_pos hb⟩
      · exact .inl (if_neg hb)
    · obtain ⟨rfl, rfl⟩ := at_a z
      exact ⟨hob, by rw [List.length_map]; exact hle, us, _, vi, hob⟩
    · cases q : (if b = a then some (HO.frz { cls := .type "list", data := .seq us.toArray } (.lst (ns.map V.int))) else none) with
      | none => exact absurd q z
      | some u => exact (at_a q).1
theorem walkG {l : PySem.W.OpenLaw} {n lv : Nat} {q : Program} {loose : List Str} {XP : (Str → Option Value) → Heap → Prop} {YP : World → Heap → Prop} {d : DefRec} {K : Params → PySem.W.Frag} {x : Str} {f : Fn}
    (hn : l.most = some n) (hn2 : n ≤ sizeLine) (hdf : d.params.defaults = []) (rm : Room lv callerA) (hY : ∀ (w : World) (h : Heap), YP w h → (K w.params).In h)
    (F : ∀ (w : World) (mg : Str → Option Value) (fa : Addr) (h : Heap), (K w.params).In h → h.Ns mainGlobals mg → mg d.name = some (.ref fa) →
      ∃ fd : FuncData, (∀ (s : Shared) (u : Value), BindsTo s fd ⟨[u], []⟩ [(x, u)]) ∧ ∀ base : Heap, (K w.params).In base → base.Ns mainGlobals mg → FnG l.prog w (K w.params) mg base lv fa fd [x] (spF (K w.params) f))
    (hio : f.io = [false]) (hrun : ∀ ns : List Int, ns.length ≤ n → (∀ z ∈ ns, Builtin.Int.intBits z ≤ 1048576) → f.run [.fz (.list (ns.map D.int))] = some (.fz (.bool true), [])) :
    PySem.W.WalkO q loose XP YP l.row.toRowW d [] (fun f vs => PySem.call f vs) := by
  refine Att.attach_callB hn hdf fun w s₀ s₁ mg mb fa o pm cd doc a vs ns G Y ho hd hcd hmg hobj hints hlen hbits hg => ?_
  have kx := hY w _ Y
  obtain ⟨fd, hb, hF⟩ := F w mg fa _ kx G.T.g hmg
  exact law_callG kx G.T.g G.T.b G.T.builtins G.T.nolimit hg hobj hints (Nat.le_trans hlen hn2) rm hF hb hio (hrun ns hlen hbits)
end Mv

end
section
/-! Weakest preconditions of codes, in continuation style: what is computed is computed by unfolding, what must be shown is a conjunct. -/
namespace Mv
open PySem L2
def oQ {α : Type} (o : Option α) (Q : α → Prop) : Prop := match o with
  | some a => Q a
  | none => False
theorem oQ_ok {α : Type} {o : Option α} {Q : α → Prop} (h : oQ o Q) : ∃ a, o = some a ∧ Q a := by
  cases o with
  | none => exact h.elim
  | some a => exact ⟨a, rfl, h⟩
/-! the state is brought into its plain form on the way -/
def fD (d : D) (Q : D → Prop) : Prop := match d with
  | .none => Q .none | .bool b => Q (.bool b) | .int i => Q (.int i) | .str s => Q (.str s) | .list l => Q (.list l) | .tup l => Q (.tup l) | .dict a b => Q (.dict a b)
theorem fD_el {d : D} {Q : D → Prop} (h : fD d Q) : Q d := by cases d <;> exact h
theorem fD_in {d : D} {Q : D → Prop} (h : Q d) : fD d Q := by cases d <;> exact h
mutual
def fT : T → (T → Prop) → Prop
  | .fz d, Q => fD d fun d => Q (.fz d)
  | .lst ts, Q => fTs ts fun ts => Q (.lst ts)
  | .tup ts, Q => fTs ts fun ts => Q (.tup ts)
  | .dct ks ts, Q => Q (.dct ks ts)
def fTs : List T → (List T → Prop) → Prop
  | [], Q => Q []
  | t :: ts, Q => fT t fun t => fTs ts fun ts => Q (t :: ts)
end
mutual
theorem fT_el : ∀ (t : T) {Q : T → Prop}, fT t Q → Q t
  | .fz d, Q, h => by simp only [fT] at h; exact fD_el h
  | .lst ts, Q, h => by simp only [fT] at h; exact fTs_el ts h
  | .tup ts, Q, h => by simp only [fT] at h; exact fTs_el ts h
  | .dct ks ts, Q, h => by simpa only [fT] using h
theorem fTs_el : ∀ (ts : List T) {Q : List T → Prop}, fTs ts Q → Q ts
  | [], Q, h => by simpa only [fTs] using h
  | t :: ts, Q, h => by simp only [fTs] at h; exact fTs_el ts (fT_el t h)
end
mutual
theorem fT_in : ∀ (t : T) {Q : T → Prop}, Q t → fT t Q
  | .fz d, Q, h => by simp only [fT]; exact fD_in h
  | .lst ts, Q, h => by simp only [fT]; exact fTs_in ts h
  | .tup ts, Q, h => by simp only [fT]; exact fTs_in ts h
  | .dct ks ts, Q, h => by simpa only [fT] using h
theorem fTs_in : ∀ (ts : List T) {Q : List T → Prop}, Q ts → fTs ts Q
  | [], Q, h => by simpa only [fTs] using h
  | t :: ts, Q, h => by simp only [fTs]; exact fT_in t (fTs_in ts h)
end
def fS (s : Slot) (Q : Slot → Prop) : Prop := match s with
  | .no => Q .no | .ow t => fT t fun t => Q (.ow t) | .io t => fT t fun t => Q (.io t) | .al i k => Q (.al i k)
theorem fS_el {s : Slot} {Q : Slot → Prop} (h : fS s Q) : Q s := by
  cases s with
  | no => exact h
  | ow t => exact fT_el t (Q := fun t => Q (.ow t)) h
  | io t => exact fT_el t (Q := fun t => Q (.io t)) h
  | al i k => exact h
theorem fS_in {s : Slot} {Q : Slot → Prop} (h : Q s) : fS s Q := by
  cases s with
  | no => exact h
  | ow t => exact fT_in t (Q := fun t => Q (.ow t)) h
  | io t => exact fT_in t (Q := fun t => Q (.io t)) h
  | al i k => exact h
def fE : Env → (Env → Prop) → Prop
  | [], Q => Q []
  | s :: ρ, Q => fS s fun s => fE ρ fun ρ => Q (s :: ρ)
theorem fE_el : ∀ (ρ : Env) {Q : Env → Prop}, fE ρ Q → Q ρ
  | [], Q, h => h
  | s :: ρ, Q, h => fE_el ρ (Q := fun ρ => Q (s :: ρ)) (fS_el (s := s) (Q := fun s => fE ρ fun ρ => Q (s :: ρ)) h)
theorem fE_in : ∀ (ρ : Env) {Q : Env → Prop}, Q ρ → fE ρ Q
  | [], Q, h => h
  | s :: ρ, Q, h => fS_in (Q := fun s => fE ρ fun ρ => Q (s :: ρ)) (fE_in ρ (Q := fun ρ => Q (s :: ρ)) h)
/-! what a value must be -/
def vT (v : Val) (K : T → Prop) : Prop := match v with
  | .t t => K t
  | _ => False
def vInt (v : Val) (K : Int → Prop) : Prop := match v with
  | .t (.fz (.int i)) => K i
  | _ => False
def vBool (v : Val) (K : Bool → Prop) : Prop := match v with
  | .t (.fz (.bool i)) => K i
  | _ => False
def vFz (v : Val) (K : D → Prop) : Prop := match v with
  | .t (.fz d) => K d
  | _ => False
def vPt (v : Val) (K : Nat → Option Nat → Prop) : Prop := match v with
  | .pt j k => K j k
  | _ => False
def vTup (v : Val) (K : List T → Prop) : Prop := match v with
  | .t (.fz (.tup ds)) => K (fzs ds)
  | .t (.tup ts) => K ts
  | _ => False
def dSeq (d : D) (K : List D → Prop) : Prop := match d with
  | .list ds => K ds
  | .tup ds => K ds
  | _ => False
def dList (d : D) (K : List D → Prop) : Prop := match d with
  | .list ds => K ds
  | _ => False
theorem vT_el {v : Val} {K} (h : vT v K) : ∃ t, v = .t t ∧ K t := by
  cases v with
  | t t => exact ⟨t, rfl, h⟩
  | pt j k => exact h.elim
theorem vPt_el {v : Val} {K} (h : vPt v K) : ∃ j k, v = .pt j k ∧ K j k := by
  cases v with
  | t t => exact h.elim
  | pt j k => exact ⟨j, k, rfl, h⟩
theorem vInt_el {v : Val} {K} (h : vInt v K) : ∃ i, v = .t (.fz (.int i)) ∧ K i := by
  unfold vInt at h; split at h
  · exact ⟨_, rfl, h⟩
  · exact h.elim
theorem vBool_el {v : Val} {K} (h : vBool v K) : ∃ i, v = .t (.fz (.bool i)) ∧ K i := by
  unfold vBool at h; split at h
  · exact ⟨_, rfl, h⟩
  · exact h.elim
theorem vFz_el {v : Val} {K} (h : vFz v K) : ∃ d, v = .t (.fz d) ∧ K d := by
  unfold vFz at h; split at h
  · exact ⟨_, rfl, h⟩
  · exact h.elim
theorem vTup_el {v : Val} {K} (h : vTup v K) : (∃ ds, v = .t (.fz (.tup ds)) ∧ K (fzs ds)) ∨ ∃ ts, v = .t (.tup ts) ∧ K ts := by
  unfold vTup at h; split at h
  · exact .inl ⟨_, rfl, h⟩
  · exact .inr ⟨_, rfl, h⟩
  · exact h.elim
theorem dSeq_el {d : D} {K} (h : dSeq d K) : ∃ ds, (d = .list ds ∨ d = .tup ds) ∧ K ds := by
  unfold dSeq at h; split at h
  · exact ⟨_, .inl rfl, h⟩
  · exact ⟨_, .inr rfl, h⟩
  · exact h.elim
theorem dList_el {d : D} {K} (h : dList d K) : ∃ ds, d = .list ds ∧ K ds := by
  unfold dList at h; split at h
  · exact ⟨_, rfl, h⟩
  · exact h.elim
/-- a[i]: a dict or not -/
def wIx (ρ : Env) (va : Val) (x vi : T) (K : Val → Prop) : Prop := match dictOf x with
  | some (ks, ts) => ∃ d, dGet ks ts vi = some d ∧ K (.t (.fz d))
  | none => ∃ v, ixVal ρ va vi = some v ∧ K v
/-- what follows a statement -/
def seqK (w : Env → (Out → Prop) → Prop) (Q : Out → Prop) (o : Out) : Prop := match o with
  | .nx ρ1 => fE ρ1 fun ρ1 => w ρ1 Q
  | o => Q o
structure LoopF (f : Env → D → Option Out) (ρ : Env) (ds : List D) (Q : Out → Prop) : Prop where
  h : ∃ o, forLoop f ρ ds = some o ∧ Q o
structure LoopW (t : Env → Option (Bool × Env)) (f : Env → Option Out) (n : Nat) (ρ : Env) (Q : Out → Prop) : Prop where
  h : ∃ o, whLoop t f n ρ = some o ∧ Q o
structure LoopC (f : Env → D → Option (Option T × Env)) (own : List Nat) (ρ : Env) (ds : List D) (Q : List T → Env → Prop) : Prop where
  h : ∃ ts ρ5, lcLoop f own ρ ds [] = some (ts, ρ5) ∧ Q ts ρ5
def wBin (op : Operator) (x y : T) (Q : T → Prop) : Prop := match op, x, y with
  | .Add, .fz (.int i), .fz (.int j) => Q (.fz (.int (i + j)))
  | .Sub, .fz (.int i), .fz (.int j) => Q (.fz (.int (i - j)))
  | .Mult, .fz (.int i), .fz (.int j) => okI i = true ∧ okI j = true ∧ Q (.fz (.int (i * j)))
  | .FloorDiv, .fz (.int i), .fz (.int j) => 0 < j ∧ okI j = true ∧ Q (.fz (.int (i / j)))
  | .Mod, .fz (.int i), .fz (.int j) => 0 < j ∧ Q (.fz (.int (i % j)))
  | .Pow, .fz (.int i), .fz (.int j) => 0 ≤ j ∧ j ≤ 1000 ∧ okI i = true ∧ Q (.fz (.int (i ^ j.toNat)))
  | op, x, y => ∃ t, Mv.binT op x y = some t ∧ Q t
theorem wBin_ok {op : Operator} {x y : T} {Q : T → Prop} (h : wBin op x y Q) : ∃ t, Mv.binT op x y = some t ∧ Q t := by
  unfold wBin at h
  split at h
  · exact ⟨_, rfl, h⟩
  · exact ⟨_, rfl, h⟩
  · exact ⟨_, by simp only [Mv.binT, mulT, h.1, h.2.1]; rfl, h.2.2⟩
  · exact ⟨_, by simp only [Mv.binT, arT, Mv.intOp, h.2.1, decide_eq_true h.1]; rfl, h.2.2⟩
  · exact ⟨_, by simp only [Mv.binT, arT, Mv.intOp, decide_eq_true h.1]; rfl, h.2⟩
  · exact ⟨_, by simp only [Mv.binT, arT, Mv.intOp, decide_eq_true h.1, decide_eq_true h.2.1, h.2.2.1]; rfl, h.2.2.2⟩
  · exact h
def wCmp (op : CmpOp) (x y : T) (Q : Bool → Prop) : Prop := match op, x, y with
  | .Eq, .fz (.int i), .fz (.int j) => Q (decide (i = j))
  | .NotEq, .fz (.int i), .fz (.int j) => Q (!decide (i = j))
  | .Lt, .fz (.int i), .fz (.int j) => Q (decide (i < j))
  | .LtE, .fz (.int i), .fz (.int j) => Q (decide (i ≤ j))
  | .Gt, .fz (.int i), .fz (.int j) => Q (decide (j < i))
  | .GtE, .fz (.int i), .fz (.int j) => Q (decide (j ≤ i))
  | .Is, x, .fz .none => Q (isNone x)
  | .IsNot, x, .fz .none => Q (!isNone x)
  | op, x, y => ∃ b, cmpT op x y = some b ∧ Q b
theorem deq_int (i j : Int) : deq (.int i) (.int j) = some (decide (i = j)) := by
  simp only [deq, D.shp, Bool.and_self, if_true, D.toPy]
  congr 1
theorem wCmp_ok {op : CmpOp} {x y : T} {Q : Bool → Prop} (h : wCmp op x y Q) : ∃ b, cmpT op x y = some b ∧ Q b := by
  unfold wCmp at h
  split at h
  · exact ⟨_, deq_int _ _, h⟩
  · exact ⟨_, by simp only [cmpT, T.toD, deq_int]; rfl, h⟩
  · exact ⟨_, rfl, h⟩
  · exact ⟨_, rfl, h⟩
  · exact ⟨_, rfl, h⟩
  · exact ⟨_, rfl, h⟩
  · exact ⟨_, rfl, h⟩
  · exact ⟨_, rfl, h⟩
  · exact h
def wBlt (f : Blt) (ts : List T) (Q : T → Prop) : Prop := match f, ts with
  | .len, [.fz (.list ds)] => Q (.fz (.int ds.length))
  | .len, [.fz (.tup ds)] => Q (.fz (.int ds.length))
  | .len, [.lst ts] => Q (.fz (.int ts.length))
  | .abs, [.fz (.int i)] => Q (.fz (.int (if i < 0 then -i else i)))
  | .int, [.fz (.int i)] => Q (.fz (.int i))
  | .int, [.fz (.bool b)] => Q (.fz (.int (if b then 1 else 0)))
  | .max2, [.fz (.int i), .fz (.int j)] => Q (.fz (.int (if j > i then j else i)))
  | .min2, [.fz (.int i), .fz (.int j)] => Q (.fz (.int (if j < i then j else i)))
  | f, ts => ∃ t, appB f ts = some t ∧ Q t
theorem wBlt_ok {f : Blt} {ts : List T} {Q : T → Prop} (h : wBlt f ts Q) : ∃ t, appB f ts = some t ∧ Q t := by
  unfold wBlt at h
  split at h
  · exact ⟨_, rfl, h⟩
  · exact ⟨_, rfl, h⟩
  · exact ⟨_, rfl, h⟩
  · exact ⟨_, rfl, h⟩
  · exact ⟨_, rfl, h⟩
  · exact ⟨_, rfl, h⟩
  · exact ⟨_, rfl, h⟩
  · exact ⟨_, rfl, h⟩
  · exact h
/-- a call -/
def wCall (f : Fn) (ρ : Env) (vs : List Val) (Q : T → Env → Prop) : Prop := ioOk f.io vs = true ∧ oQ (argTs ρ f.io vs) fun ts => ∃ t ios, f.run ts = some (t, ios) ∧
  ((rdSlots f.io vs).isEmpty || (t.imm && T.imms ios && brOk ρ (rdSlots f.io vs))) = true ∧ oQ (putIo (killAll ρ (ioSlots f.io vs)) f.io vs ios) fun ρ1 => fE ρ1 fun ρ1 => fT t fun t => Q t ρ1
theorem wCall_ok {f : Fn} {ρ : Env} {vs : List Val} {Q : T → Env → Prop} (h : wCall f ρ vs Q) : ∃ t ρ1, callF f ρ vs = some (t, ρ1) ∧ Q t ρ1 := by
  obtain ⟨h1, h2⟩ := h
  obtain ⟨ts, e1, t, ios, e2, h3, h4⟩ := oQ_ok h2
  obtain ⟨ρ1, e3, q⟩ := oQ_ok h4
  exact ⟨t, ρ1, by unfold callF; rw [if_pos h1, e1]; simp only [e2, h3, if_true, e3]; rfl, fT_el t (fE_el ρ1 q)⟩
mutual
def wC (G : Gam) : C → Env → (Val → Env → Prop) → Prop
  | .var i, ρ, Q => oQ (rdName ρ i) fun v => Q v ρ
  | .mv i, ρ, Q => match ρ[i]? with
    | some (.ow t) => Q (.t t) ((kills i .none ρ).set i .no)
    | _ => False
  | .kst d, ρ, Q => Q (.t (.fz d)) ρ
  | .gl g, ρ, Q => oQ G.gls[g]? fun d => Q (.t (.fz d)) ρ
  | .fzv c, ρ, Q => wC G c ρ fun v ρ1 => oQ (fzVal ρ1 v) fun p => Q (.t (.fz p.1.toD)) p.2
  | .tup es, ρ, Q => wCs G es ρ fun vs ρ1 => oQ (fzVals ρ1 vs) fun p => Q (.t (mkTup p.1)) p.2
  | .list es, ρ, Q => wCs G es ρ fun vs ρ1 => oQ (fzVals ρ1 vs) fun p => Q (.t (.lst p.1)) p.2
  | .dict0, ρ, Q => Q (.t (.dct [] [])) ρ
  | .bin op a b, ρ, Q => wC G a ρ fun va ρ1 => wC G b ρ1 fun vb ρ2 => stands va b.wr = true ∧ oQ (resolve ρ2 va) fun x => oQ (resolve ρ2 vb) fun y => wBin op x y fun t => Q (.t t) ρ2
  | .neg a, ρ, Q => wC G a ρ fun v ρ1 => vInt v fun i => Q (.t (.fz (.int (-i)))) ρ1
  | .notv a, ρ, Q => wC G a ρ fun v ρ1 => vBool v fun b => Q (.t (.fz (.bool (!b)))) ρ1
  | .boolop op a b, ρ, Q => wC G a ρ fun v ρ1 => vBool v fun k => (k = decide (op = .And) → wC G b ρ1 Q) ∧ (k = !decide (op = .And) → Q (.t (.fz (.bool (!decide (op = .And))))) ρ1)
  | .cmp op a b, ρ, Q => wC G a ρ fun va ρ1 => wC G b ρ1 fun vb ρ2 => stands va b.wr = true ∧ oQ (resolve ρ2 va) fun x => oQ (resolve ρ2 vb) fun y => wCmp op x y fun k => Q (.t (.fz (.bool k))) ρ2
  | .chain o1 o2 a b c, ρ, Q => wC G a ρ fun va ρ1 => wC G b ρ1 fun vb ρ2 => vT va fun x => vT vb fun y => wCmp o1 x y fun k => (k = false → Q (.t (.fz (.bool false))) ρ2) ∧ (k = true → wC G c ρ2 fun vc ρ3 => vT vc fun z => wCmp o2 y z fun k => Q (.t (.fz (.bool k))) ρ3)
  | .ite c a b, ρ, Q => wT G c ρ fun k ρ1 => (k = true → wC G a ρ1 Q) ∧ (k = false → wC G b ρ1 Q)
  | .ix a i, ρ, Q => wC G a ρ fun va ρ1 => wC G i ρ1 fun vi ρ2 => vT vi fun vi => stands va i.wr = true ∧ oQ (resolve ρ2 va) fun x => wIx ρ2 va x vi fun v => Q v ρ2
  | .sl a lo hi, ρ, Q => wC G a ρ fun va ρ1 => wO G lo ρ1 fun l ρ2 => wO G hi ρ2 fun h ρ3 => stands va (lo.wr || hi.wr) = true ∧ okB l = true ∧ okB h = true ∧ oQ (resolve ρ3 va) fun x => ∃ t, slT x l h = some t ∧ Q (.t t) ρ3
  | .call k es, ρ, Q => wCs G es ρ fun vs ρ1 => oQ G.fns[k]? fun f => wCall f ρ1 vs fun t ρ2 => Q (.t t) ρ2
  | .callk k perm es, ρ, Q => wCs G es ρ fun vs ρ1 => oQ G.fns[k]? fun f => oQ (permV perm vs) fun ws => wCall f ρ1 ws fun t ρ2 => Q (.t t) ρ2
  | .blt f es, ρ, Q => wCs G es ρ fun vs ρ1 => oQ (resolves ρ1 vs) fun ts => wBlt f ts fun t => Q (.t t) ρ1
  | .get2 o k d, ρ, Q => wC G o ρ fun va ρ1 => wC G k ρ1 fun vk ρ2 => wC G d ρ2 fun vd ρ3 => vFz vk fun key => vFz vd fun dft => (stands va (k.wr || d.wr) && ((resolve ρ1 va).bind dictOf).isSome) = true ∧ oQ ((resolve ρ3 va).bind dictOf) fun p => oQ (keyOf key) fun kk => ∃ x, ((findK kk p.1 p.2 = some (.fz x)) ∨ (findK kk p.1 p.2 = none ∧ x = dft)) ∧ Q (.t (.fz x)) ρ3
  | .get1 _ _, _, _ => False
  | .rv a, ρ, Q => wC G a ρ fun va ρ1 => oQ (resolve ρ1 va) fun x => oQ x.flat fun ds => Q (.t (T.fl ds.reverse)) ρ1
  | .lrg1 a, ρ, Q => wC G a ρ fun v ρ1 => vInt v fun i => okRg 0 i = true ∧ Q (.t (T.fl (rangeD 0 i))) ρ1
  | .lrg2 a b, ρ, Q => wC G a ρ fun v ρ1 => wC G b ρ1 fun w ρ2 => vInt v fun i => vInt w fun j => okRg i j = true ∧ Q (.t (T.fl (rangeD i j))) ρ2
  | .cnt o k, ρ, Q => wC G o ρ fun va ρ1 => wC G k ρ1 fun vk ρ2 => vInt vk fun i => (stands va k.wr && ((resolve ρ1 va).bind T.flat).isSome) = true ∧ oQ (((resolve ρ2 va).bind T.flat).bind intsOf) fun ns => Q (.t (.fz (.int (ns.count i : Nat)))) ρ2
  | .idx o k, ρ, Q => wC G o ρ fun va ρ1 => wC G k ρ1 fun vk ρ2 => vFz vk fun d => (stands va k.wr && ((resolve ρ1 va).bind T.flat).isSome && flatD d) = true ∧ oQ ((resolve ρ2 va).bind T.flat) fun ds => ds.all flatD = true ∧ oQ (idxD d ds 0) fun j => Q (.t (.fz (.int (j : Nat)))) ρ2
  | .lc own tg it tests elt, ρ, Q => wI G it ρ fun ds ρ1 => ownOk ρ1 (own.map (·.2)) = true ∧ LoopC (lcStep tg (evTo G tests) (evC G elt)) (own.map (·.2)) (wipeE ρ1 (own.map (·.2))) ds fun ts ρ5 => ts.length ≤ sizeLine ∧ Q (.t (.lst ts)) (restore ρ1 (own.map (·.2)) ρ5)
  | .lci own i tg tests elt, ρ, Q => ∃ ks ts0 ds, ρ[i]? = some (Slot.ow (.dct ks ts0)) ∧ T.unfzs ts0 = some ds ∧ ds.all flatD = true ∧ ownOk ((kills i none ρ).set i .no) (own.map (·.2)) = true ∧ LoopC (lcStep tg (evTo G tests) (evC G elt)) (own.map (·.2)) (wipeE ((kills i none ρ).set i .no) (own.map (·.2))) (itemsD ks ds) fun ts ρ5 => ts.length ≤ sizeLine ∧ Q (.t (.lst ts)) ((kills i none (restore ((kills i none ρ).set i .no) (own.map (·.2)) ρ5)).set i (.ow (.dct ks ts0)))
def wCs (G : Gam) : Cs → Env → (List Val → Env → Prop) → Prop
  | .nil, ρ, Q => Q [] ρ
  | .cons c cs, ρ, Q => wC G c ρ fun v ρ1 => wCs G cs ρ1 fun vs ρ2 => stands v cs.wr = true ∧ Q (v :: vs) ρ2
def wO (G : Gam) : Co → Env → (Option Int → Env → Prop) → Prop
  | .none, ρ, Q => Q none ρ
  | .some c, ρ, Q => wC G c ρ fun v ρ1 => vInt v fun i => Q (some i) ρ1
def wT (G : Gam) : Tc → Env → (Bool → Env → Prop) → Prop
  | .not a, ρ, Q => wT G a ρ fun b ρ1 => Q (!b) ρ1
  | .bool op ts, ρ, Q => wB G op ts ρ Q
  | .cmp op a b, ρ, Q => wC G a ρ fun va ρ1 => wC G b ρ1 fun vb ρ2 => stands va b.wr = true ∧ oQ (resolve ρ2 va) fun x => oQ (resolve ρ2 vb) fun y => wCmp op x y fun k => Q k ρ2
  | .chain o1 o2 a b c, ρ, Q => wC G a ρ fun va ρ1 => wC G b ρ1 fun vb ρ2 => vT va fun x => vT vb fun y => wCmp o1 x y fun k => (k = false → Q false ρ2) ∧ (k = true → wC G c ρ2 fun vc ρ3 => vT vc fun z => wCmp o2 y z fun k => Q k ρ3)
  | .val c, ρ, Q => wC G c ρ fun v ρ1 => oQ (resolve ρ1 v) fun t => oQ (truT t) fun b => Q b ρ1
def wB (G : Gam) (op : BoolOp) : Tcs → Env → (Bool → Env → Prop) → Prop
  | .one t, ρ, Q => wT G t ρ Q
  | .cons t ts, ρ, Q => wT G t ρ fun b ρ1 => (b = decide (op = .And) → wB G op ts ρ1 Q) ∧ (b = !decide (op = .And) → Q (!decide (op = .And)) ρ1)
def wI (G : Gam) : I → Env → (List D → Env → Prop) → Prop
  | .seq c, ρ, Q => wC G c ρ fun v ρ1 => oQ (fzVal ρ1 v) fun p => dSeq p.1.toD fun ds => Q ds p.2
  | .brw c, ρ, Q => wC G c ρ fun v ρ1 => oQ (resolve ρ1 v) fun t => ∃ ds, t.flat = some ds ∧ Q ds ρ1
  | .rng1 a, ρ, Q => wC G a ρ fun v ρ1 => vInt v fun i => okR i = true ∧ Q (rangeD 0 i) ρ1
  | .rng2 a b, ρ, Q => wC G a ρ fun v ρ1 => wC G b ρ1 fun w ρ2 => vInt v fun i => vInt w fun j => okR i = true ∧ okR j = true ∧ Q (rangeD i j) ρ2
  | .enum c, ρ, Q => wC G c ρ fun v ρ1 => oQ (fzVal ρ1 v) fun p => dList p.1.toD fun ds => Q (enumD 0 ds) p.2
end
section
variable {G : Gam}
theorem lci_eq {own : List (Str × Nat)} {i : Nat} {tg : Tgt} {tests : Tco} {elt : C} {ρ : Env} : evC G (.lci own i tg tests elt) ρ = (match ρ[i]? with
    | some (.ow (.dct ks ts0)) => match T.unfzs ts0 with
      | some ds => if ds.all flatD && ownOk ((kills i none ρ).set i .no) (own.map (·.2)) then
          match lcLoop (lcStep tg (evTo G tests) (evC G elt)) (own.map (·.2)) (wipeE ((kills i none ρ).set i .no) (own.map (·.2))) (itemsD ks ds) [] with
          | some (ts, ρ5) => if decide (ts.length ≤ sizeLine) then some (.t (.lst ts), (kills i none (restore ((kills i none ρ).set i .no) (own.map (·.2)) ρ5)).set i (.ow (.dct ks ts0))) else none
          | none => none
        else none
      | none => none
    | _ => none) := by
  rw [evC]
  rfl
theorem lc_eq {own : List (Str × Nat)} {tg : Tgt} {it : I} {tests : Tco} {elt : C} {ρ : Env} : evC G (.lc own tg it tests elt) ρ = (match evI G it ρ with
    | some (ds, ρ1) => if ownOk ρ1 (own.map (·.2)) then
        match lcLoop (lcStep tg (evTo G tests) (evC G elt)) (own.map (·.2)) (wipeE ρ1 (own.map (·.2))) ds [] with
        | some (ts, ρ5) => if decide (ts.length ≤ sizeLine) then some (.t (.lst ts), restore ρ1 (own.map (·.2)) ρ5) else none
        | none => none
      else none
    | none => none) := by
  rw [evC]
  rfl
set_option maxHeartbeats 20000000
mutual
theorem wC_ok : ∀ (c : C) {ρ : Env} {Q : Val → Env → Prop}, wC G c ρ Q → ∃ v ρ1, evC G c ρ = some (v, ρ1) ∧ Q v ρ1
  | .var i, ρ, Q, h => by
    simp only [wC] at h
    obtain ⟨v, e, q⟩ := oQ_ok h
    exact ⟨v, ρ, by simp only [evC, e]; rfl, q⟩
  | .mv i, ρ, Q, h => by
    simp only [wC] at h
    split at h
    · rename_i t e; exact ⟨_, _, by simp only [evC, e], h⟩
    · exact h.elim
  | .kst d, ρ, Q, h => ⟨.t (.fz d), ρ, by simp only [evC], by simpa only [wC] using h⟩
  | .gl g, ρ, Q, h => by
    simp only [wC] at h
    obtain ⟨v, e, q⟩ := oQ_ok h
    exact ⟨_, ρ, by simp only [evC, e]; rfl, q⟩
  | .fzv c, ρ, Q, h => by
    simp only [wC] at h
    obtain ⟨v, ρ1, e1, h⟩ := wC_ok c h
    obtain ⟨p, e2, q⟩ := oQ_ok h
    exact ⟨_, _, by simp only [evC, e1, e2]; rfl, q⟩
  | .tup es, ρ, Q, h => by
    simp only [wC] at h
    obtain ⟨v, ρ1, e1, h⟩ := wCs_ok es h
    obtain ⟨p, e2, q⟩ := oQ_ok h
    exact ⟨_, _, by simp only [evC, e1, e2]; rfl, q⟩
  | .list es, ρ, Q, h => by
    simp only [wC] at h
    obtain ⟨v, ρ1, e1, h⟩ := wCs_ok es h
    obtain ⟨p, e2, q⟩ := oQ_ok h
    exact ⟨_, _, by simp only [evC, e1, e2]; rfl, q⟩
  | .dict0, ρ, Q, h => ⟨.t (.dct [] []), ρ, by simp only [evC], by simpa only [wC] using h⟩
  | .bin op a b, ρ, Q, h => by
    simp only [wC] at h
    obtain ⟨va, ρ1, e1, h⟩ := wC_ok a h
    obtain ⟨vb, ρ2, e2, st, h⟩ := wC_ok b h
    obtain ⟨x, e3, h⟩ := oQ_ok h
    obtain ⟨y, e4, h⟩ := oQ_ok h
    obtain ⟨t, e5, q⟩ := wBin_ok h
    exact ⟨_, _, by simp only [evC, e1, e2, st, e3, e4, e5]; rfl, q⟩
  | .neg a, ρ, Q, h => by
    simp only [wC] at h
    obtain ⟨va, ρ1, e1, h⟩ := wC_ok a h
    obtain ⟨i, rfl, q⟩ := vInt_el h
    exact ⟨_, _, by simp only [evC, e1], q⟩
  | .notv a, ρ, Q, h => by
    simp only [wC] at h
    obtain ⟨va, ρ1, e1, h⟩ := wC_ok a h
    obtain ⟨i, rfl, q⟩ := vBool_el h
    exact ⟨_, _, by simp only [evC, e1], q⟩
  | .boolop op a b, ρ, Q, h => by
    simp only [wC] at h
    obtain ⟨va, ρ1, e1, h⟩ := wC_ok a h
    obtain ⟨k, rfl, h⟩ := vBool_el h
    by_cases hk : decide (op = .And) = k
    · obtain ⟨v, ρ2, e2, q⟩ := wC_ok b (h.1 hk.symm)
      exact ⟨v, ρ2, by simp only [evC, e1, if_pos hk, e2], q⟩
    · have hk' : k = !decide (op = .And) := by cases k <;> cases h' : decide (op = BoolOp.And) <;> simp_all
      refine ⟨_, _, by simp only [evC, e1, if_neg hk]; rfl, ?_⟩
      rw [hk']
      exact h.2 hk'
  | .cmp op a b, ρ, Q, h => by
    simp only [wC] at h
    obtain ⟨va, ρ1, e1, h⟩ := wC_ok a h
    obtain ⟨vb, ρ2, e2, st, h⟩ := wC_ok b h
    obtain ⟨x, e3, h⟩ := oQ_ok h
    obtain ⟨y, e4, h⟩ := oQ_ok h
    obtain ⟨t, e5, q⟩ := wCmp_ok h
    exact ⟨_, _, by simp only [evC, e1, e2, st, e3, e4, e5]; rfl, q⟩
  | .chain o1 o2 a b c, ρ, Q, h => by
    simp only [wC] at h
    obtain ⟨va, ρ1, e1, h⟩ := wC_ok a h
    obtain ⟨vb, ρ2, e2, h⟩ := wC_ok b h
    obtain ⟨x, ea, hA⟩ := vT_el h
    obtain ⟨y, eb, hB⟩ := vT_el hA
    subst ea eb
    obtain ⟨k, e3, h1, h2⟩ := wCmp_ok hB
    cases k with
    | false => exact ⟨_, _, by simp only [evC, e1, e2, e3], h1 rfl⟩
    | true =>
      obtain ⟨vc, ρ3, e4, hC⟩ := wC_ok c (h2 rfl)
      obtain ⟨z, ec, hD⟩ := vT_el hC
      subst ec
      obtain ⟨k, e5, q⟩ := wCmp_ok hD
      exact ⟨_, _, by simp only [evC, e1, e2, e3, e4, e5]; rfl, q⟩
  | .ite c a b, ρ, Q, h => by
    simp only [wC] at h
    obtain ⟨k, ρ1, e1, h1, h2⟩ := wT_ok c h
    cases k with
    | true =>
      obtain ⟨v, ρ2, e2, q⟩ := wC_ok a (h1 rfl)
      exact ⟨v, ρ2, by simp only [evC, e1, e2], q⟩
    | false =>
      obtain ⟨v, ρ2, e2, q⟩ := wC_ok b (h2 rfl)
      exact ⟨v, ρ2, by simp only [evC, e1, e2], q⟩
  | .ix a i, ρ, Q, h => by
    simp only [wC] at h
    obtain ⟨va, ρ1, e1, h⟩ := wC_ok a h
    obtain ⟨vi, ρ2, e2, h⟩ := wC_ok i h
    obtain ⟨vi, rfl, st, h⟩ := vT_el h
    obtain ⟨x, e3, h⟩ := oQ_ok h
    unfold wIx at h
    split at h
    · rename_i ks ts e4
      obtain ⟨d, e5, q⟩ := h
      exact ⟨_, _, by simp only [evC, e1, e2, st, e3, e4, e5]; rfl, q⟩
    · rename_i e4
      obtain ⟨v, e5, q⟩ := h
      exact ⟨_, _, by simp only [evC, e1, e2, st, e3, e4, e5]; rfl, q⟩
  | .sl a lo hi, ρ, Q, h => by
    simp only [wC] at h
    obtain ⟨va, ρ1, e1, h⟩ := wC_ok a h
    obtain ⟨l, ρ2, e2, h⟩ := wO_ok lo h
    obtain ⟨u, ρ3, e3, st, b1, b2, h⟩ := wO_ok hi h
    obtain ⟨x, e4, t, e5, q⟩ := oQ_ok h
    exact ⟨_, _, by simp only [evC, e1, e2, e3, st, b1, b2, e4, e5]; rfl, q⟩
  | .call k es, ρ, Q, h => by
    simp only [wC] at h
    obtain ⟨vs, ρ1, e1, h⟩ := wCs_ok es h
    obtain ⟨f, e2, h⟩ := oQ_ok h
    obtain ⟨t, ρ2, e3, q⟩ := wCall_ok h
    exact ⟨_, _, by simp only [evC, e1, e2, e3]; rfl, q⟩
  | .callk k perm es, ρ, Q, h => by
    simp only [wC] at h
    obtain ⟨vs, ρ1, e1, h⟩ := wCs_ok es h
    obtain ⟨f, e2, h⟩ := oQ_ok h
    obtain ⟨ws, e4, h⟩ := oQ_ok h
    obtain ⟨t, ρ2, e3, q⟩ := wCall_ok h
    exact ⟨_, _, by simp only [evC, e1, e2, e4, e3]; rfl, q⟩
  | .blt f es, ρ, Q, h => by
    simp only [wC] at h
    obtain ⟨vs, ρ1, e1, h⟩ := wCs_ok es h
    obtain ⟨ts, e2, h⟩ := oQ_ok h
    obtain ⟨t, e3, q⟩ := wBlt_ok h
    exact ⟨_, _, by simp only [evC, e1, e2, e3]; rfl, q⟩
  | .get2 o k d, ρ, Q, h => by
    simp only [wC] at h
    obtain ⟨va, ρ1, e1, h⟩ := wC_ok o h
    obtain ⟨vk, ρ2, e2, h⟩ := wC_ok k h
    obtain ⟨vd, ρ3, e3, h⟩ := wC_ok d h
    obtain ⟨key, ea, hA⟩ := vFz_el h
    obtain ⟨dft, eb, hB⟩ := vFz_el hA
    subst ea eb
    obtain ⟨st, hC⟩ := hB
    obtain ⟨⟨ks, ts⟩, e4, hD⟩ := oQ_ok hC
    obtain ⟨kk, e5, x, hE, q⟩ := oQ_ok hD
    rcases hE with hf | ⟨hf, rfl⟩
    · have hf : findK kk ks ts = some (.fz x) := hf
      exact ⟨_, _, by simp only [evC, e1, e2, e3, st, e4, e5, hf]; rfl, q⟩
    · have hf : findK kk ks ts = none := hf
      exact ⟨_, _, by simp only [evC, e1, e2, e3, st, e4, e5, hf]; rfl, q⟩
  | .get1 _ _, ρ, Q, h => by simp only [wC] at h
  | .rv a, ρ, Q, h => by
    simp only [wC] at h
    obtain ⟨va, ρ1, e1, h⟩ := wC_ok a h
    obtain ⟨x, e2, h⟩ := oQ_ok h
    obtain ⟨ds, e3, q⟩ := oQ_ok h
    exact ⟨_, _, by simp only [evC, e1, e2, e3]; rfl, q⟩
  | .lrg1 a, ρ, Q, h => by
    simp only [wC] at h
    obtain ⟨v, ρ1, e1, h⟩ := wC_ok a h
    obtain ⟨i, ea, h2⟩ := vInt_el h
    subst ea
    exact ⟨_, _, by simp only [evC, e1, h2.1]; rfl, h2.2⟩
  | .lrg2 a b, ρ, Q, h => by
    simp only [wC] at h
    obtain ⟨v, ρ1, e1, h⟩ := wC_ok a h
    obtain ⟨w, ρ2, e2, h⟩ := wC_ok b h
    obtain ⟨i, ea, h2⟩ := vInt_el h
    obtain ⟨j, eb, h3⟩ := vInt_el h2
    subst ea eb
    exact ⟨_, _, by simp only [evC, e1, e2, h3.1]; rfl, h3.2⟩
  | .cnt o k, ρ, Q, h => by
    simp only [wC] at h
    obtain ⟨va, ρ1, e1, h⟩ := wC_ok o h
    obtain ⟨vk, ρ2, e2, h⟩ := wC_ok k h
    obtain ⟨i, ea, h2⟩ := vInt_el h
    subst ea
    obtain ⟨ns, e3, q⟩ := oQ_ok h2.2
    exact ⟨_, _, by simp only [evC, e1, e2, h2.1, e3]; rfl, q⟩
  | .idx o k, ρ, Q, h => by
    simp only [wC] at h
    obtain ⟨va, ρ1, e1, h⟩ := wC_ok o h
    obtain ⟨vk, ρ2, e2, h⟩ := wC_ok k h
    obtain ⟨d, ea, h2⟩ := vFz_el h
    subst ea
    obtain ⟨ds, e3, h3⟩ := oQ_ok h2.2
    obtain ⟨j, e4, q⟩ := oQ_ok h3.2
    exact ⟨_, _, by simp only [evC, e1, e2, h2.1, e3, h3.1, e4]; rfl, q⟩
  | .lc own tg it tests elt, ρ, Q, h => by
    simp only [wC] at h
    obtain ⟨ds, ρ1, e1, ho, ⟨ts, ρ5, e2, hz, q⟩⟩ := wI_ok it h
    refine ⟨_, _, ?_, q⟩
    rw [lc_eq, e1]
    simp only [ho, if_true]
    rw [e2]
    simp only [decide_eq_true hz, if_true]
  | .lci own i tg tests elt, ρ, Q, h => by
    simp only [wC] at h
    obtain ⟨ks, ts0, ds, e1, e2, e3, ho, ⟨ts, ρ5, e4, hz, q⟩⟩ := h
    refine ⟨_, _, ?_, q⟩
    rw [lci_eq, e1]
    simp only [e2, e3, ho, Bool.and_self, if_true]
    rw [e4]
    simp only [decide_eq_true hz, if_true]
theorem wCs_ok : ∀ (c : Cs) {ρ : Env} {Q : List Val → Env → Prop}, wCs G c ρ Q → ∃ v ρ1, evs G c ρ = some (v, ρ1) ∧ Q v ρ1
  | .nil, ρ, Q, h => ⟨[], ρ, by simp only [evs], by simpa only [wCs] using h⟩
  | .cons c cs, ρ, Q, h => by
    simp only [wCs] at h
    obtain ⟨v, ρ1, e1, h⟩ := wC_ok c h
    obtain ⟨vs, ρ2, e2, st, q⟩ := wCs_ok cs h
    exact ⟨_, _, by simp only [evs, e1, e2, st]; rfl, q⟩
theorem wO_ok : ∀ (c : Co) {ρ : Env} {Q : Option Int → Env → Prop}, wO G c ρ Q → ∃ v ρ1, evO G c ρ = some (v, ρ1) ∧ Q v ρ1
  | .none, ρ, Q, h => ⟨none, ρ, by simp only [evO], by simpa only [wO] using h⟩
  | .some c, ρ, Q, h => by
    simp only [wO] at h
    obtain ⟨v, ρ1, e1, h⟩ := wC_ok c h
    obtain ⟨i, rfl, q⟩ := vInt_el h
    exact ⟨_, _, by simp only [evO, e1], q⟩
theorem wT_ok : ∀ (c : Tc) {ρ : Env} {Q : Bool → Env → Prop}, wT G c ρ Q → ∃ v ρ1, evT G c ρ = some (v, ρ1) ∧ Q v ρ1
  | .not a, ρ, Q, h => by
    simp only [wT] at h
    obtain ⟨v, ρ1, e1, q⟩ := wT_ok a h
    exact ⟨_, _, by simp only [evT, e1]; rfl, q⟩
  | .bool op ts, ρ, Q, h => by
    simp only [wT] at h
    obtain ⟨v, ρ1, e1, q⟩ := wB_ok ts h
    exact ⟨_, _, by simp only [evT, e1], q⟩
  | .cmp op a b, ρ, Q, h => by
    simp only [wT] at h
    obtain ⟨va, ρ1, e1, h⟩ := wC_ok a h
    obtain ⟨vb, ρ2, e2, st, h⟩ := wC_ok b h
    obtain ⟨x, e3, h⟩ := oQ_ok h
    obtain ⟨y, e4, h⟩ := oQ_ok h
    obtain ⟨t, e5, q⟩ := wCmp_ok h
    exact ⟨_, _, by simp only [evT, e1, e2, st, e3, e4, e5]; rfl, q⟩
  | .chain o1 o2 a b c, ρ, Q, h => by
    simp only [wT] at h
    obtain ⟨va, ρ1, e1, h⟩ := wC_ok a h
    obtain ⟨vb, ρ2, e2, h⟩ := wC_ok b h
    obtain ⟨x, ea, hA⟩ := vT_el h
    obtain ⟨y, eb, hB⟩ := vT_el hA
    subst ea eb
    obtain ⟨k, e3, h1, h2⟩ := wCmp_ok hB
    cases k with
    | false => exact ⟨_, _, by simp only [evT, e1, e2, e3], h1 rfl⟩
    | true =>
      obtain ⟨vc, ρ3, e4, hC⟩ := wC_ok c (h2 rfl)
      obtain ⟨z, ec, hD⟩ := vT_el hC
      subst ec
      obtain ⟨k, e5, q⟩ := wCmp_ok hD
      exact ⟨_, _, by simp only [evT, e1, e2, e3, e4, e5]; rfl, q⟩
  | .val c, ρ, Q, h => by
    simp only [wT] at h
    obtain ⟨v, ρ1, e1, h⟩ := wC_ok c h
    obtain ⟨t, e2, h⟩ := oQ_ok h
    obtain ⟨b, e3, q⟩ := oQ_ok h
    exact ⟨_, _, by simp only [evT, e1, e2, e3]; rfl, q⟩
theorem wB_ok {op : BoolOp} : ∀ (c : Tcs) {ρ : Env} {Q : Bool → Env → Prop}, wB G op c ρ Q → ∃ v ρ1, evB G op c ρ = some (v, ρ1) ∧ Q v ρ1
  | .one t, ρ, Q, h => by
    simp only [wB] at h
    obtain ⟨v, ρ1, e1, q⟩ := wT_ok t h
    exact ⟨_, _, by simp only [evB, e1], q⟩
  | .cons t ts, ρ, Q, h => by
    simp only [wB] at h
    obtain ⟨k, ρ1, e1, h1, h2⟩ := wT_ok t h
    by_cases hk : decide (op = .And) = k
    · obtain ⟨v, ρ2, e2, q⟩ := wB_ok ts (h1 hk.symm)
      exact ⟨v, ρ2, by simp only [evB, e1, if_pos hk, e2], q⟩
    · have hk' : k = !decide (op = .And) := by cases k <;> cases h' : decide (op = BoolOp.And) <;> simp_all
      refine ⟨_, _, by simp only [evB, e1, if_neg hk]; rfl, ?_⟩
      rw [hk']
      exact h2 hk'
theorem wI_ok : ∀ (c : I) {ρ : Env} {Q : List D → Env → Prop}, wI G c ρ Q → ∃ v ρ1, evI G c ρ = some (v, ρ1) ∧ Q v ρ1
  | .seq c, ρ, Q, h => by
    simp only [wI] at h
    obtain ⟨v, ρ1, e1, h⟩ := wC_ok c h
    obtain ⟨p, e2, h⟩ := oQ_ok h
    obtain ⟨ds, e3, q⟩ := dSeq_el h
    rcases e3 with e3 | e3
    · exact ⟨_, _, by simp only [evI, e1, e2, e3], q⟩
    · exact ⟨_, _, by simp only [evI, e1, e2, e3], q⟩
  | .brw c, ρ, Q, h => by
    simp only [wI] at h
    obtain ⟨v, ρ1, e1, h⟩ := wC_ok c h
    obtain ⟨t, e2, ds, e3, q⟩ := oQ_ok h
    exact ⟨_, _, by simp only [evI, e1, e2, e3]; rfl, q⟩
  | .rng1 a, ρ, Q, h => by
    simp only [wI] at h
    obtain ⟨v, ρ1, e1, h⟩ := wC_ok a h
    obtain ⟨i, rfl, h⟩ := vInt_el h
    exact ⟨_, _, by simp only [evI, e1, h.1]; rfl, h.2⟩
  | .rng2 a b, ρ, Q, h => by
    simp only [wI] at h
    obtain ⟨v, ρ1, e1, h⟩ := wC_ok a h
    obtain ⟨w, ρ2, e2, h⟩ := wC_ok b h
    obtain ⟨i, ea, hA⟩ := vInt_el h
    obtain ⟨j, eb, hB⟩ := vInt_el hA
    subst ea eb
    exact ⟨_, _, by simp only [evI, e1, e2, hB.1, hB.2.1]; rfl, hB.2.2⟩
  | .enum c, ρ, Q, h => by
    simp only [wI] at h
    obtain ⟨v, ρ1, e1, h⟩ := wC_ok c h
    obtain ⟨p, e2, h⟩ := oQ_ok h
    obtain ⟨ds, e3, q⟩ := dList_el h
    exact ⟨_, _, by simp only [evI, e1, e2, e3], q⟩
end
/-! ### statements -/
mutual
def wS (G : Gam) : S → Env → (Out → Prop) → Prop
  | .set i c, ρ, Q => wC G c ρ fun v ρ1 => oQ (bindS ρ1 i v) fun ρ2 => Q (.nx ρ2)
  | .setT is c, ρ, Q => wC G c ρ fun v ρ1 => vTup v fun ts => oQ (bindTs ρ1 is ts) fun ρ2 => Q (.nx ρ2)
  | .setL is c, ρ, Q => wC G c ρ fun v ρ1 => vT v fun t => oQ t.flat fun ds => oQ (bindTs ρ1 is (fzs ds)) fun ρ2 => Q (.nx ρ2)
  | .par is es, ρ, Q => wCs G es ρ fun vs ρ1 => parOk is vs = true ∧ oQ (bindVs ρ1 is vs) fun ρ2 => Q (.nx ρ2)
  | .sto b i c, ρ, Q => wC G c ρ fun vc ρ1 => oQ (fzVal ρ1 vc) fun p => wC G b p.2 fun vb ρ3 => wC G i ρ3 fun vi ρ4 => vPt vb fun j k => vT vi fun vi => stands (.pt j k) i.wr = true ∧ oQ (getPt ρ4 j k) fun x => ∃ y, setIx x vi p.1 = some y ∧ oQ (setPt (kIx ρ4 j k x vi) j k y) fun ρ5 => Q (.nx ρ5)
  | .aug i op c, ρ, Q => oQ (rdName ρ i) fun vx => wC G c ρ fun vy ρ1 => vT vx fun x => vT vy fun y => ∃ t, augT op x y = some t ∧ oQ (bindS ρ1 i (.t t)) fun ρ2 => Q (.nx ρ2)
  | .app b c, ρ, Q => wC G b ρ fun vb ρ1 => vPt vb fun j k => (∃ ts, getPt ρ1 j k = some (.lst ts)) ∧ wC G c ρ1 fun v ρ2 => oQ (fzVal ρ2 v) fun p => stands (.pt j k) c.wr = true ∧ oQ (getPt p.2 j k) fun x => ∃ y, appT x p.1 = some y ∧ oQ (setPt p.2 j k y) fun ρ4 => Q (.nx ρ4)
  | .exp c, ρ, Q => wC G c ρ fun _ ρ1 => Q (.nx ρ1)
  | .ret c, ρ, Q => wC G c ρ fun v ρ1 => oQ (fzVal ρ1 v) fun p => Q (.rt p.1 p.2)
  | .retN, ρ, Q => Q (.rt (.fz .none) ρ)
  | .ite c a b, ρ, Q => wT G c ρ fun k ρ1 => (k = true → wSs G a ρ1 Q) ∧ (k = false → wSs G b ρ1 Q)
  | .for tg it b, ρ, Q => wI G it ρ fun ds ρ1 => LoopF (fun ρ d => (bindD ρ tg d).bind fun ρ2 => evSs G b ρ2) ρ1 ds Q
  | .while n c b, ρ, Q => LoopW (evT G c) (evSs G b) n ρ Q
  | .pass, ρ, Q => Q (.nx ρ)
  | .cont, ρ, Q => Q (.ct ρ)
  | .brk, ρ, Q => Q (.bk ρ)
  | .stuck, _, _ => False
def wSs (G : Gam) : Ss → Env → (Out → Prop) → Prop
  | .nil, ρ, Q => Q (.nx ρ)
  | .cons s ss, ρ, Q => wS G s ρ (seqK (wSs G ss) Q)
end
mutual
theorem wS_ok : ∀ (s : S) {ρ : Env} {Q : Out → Prop}, wS G s ρ Q → ∃ o, evS G s ρ = some o ∧ Q o
  | .set i c, ρ, Q, h => by
    simp only [wS] at h
    obtain ⟨v, ρ1, e1, h⟩ := wC_ok c h
    obtain ⟨ρ2, e2, q⟩ := oQ_ok h
    exact ⟨_, by simp only [evS, e1, e2]; rfl, q⟩
  | .setL is c, ρ, Q, h => by
    simp only [wS] at h
    obtain ⟨v, ρ1, e1, h⟩ := wC_ok c h
    obtain ⟨t, ea, h⟩ := vT_el h
    subst ea
    obtain ⟨ds, e2, h⟩ := oQ_ok h
    obtain ⟨ρ2, e3, q⟩ := oQ_ok h
    exact ⟨_, by simp only [evS, e1, e2, e3]; rfl, q⟩
  | .setT is c, ρ, Q, h => by
    simp only [wS] at h
    obtain ⟨v, ρ1, e1, h⟩ := wC_ok c h
    rcases vTup_el h with ⟨ds, rfl, h⟩ | ⟨ts, rfl, h⟩
    · obtain ⟨ρ2, e2, q⟩ := oQ_ok h
      exact ⟨_, by simp only [evS, e1, e2]; rfl, q⟩
    · obtain ⟨ρ2, e2, q⟩ := oQ_ok h
      exact ⟨_, by simp only [evS, e1, e2]; rfl, q⟩
  | .par is es, ρ, Q, h => by
    simp only [wS] at h
    obtain ⟨vs, ρ1, e1, hp, h⟩ := wCs_ok es h
    obtain ⟨ρ2, e2, q⟩ := oQ_ok h
    exact ⟨_, by simp only [evS, e1, hp, e2]; rfl, q⟩
  | .sto b i c, ρ, Q, h => by
    simp only [wS] at h
    obtain ⟨vc, ρ1, e1, h⟩ := wC_ok c h
    obtain ⟨⟨t, ρ2⟩, e2, h⟩ := oQ_ok h
    obtain ⟨vb, ρ3, e3, h⟩ := wC_ok b h
    obtain ⟨vi, ρ4, e4, h⟩ := wC_ok i h
    obtain ⟨j, k, ea, hA⟩ := vPt_el h
    obtain ⟨vi, eb, st, hB⟩ := vT_el hA
    subst ea eb
    obtain ⟨x, e5, y, e6, hC⟩ := oQ_ok hB
    obtain ⟨ρ5, e7, q⟩ := oQ_ok hC
    exact ⟨_, by simp only [evS, e1, e2, e3, e4, st, e5, e6, e7]; rfl, q⟩
  | .aug i op c, ρ, Q, h => by
    simp only [wS] at h
    obtain ⟨vx, e1, h⟩ := oQ_ok h
    obtain ⟨vy, ρ1, e2, h⟩ := wC_ok c h
    obtain ⟨x, ea, hA⟩ := vT_el h
    obtain ⟨y, eb, t, e3, hB⟩ := vT_el hA
    subst ea eb
    obtain ⟨ρ2, e4, q⟩ := oQ_ok hB
    exact ⟨_, by simp only [evS, e1, e2, e3, e4]; rfl, q⟩
  | .app b c, ρ, Q, h => by
    simp only [wS] at h
    obtain ⟨vb, ρ1, e1, h⟩ := wC_ok b h
    obtain ⟨j, k, rfl, h⟩ := vPt_el h
    obtain ⟨⟨ts, e2⟩, h⟩ := h
    obtain ⟨v, ρ2, e3, h⟩ := wC_ok c h
    obtain ⟨⟨t, ρ3⟩, e4, st, h⟩ := oQ_ok h
    obtain ⟨x, e5, y, e6, h⟩ := oQ_ok h
    obtain ⟨ρ4, e7, q⟩ := oQ_ok h
    exact ⟨_, by simp only [evS, e1, e2, e3, e4, st, e5, e6, e7]; rfl, q⟩
  | .exp c, ρ, Q, h => by
    simp only [wS] at h
    obtain ⟨v, ρ1, e1, q⟩ := wC_ok c h
    exact ⟨_, by simp only [evS, e1]; rfl, q⟩
  | .ret c, ρ, Q, h => by
    simp only [wS] at h
    obtain ⟨v, ρ1, e1, h⟩ := wC_ok c h
    obtain ⟨p, e2, q⟩ := oQ_ok h
    exact ⟨_, by simp only [evS, e1, e2]; rfl, q⟩
  | .retN, ρ, Q, h => ⟨_, by simp only [evS]; rfl, by simpa only [wS] using h⟩
  | .ite c a b, ρ, Q, h => by
    simp only [wS] at h
    obtain ⟨k, ρ1, e1, h1, h2⟩ := wT_ok c h
    cases k with
    | true =>
      obtain ⟨o, e2, q⟩ := wSs_ok a (h1 rfl)
      exact ⟨o, by simp only [evS, e1, e2], q⟩
    | false =>
      obtain ⟨o, e2, q⟩ := wSs_ok b (h2 rfl)
      exact ⟨o, by simp only [evS, e1, e2], q⟩
  | .for tg it b, ρ, Q, h => by
    simp only [wS] at h
    obtain ⟨ds, ρ1, e1, ⟨o, e2, q⟩⟩ := wI_ok it h
    exact ⟨o, by simp only [evS, e1]; exact e2, q⟩
  | .while n c b, ρ, Q, h => by
    simp only [wS] at h
    obtain ⟨o, e2, q⟩ := h.h
    exact ⟨o, by simp only [evS]; exact e2, q⟩
  | .pass, ρ, Q, h => ⟨_, by simp only [evS]; rfl, by simpa only [wS] using h⟩
  | .cont, ρ, Q, h => ⟨_, by simp only [evS]; rfl, by simpa only [wS] using h⟩
  | .brk, ρ, Q, h => ⟨_, by simp only [evS]; rfl, by simpa only [wS] using h⟩
  | .stuck, ρ, Q, h => by simp only [wS] at h
theorem wSs_ok : ∀ (s : Ss) {ρ : Env} {Q : Out → Prop}, wSs G s ρ Q → ∃ o, evSs G s ρ = some o ∧ Q o
  | .nil, ρ, Q, h => ⟨_, by simp only [evSs]; rfl, by simpa only [wSs] using h⟩
  | .cons s ss, ρ, Q, h => by
    simp only [wSs] at h
    obtain ⟨o, e1, h⟩ := wS_ok s h
    cases o with
    | nx ρ1 =>
      obtain ⟨o, e2, q⟩ := wSs_ok ss (fE_el ρ1 h)
      exact ⟨o, by simp only [evSs, e1]; exact e2, q⟩
    | rt t ρ1 => exact ⟨_, by simp only [evSs, e1], h⟩
    | bk ρ1 => exact ⟨_, by simp only [evSs, e1], h⟩
    | ct ρ1 => exact ⟨_, by simp only [evSs, e1], h⟩
end
/-- a def's run, by its body's precondition -/
theorem run_of {io : List Bool} {n : Nat} {body : Ss} {ts : List T} {R : T → List T → Prop} (hl : ts.length = io.length)
    (h : fE (start0 io ts ++ List.replicate (n - ts.length) .no) fun ρ0 => wSs G body ρ0 fun o => match o with
      | .rt t ρ => oQ (ioOuts ρ io 0) fun os => R t os
      | .nx ρ => oQ (ioOuts ρ io 0) fun os => R (.fz .none) os
      | _ => False) : ∃ t os, runDef G io n body ts = some (t, os) ∧ R t os := by
  obtain ⟨o, e, q⟩ := wSs_ok body (fE_el _ h)
  unfold runDef
  rw [if_pos hl, e]
  cases o with
  | rt t ρ => obtain ⟨os, e2, q⟩ := oQ_ok q; exact ⟨t, os, by simp only [e2]; rfl, q⟩
  | nx ρ => obtain ⟨os, e2, q⟩ := oQ_ok q; exact ⟨_, os, by simp only [e2]; rfl, q⟩
  | bk ρ => exact q.elim
  | ct ρ => exact q.elim
/-- a for, by an invariant -/
theorem for_inv {f : Env → Mv.D → Option Out} {ds : List Mv.D} {Q : Out → Prop} (Inv : Nat → Env → Prop) {ρ : Env} (h0 : Inv 0 ρ)
    (hs : ∀ (i : Nat) (d : Mv.D) (ρ : Env), ds[i]? = some d → Inv i ρ → ∃ o, f ρ d = some o ∧ match o with
      | .nx ρ' => Inv (i + 1) ρ'
      | .ct ρ' => Inv (i + 1) ρ'
      | .bk ρ' => Q (.nx ρ')
      | .rt t ρ' => Q (.rt t ρ'))
    (hd : ∀ ρ, Inv ds.length ρ → Q (.nx ρ)) : LoopF f ρ ds Q := by
  constructor
  have go : ∀ (k i : Nat) (ρ : Env), ds.length - i = k → i ≤ ds.length → Inv i ρ → ∃ o, forLoop f ρ (ds.drop i) = some o ∧ Q o := by
    intro k
    induction k with
    | zero =>
      intro i ρ hk hi hv
      have : i = ds.length := by omega
      subst this
      rw [List.drop_length]
      exact ⟨_, rfl, hd ρ hv⟩
    | succ k ih =>
      intro i ρ hk hi hv
      have hl : i < ds.length := by omega
      rw [List.drop_eq_getElem_cons hl]
      obtain ⟨o, e, q⟩ := hs i ds[i] ρ (List.getElem?_eq_getElem hl) hv
      unfold forLoop
      rw [e]
      cases o with
      | nx ρ' => exact ih (i + 1) ρ' (by omega) hl q
      | ct ρ' => exact ih (i + 1) ρ' (by omega) hl q
      | bk ρ' => exact ⟨_, rfl, q⟩
      | rt t ρ' => exact ⟨_, rfl, q⟩
  exact go _ 0 ρ rfl (Nat.zero_le _) h0
/-- the step of a for over a body -/
theorem for_step {tg : Tgt} {b : Ss} {ρ : Env} {d : Mv.D} {Q : Out → Prop} (h : oQ (bindD ρ tg d) fun ρ2 => fE ρ2 fun ρ2 => wSs G b ρ2 Q) : ∃ o, ((bindD ρ tg d).bind fun ρ2 => evSs G b ρ2) = some o ∧ Q o := by
  obtain ⟨ρ2, e, h⟩ := oQ_ok h
  obtain ⟨o, e2, q⟩ := wSs_ok b (fE_el ρ2 h)
  exact ⟨o, by rw [e]; exact e2, q⟩
/-- a while, by an invariant with a measure -/
theorem wh_inv {c : Tc} {b : Ss} {Q : Out → Prop} (Inv : Nat → Env → Prop) {n : Nat} {ρ : Env} (m : Nat) (hm : m < n) (h0 : Inv m ρ)
    (hs : ∀ (m : Nat) (ρ : Env), Inv m ρ → wT G c ρ fun k ρ1 => (k = true → wSs G b ρ1 fun o => match o with
      | .nx ρ' => ∃ m', m' < m ∧ Inv m' ρ'
      | .ct ρ' => ∃ m', m' < m ∧ Inv m' ρ'
      | .bk ρ' => Q (.nx ρ')
      | .rt t ρ' => Q (.rt t ρ')) ∧ (k = false → Q (.nx ρ1))) : LoopW (evT G c) (evSs G b) n ρ Q := by
  constructor
  induction n generalizing m ρ with
  | zero => omega
  | succ n ih =>
    obtain ⟨k, ρ1, e1, h1, h2⟩ := wT_ok c (hs m ρ h0)
    unfold whLoop
    rw [e1]
    cases k with
    | false => exact ⟨_, rfl, h2 rfl⟩
    | true =>
      obtain ⟨o, e2, q⟩ := wSs_ok b (h1 rfl)
      simp only [e2]
      cases o with
      | nx ρ' => obtain ⟨m', hm', q⟩ := q; exact ih m' (by omega) q
      | ct ρ' => obtain ⟨m', hm', q⟩ := q; exact ih m' (by omega) q
      | bk ρ' => exact ⟨_, rfl, q⟩
      | rt t ρ' => exact ⟨_, rfl, q⟩
/-- a comprehension, by an invariant on what is made so far -/
theorem lc_inv {f : Env → Mv.D → Option (Option T × Env)} {own : List Nat} {ds : List Mv.D} {Q : List T → Env → Prop} (Inv : Nat → List T → Env → Prop) {ρ : Env} (h0 : Inv 0 [] ρ)
    (hs : ∀ (i : Nat) (d : Mv.D) (acc : List T) (ρ : Env), ds[i]? = some d → Inv i acc ρ → ∃ o ρ1, f ρ d = some (o, ρ1) ∧ Inv (i + 1) (match o with | some t => acc ++ [t] | none => acc) (wipeE ρ1 own))
    (hd : ∀ acc ρ, Inv ds.length acc ρ → Q acc ρ) : LoopC f own ρ ds Q := by
  constructor
  have go : ∀ (k i : Nat) (acc : List T) (ρ : Env), ds.length - i = k → i ≤ ds.length → Inv i acc ρ → ∃ ts ρ5, lcLoop f own ρ (ds.drop i) acc = some (ts, ρ5) ∧ Q ts ρ5 := by
    intro k
    induction k with
    | zero =>
      intro i acc ρ hk hi hv
      have : i = ds.length := by omega
      subst this
      rw [List.drop_length]
      exact ⟨_, _, rfl, hd acc ρ hv⟩
    | succ k ih =>
      intro i acc ρ hk hi hv
      have hl : i < ds.length := by omega
      rw [List.drop_eq_getElem_cons hl]
      obtain ⟨o, ρ1, e, q⟩ := hs i ds[i] acc ρ (List.getElem?_eq_getElem hl) hv
      unfold lcLoop
      rw [e]
      cases o with
      | none => exact ih (i + 1) acc _ (by omega) hl q
      | some t => exact ih (i + 1) _ _ (by omega) hl q
  exact go _ 0 [] ρ rfl (Nat.zero_le _) h0
theorem lc_step {tg : Tgt} {tests : Tco} {elt : C} {ρ : Env} {d : Mv.D} {Q : Option T → Env → Prop} (h : oQ (bindD ρ tg d) fun ρ2 => fE ρ2 fun ρ2 => match tests with
      | .none => wC G elt ρ2 fun v ρ3 => oQ (fzVal ρ3 v) fun p => Q (some p.1) p.2
      | .some t => wT G t ρ2 fun k ρ3 => (k = true → wC G elt ρ3 fun v ρ4 => oQ (fzVal ρ4 v) fun p => Q (some p.1) p.2) ∧ (k = false → Q none ρ3)) :
    ∃ o ρ1, lcStep tg (evTo G tests) (evC G elt) ρ d = some (o, ρ1) ∧ Q o ρ1 := by
  obtain ⟨ρ2, e1, h⟩ := oQ_ok h
  have h := fE_el ρ2 h
  cases tests with
  | none =>
    obtain ⟨v, ρ3, e2, h⟩ := wC_ok elt h
    obtain ⟨p, e3, q⟩ := oQ_ok h
    exact ⟨_, _, by simp only [lcStep, e1, Option.bind_some, evTo, e2, e3]; rfl, q⟩
  | some t =>
    obtain ⟨k, ρ3, e2, h1, h2⟩ := wT_ok t h
    cases k with
    | true =>
      obtain ⟨v, ρ4, e3, h⟩ := wC_ok elt (h1 rfl)
      obtain ⟨p, e4, q⟩ := oQ_ok h
      exact ⟨_, _, by simp only [lcStep, e1, Option.bind_some, evTo, e2, e3, e4]; rfl, q⟩
    | false => exact ⟨_, _, by simp only [lcStep, e1, Option.bind_some, evTo, e2], h2 rfl⟩
/-! ### the rules -/
theorem w_var {ρ : Env} {Q : Val → Env → Prop} {i : Nat} (h : oQ (rdName ρ i) fun v => Q v ρ) : wC G (.var i) ρ Q := by simpa only [wC] using h
theorem w_mv {ρ : Env} {Q : Val → Env → Prop} {i : Nat} (h : match ρ[i]? with
    | some (.ow t) => Q (.t t) ((kills i .none ρ).set i .no)
    | _ => False) : wC G (.mv i) ρ Q := by simpa only [wC] using h
theorem w_kst {ρ : Env} {Q : Val → Env → Prop} {d : D} (h : Q (.t (.fz d)) ρ) : wC G (.kst d) ρ Q := by simpa only [wC] using h
theorem w_gl {ρ : Env} {Q : Val → Env → Prop} {g : Nat} (h : oQ G.gls[g]? fun d => Q (.t (.fz d)) ρ) : wC G (.gl g) ρ Q := by simpa only [wC] using h
theorem w_fzv {ρ : Env} {Q : Val → Env → Prop} {c : C} (h : wC G c ρ fun v ρ1 => oQ (fzVal ρ1 v) fun p => Q (.t (.fz p.1.toD)) p.2) : wC G (.fzv c) ρ Q := by simpa only [wC] using h
theorem w_tup {ρ : Env} {Q : Val → Env → Prop} {es : Cs} (h : wCs G es ρ fun vs ρ1 => oQ (fzVals ρ1 vs) fun p => Q (.t (mkTup p.1)) p.2) : wC G (.tup es) ρ Q := by simpa only [wC] using h
theorem w_list {ρ : Env} {Q : Val → Env → Prop} {es : Cs} (h : wCs G es ρ fun vs ρ1 => oQ (fzVals ρ1 vs) fun p => Q (.t (.lst p.1)) p.2) : wC G (.list es) ρ Q := by simpa only [wC] using h
theorem w_dict0 {ρ : Env} {Q : Val → Env → Prop}  (h : Q (.t (.dct [] [])) ρ) : wC G (.dict0) ρ Q := by simpa only [wC] using h
theorem w_bin {ρ : Env} {Q : Val → Env → Prop} {op : Operator} {a b : C} (h : wC G a ρ fun va ρ1 => wC G b ρ1 fun vb ρ2 => stands va b.wr = true ∧ oQ (resolve ρ2 va) fun x => oQ (resolve ρ2 vb) fun y => wBin op x y fun t => Q (.t t) ρ2) : wC G (.bin op a b) ρ Q := by simpa only [wC] using h
theorem w_neg {ρ : Env} {Q : Val → Env → Prop} {a : C} (h : wC G a ρ fun v ρ1 => vInt v fun i => Q (.t (.fz (.int (-i)))) ρ1) : wC G (.neg a) ρ Q := by simpa only [wC] using h
theorem w_notv {ρ : Env} {Q : Val → Env → Prop} {a : C} (h : wC G a ρ fun v ρ1 => vBool v fun b => Q (.t (.fz (.bool (!b)))) ρ1) : wC G (.notv a) ρ Q := by simpa only [wC] using h
theorem w_boolop {ρ : Env} {Q : Val → Env → Prop} {op : BoolOp} {a b : C} (h : wC G a ρ fun v ρ1 => vBool v fun k => (k = decide (op = .And) → wC G b ρ1 Q) ∧ (k = !decide (op = .And) → Q (.t (.fz (.bool (!decide (op = .And))))) ρ1)) : wC G (.boolop op a b) ρ Q := by simpa only [wC] using h
theorem w_cmp {ρ : Env} {Q : Val → Env → Prop} {op : CmpOp} {a b : C} (h : wC G a ρ fun va ρ1 => wC G b ρ1 fun vb ρ2 => stands va b.wr = true ∧ oQ (resolve ρ2 va) fun x => oQ (resolve ρ2 vb) fun y => wCmp op x y fun k => Q (.t (.fz (.bool k))) ρ2) : wC G (.cmp op a b) ρ Q := by simpa only [wC] using h
theorem w_chain {ρ : Env} {Q : Val → Env → Prop} {o1 o2 : CmpOp} {a b c : C} (h : wC G a ρ fun va ρ1 => wC G b ρ1 fun vb ρ2 => vT va fun x => vT vb fun y => wCmp o1 x y fun k => (k = false → Q (.t (.fz (.bool false))) ρ2) ∧ (k = true → wC G c ρ2 fun vc ρ3 => vT vc fun z => wCmp o2 y z fun k => Q (.t (.fz (.bool k))) ρ3)) : wC G (.chain o1 o2 a b c) ρ Q := by simpa only [wC] using h
theorem w_ite {ρ : Env} {Q : Val → Env → Prop} {c : Tc} {a b : C} (h : wT G c ρ fun k ρ1 => (k = true → wC G a ρ1 Q) ∧ (k = false → wC G b ρ1 Q)) : wC G (.ite c a b) ρ Q := by simpa only [wC] using h
theorem w_ix {ρ : Env} {Q : Val → Env → Prop} {a i : C} (h : wC G a ρ fun va ρ1 => wC G i ρ1 fun vi ρ2 => vT vi fun vi => stands va i.wr = true ∧ oQ (resolve ρ2 va) fun x => wIx ρ2 va x vi fun v => Q v ρ2) : wC G (.ix a i) ρ Q := by simpa only [wC] using h
theorem w_sl {ρ : Env} {Q : Val → Env → Prop} {a : C} {lo hi : Co} (h : wC G a ρ fun va ρ1 => wO G lo ρ1 fun l ρ2 => wO G hi ρ2 fun h ρ3 => stands va (lo.wr || hi.wr) = true ∧ okB l = true ∧ okB h = true ∧ oQ (resolve ρ3 va) fun x => ∃ t, slT x l h = some t ∧ Q (.t t) ρ3) : wC G (.sl a lo hi) ρ Q := by simpa only [wC] using h
theorem w_call {ρ : Env} {Q : Val → Env → Prop} {k : Nat} {es : Cs} (h : wCs G es ρ fun vs ρ1 => oQ G.fns[k]? fun f => wCall f ρ1 vs fun t ρ2 => Q (.t t) ρ2) : wC G (.call k es) ρ Q := by simpa only [wC] using h
theorem w_callk {ρ : Env} {Q : Val → Env → Prop} {k : Nat} {perm : List Nat} {es : Cs} (h : wCs G es ρ fun vs ρ1 => oQ G.fns[k]? fun f => oQ (permV perm vs) fun ws => wCall f ρ1 ws fun t ρ2 => Q (.t t) ρ2) : wC G (.callk k perm es) ρ Q := by simpa only [wC] using h
theorem w_blt {ρ : Env} {Q : Val → Env → Prop} {f : Blt} {es : Cs} (h : wCs G es ρ fun vs ρ1 => oQ (resolves ρ1 vs) fun ts => wBlt f ts fun t => Q (.t t) ρ1) : wC G (.blt f es) ρ Q := by simpa only [wC] using h
theorem w_get2 {ρ : Env} {Q : Val → Env → Prop} {o k d : C} (h : wC G o ρ fun va ρ1 => wC G k ρ1 fun vk ρ2 => wC G d ρ2 fun vd ρ3 => vFz vk fun key => vFz vd fun dft => (stands va (k.wr || d.wr) && ((resolve ρ1 va).bind dictOf).isSome) = true ∧ oQ ((resolve ρ3 va).bind dictOf) fun p => oQ (keyOf key) fun kk => ∃ x, ((findK kk p.1 p.2 = some (.fz x)) ∨ (findK kk p.1 p.2 = none ∧ x = dft)) ∧ Q (.t (.fz x)) ρ3) : wC G (.get2 o k d) ρ Q := by simpa only [wC] using h
theorem w_rv {ρ : Env} {Q : Val → Env → Prop} {a : C} (h : wC G a ρ fun va ρ1 => oQ (resolve ρ1 va) fun x => oQ x.flat fun ds => Q (.t (T.fl ds.reverse)) ρ1) : wC G (.rv a) ρ Q := by simpa only [wC] using h
theorem w_lrg1 {ρ : Env} {Q : Val → Env → Prop} {a : C} (h : wC G a ρ fun v ρ1 => vInt v fun i => okRg 0 i = true ∧ Q (.t (T.fl (rangeD 0 i))) ρ1) : wC G (.lrg1 a) ρ Q := by simpa only [wC] using h
theorem w_lrg2 {ρ : Env} {Q : Val → Env → Prop} {a b : C} (h : wC G a ρ fun v ρ1 => wC G b ρ1 fun w ρ2 => vInt v fun i => vInt w fun j => okRg i j = true ∧ Q (.t (T.fl (rangeD i j))) ρ2) : wC G (.lrg2 a b) ρ Q := by simpa only [wC] using h
theorem w_cnt {ρ : Env} {Q : Val → Env → Prop} {o k : C} (h : wC G o ρ fun va ρ1 => wC G k ρ1 fun vk ρ2 => vInt vk fun i => (stands va k.wr && ((resolve ρ1 va).bind T.flat).isSome) = true ∧ oQ (((resolve ρ2 va).bind T.flat).bind intsOf) fun ns => Q (.t (.fz (.int (ns.count i : Nat)))) ρ2) : wC G (.cnt o k) ρ Q := by simpa only [wC] using h
theorem w_idx {ρ : Env} {Q : Val → Env → Prop} {o k : C} (h : wC G o ρ fun va ρ1 => wC G k ρ1 fun vk ρ2 => vFz vk fun d => (stands va k.wr && ((resolve ρ1 va).bind T.flat).isSome && flatD d) = true ∧ oQ ((resolve ρ2 va).bind T.flat) fun ds => ds.all flatD = true ∧ oQ (idxD d ds 0) fun j => Q (.t (.fz (.int (j : Nat)))) ρ2) : wC G (.idx o k) ρ Q := by simpa only [wC] using h
theorem w_lci {ρ : Env} {Q : Val → Env → Prop} {own : List (Str × Nat)} {i : Nat} {tg : Tgt} {tests : Tco} {elt : C} (h : ∃ ks ts0 ds, ρ[i]? = some (Slot.ow (.dct ks ts0)) ∧ T.unfzs ts0 = some ds ∧ ds.all flatD = true ∧ ownOk ((kills i none ρ).set i .no) (own.map (·.2)) = true ∧ LoopC (lcStep tg (evTo G tests) (evC G elt)) (own.map (·.2)) (wipeE ((kills i none ρ).set i .no) (own.map (·.2))) (itemsD ks ds) fun ts ρ5 => ts.length ≤ sizeLine ∧ Q (.t (.lst ts)) ((kills i none (restore ((kills i none ρ).set i .no) (own.map (·.2)) ρ5)).set i (.ow (.dct ks ts0)))) : wC G (.lci own i tg tests elt) ρ Q := by simpa only [wC] using h
theorem w_lc {ρ : Env} {Q : Val → Env → Prop} {own : List (Str × Nat)} {tg : Tgt} {it : I} {tests : Tco} {elt : C} (h : wI G it ρ fun ds ρ1 => ownOk ρ1 (own.map (·.2)) = true ∧ LoopC (lcStep tg (evTo G tests) (evC G elt)) (own.map (·.2)) (wipeE ρ1 (own.map (·.2))) ds fun ts ρ5 => ts.length ≤ sizeLine ∧ Q (.t (.lst ts)) (restore ρ1 (own.map (·.2)) ρ5)) : wC G (.lc own tg it tests elt) ρ Q := by simpa only [wC] using h
theorem ws_nil {ρ : Env} {Q : List Val → Env → Prop}  (h : Q [] ρ) : wCs G (.nil) ρ Q := by simpa only [wCs] using h
theorem ws_cons {ρ : Env} {Q : List Val → Env → Prop} {c : C} {cs : Cs} (h : wC G c ρ fun v ρ1 => wCs G cs ρ1 fun vs ρ2 => stands v cs.wr = true ∧ Q (v :: vs) ρ2) : wCs G (.cons c cs) ρ Q := by simpa only [wCs] using h
theorem wo_none {ρ : Env} {Q : Option Int → Env → Prop}  (h : Q none ρ) : wO G (.none) ρ Q := by simpa only [wO] using h
theorem wo_some {ρ : Env} {Q : Option Int → Env → Prop} {c : C} (h : wC G c ρ fun v ρ1 => vInt v fun i => Q (some i) ρ1) : wO G (.some c) ρ Q := by simpa only [wO] using h
theorem wt_not {ρ : Env} {Q : Bool → Env → Prop} {a : Tc} (h : wT G a ρ fun b ρ1 => Q (!b) ρ1) : wT G (.not a) ρ Q := by simpa only [wT] using h
theorem wt_bool {ρ : Env} {Q : Bool → Env → Prop} {op : BoolOp} {ts : Tcs} (h : wB G op ts ρ Q) : wT G (.bool op ts) ρ Q := by simpa only [wT] using h
theorem wt_cmp {ρ : Env} {Q : Bool → Env → Prop} {op : CmpOp} {a b : C} (h : wC G a ρ fun va ρ1 => wC G b ρ1 fun vb ρ2 => stands va b.wr = true ∧ oQ (resolve ρ2 va) fun x => oQ (resolve ρ2 vb) fun y => wCmp op x y fun k => Q k ρ2) : wT G (.cmp op a b) ρ Q := by simpa only [wT] using h
theorem wt_chain {ρ : Env} {Q : Bool → Env → Prop} {o1 o2 : CmpOp} {a b c : C} (h : wC G a ρ fun va ρ1 => wC G b ρ1 fun vb ρ2 => vT va fun x => vT vb fun y => wCmp o1 x y fun k => (k = false → Q false ρ2) ∧ (k = true → wC G c ρ2 fun vc ρ3 => vT vc fun z => wCmp o2 y z fun k => Q k ρ3)) : wT G (.chain o1 o2 a b c) ρ Q := by simpa only [wT] using h
theorem wt_val {ρ : Env} {Q : Bool → Env → Prop} {c : C} (h : wC G c ρ fun v ρ1 => oQ (resolve ρ1 v) fun t => oQ (truT t) fun b => Q b ρ1) : wT G (.val c) ρ Q := by simpa only [wT] using h
theorem wi_seq {ρ : Env} {Q : List D → Env → Prop} {c : C} (h : wC G c ρ fun v ρ1 => oQ (fzVal ρ1 v) fun p => dSeq p.1.toD fun ds => Q ds p.2) : wI G (.seq c) ρ Q := by simpa only [wI] using h
theorem wi_brw {ρ : Env} {Q : List D → Env → Prop} {c : C} (h : wC G c ρ fun v ρ1 => oQ (resolve ρ1 v) fun t => ∃ ds, t.flat = some ds ∧ Q ds ρ1) : wI G (.brw c) ρ Q := by simpa only [wI] using h
theorem wi_rng1 {ρ : Env} {Q : List D → Env → Prop} {a : C} (h : wC G a ρ fun v ρ1 => vInt v fun i => okR i = true ∧ Q (rangeD 0 i) ρ1) : wI G (.rng1 a) ρ Q := by simpa only [wI] using h
theorem wi_rng2 {ρ : Env} {Q : List D → Env → Prop} {a b : C} (h : wC G a ρ fun v ρ1 => wC G b ρ1 fun w ρ2 => vInt v fun i => vInt w fun j => okR i = true ∧ okR j = true ∧ Q (rangeD i j) ρ2) : wI G (.rng2 a b) ρ Q := by simpa only [wI] using h
theorem wi_enum {ρ : Env} {Q : List D → Env → Prop} {c : C} (h : wC G c ρ fun v ρ1 => oQ (fzVal ρ1 v) fun p => dList p.1.toD fun ds => Q (enumD 0 ds) p.2) : wI G (.enum c) ρ Q := by simpa only [wI] using h
theorem wp_set {ρ : Env} {Q : Out → Prop} {i : Nat} {c : C} (h : wC G c ρ fun v ρ1 => oQ (bindS ρ1 i v) fun ρ2 => Q (.nx ρ2)) : wS G (.set i c) ρ Q := by simpa only [wS] using h
theorem wp_setT {ρ : Env} {Q : Out → Prop} {is : List Nat} {c : C} (h : wC G c ρ fun v ρ1 => vTup v fun ts => oQ (bindTs ρ1 is ts) fun ρ2 => Q (.nx ρ2)) : wS G (.setT is c) ρ Q := by simpa only [wS] using h
theorem wp_setL {ρ : Env} {Q : Out → Prop} {is : List Nat} {c : C} (h : wC G c ρ fun v ρ1 => vT v fun t => oQ t.flat fun ds => oQ (bindTs ρ1 is (fzs ds)) fun ρ2 => Q (.nx ρ2)) : wS G (.setL is c) ρ Q := by simpa only [wS] using h
theorem wp_par {ρ : Env} {Q : Out → Prop} {is : List Nat} {es : Cs} (h : wCs G es ρ fun vs ρ1 => parOk is vs = true ∧ oQ (bindVs ρ1 is vs) fun ρ2 => Q (.nx ρ2)) : wS G (.par is es) ρ Q := by simpa only [wS] using h
theorem wp_sto {ρ : Env} {Q : Out → Prop} {b i c : C} (h : wC G c ρ fun vc ρ1 => oQ (fzVal ρ1 vc) fun p => wC G b p.2 fun vb ρ3 => wC G i ρ3 fun vi ρ4 => vPt vb fun j k => vT vi fun vi => stands (.pt j k) i.wr = true ∧ oQ (getPt ρ4 j k) fun x => ∃ y, setIx x vi p.1 = some y ∧ oQ (setPt (kIx ρ4 j k x vi) j k y) fun ρ5 => Q (.nx ρ5)) : wS G (.sto b i c) ρ Q := by simpa only [wS] using h
theorem wp_aug {ρ : Env} {Q : Out → Prop} {i : Nat} {op : Operator} {c : C} (h : oQ (rdName ρ i) fun vx => wC G c ρ fun vy ρ1 => vT vx fun x => vT vy fun y => ∃ t, augT op x y = some t ∧ oQ (bindS ρ1 i (.t t)) fun ρ2 => Q (.nx ρ2)) : wS G (.aug i op c) ρ Q := by simpa only [wS] using h
theorem wp_app {ρ : Env} {Q : Out → Prop} {b c : C} (h : wC G b ρ fun vb ρ1 => vPt vb fun j k => (∃ ts, getPt ρ1 j k = some (.lst ts)) ∧ wC G c ρ1 fun v ρ2 => oQ (fzVal ρ2 v) fun p => stands (.pt j k) c.wr = true ∧ oQ (getPt p.2 j k) fun x => ∃ y, appT x p.1 = some y ∧ oQ (setPt p.2 j k y) fun ρ4 => Q (.nx ρ4)) : wS G (.app b c) ρ Q := by simpa only [wS] using h
theorem wp_exp {ρ : Env} {Q : Out → Prop} {c : C} (h : wC G c ρ fun _ ρ1 => Q (.nx ρ1)) : wS G (.exp c) ρ Q := by simpa only [wS] using h
theorem wp_ret {ρ : Env} {Q : Out → Prop} {c : C} (h : wC G c ρ fun v ρ1 => oQ (fzVal ρ1 v) fun p => Q (.rt p.1 p.2)) : wS G (.ret c) ρ Q := by simpa only [wS] using h
theorem wp_retN {ρ : Env} {Q : Out → Prop}  (h : Q (.rt (.fz .none) ρ)) : wS G (.retN) ρ Q := by simpa only [wS] using h
theorem wp_ite {ρ : Env} {Q : Out → Prop} {c : Tc} {a b : Ss} (h : wT G c ρ fun k ρ1 => (k = true → wSs G a ρ1 Q) ∧ (k = false → wSs G b ρ1 Q)) : wS G (.ite c a b) ρ Q := by simpa only [wS] using h
theorem wp_for {ρ : Env} {Q : Out → Prop} {tg : Tgt} {it : I} {b : Ss} (h : wI G it ρ fun ds ρ1 => LoopF (fun ρ d => (bindD ρ tg d).bind fun ρ2 => evSs G b ρ2) ρ1 ds Q) : wS G (.for tg it b) ρ Q := by simpa only [wS] using h
theorem wp_while {ρ : Env} {Q : Out → Prop} {n : Nat} {c : Tc} {b : Ss} (h : LoopW (evT G c) (evSs G b) n ρ Q) : wS G (.while n c b) ρ Q := by simpa only [wS] using h
theorem wp_pass {ρ : Env} {Q : Out → Prop}  (h : Q (.nx ρ)) : wS G (.pass) ρ Q := by simpa only [wS] using h
theorem wp_cont {ρ : Env} {Q : Out → Prop}  (h : Q (.ct ρ)) : wS G (.cont) ρ Q := by simpa only [wS] using h
theorem wp_brk {ρ : Env} {Q : Out → Prop}  (h : Q (.bk ρ)) : wS G (.brk) ρ Q := by simpa only [wS] using h
theorem ss_nil {ρ : Env} {Q : Out → Prop}  (h : Q (.nx ρ)) : wSs G (.nil) ρ Q := by simpa only [wSs] using h
theorem ss_cons {ρ : Env} {Q : Out → Prop} {s : S} {ss : Ss} (h : wS G s ρ (seqK (wSs G ss) Q)) : wSs G (.cons s ss) ρ Q := by simpa only [wSs] using h
theorem wb_one {op : BoolOp} {t : Tc} {ρ : Env} {Q : Bool → Env → Prop} (h : wT G t ρ Q) : wB G op (.one t) ρ Q := by simpa only [wB] using h
theorem wb_cons {op : BoolOp} {t : Tc} {ts : Tcs} {ρ : Env} {Q : Bool → Env → Prop} (h : wT G t ρ fun b ρ1 => (b = decide (op = .And) → wB G op ts ρ1 Q) ∧ (b = !decide (op = .And) → Q (!decide (op = .And)) ρ1)) : wB G op (.cons t ts) ρ Q := by simpa only [wB] using h
theorem oQ_in {α : Type} {o : Option α} {a : α} {Q : α → Prop} (e : o = some a) (h : Q a) : oQ o Q := by subst e; exact h
theorem vT_in {v : Val} {t : T} {K : T → Prop} (e : v = .t t) (h : K t) : vT v K := by subst e; exact h
theorem vInt_in {v : Val} {i : Int} {K : Int → Prop} (e : v = .t (.fz (.int i))) (h : K i) : vInt v K := by subst e; exact h
theorem vBool_in {v : Val} {i : Bool} {K : Bool → Prop} (e : v = .t (.fz (.bool i))) (h : K i) : vBool v K := by subst e; exact h
theorem vFz_in {v : Val} {i : D} {K : D → Prop} (e : v = .t (.fz i)) (h : K i) : vFz v K := by subst e; exact h
theorem vPt_in {v : Val} {j : Nat} {k : Option Nat} {K : Nat → Option Nat → Prop} (e : v = .pt j k) (h : K j k) : vPt v K := by subst e; exact h
theorem vTup_1 {v : Val} {ds : List D} {K : List T → Prop} (e : v = .t (.fz (.tup ds))) (h : K (fzs ds)) : vTup v K := by subst e; exact h
theorem vTup_2 {v : Val} {ts : List T} {K : List T → Prop} (e : v = .t (.tup ts)) (h : K ts) : vTup v K := by subst e; exact h
theorem dSeq_1 {d : D} {ds : List D} {K : List D → Prop} (e : d = .list ds) (h : K ds) : dSeq d K := by subst e; exact h
theorem dSeq_2 {d : D} {ds : List D} {K : List D → Prop} (e : d = .tup ds) (h : K ds) : dSeq d K := by subst e; exact h
theorem dList_1 {d : D} {ds : List D} {K : List D → Prop} (e : d = .list ds) (h : K ds) : dList d K := by subst e; exact h
theorem wIx_1 {ρ : Env} {va : Val} {x vi : T} {p : List Key × List T} {d : D} {K : Val → Prop} (e : dictOf x = some p) (e2 : dGet p.1 p.2 vi = some d) (h : K (.t (.fz d))) : wIx ρ va x vi K := by
  unfold wIx; rw [e]; exact ⟨d, e2, h⟩
theorem wIx_2 {ρ : Env} {va v : Val} {x vi : T} {K : Val → Prop} (e : dictOf x = none) (e2 : ixVal ρ va vi = some v) (h : K v) : wIx ρ va x vi K := by
  unfold wIx; rw [e]; exact ⟨v, e2, h⟩
theorem seqK_nx {w : Env → (Out → Prop) → Prop} {Q : Out → Prop} {ρ : Env} (h : fE ρ fun ρ1 => w ρ1 Q) : seqK w Q (.nx ρ) := h
theorem seqK_rt {w : Env → (Out → Prop) → Prop} {Q : Out → Prop} {ρ : Env} {t : T} (h : Q (.rt t ρ)) : seqK w Q (.rt t ρ) := h
theorem seqK_bk {w : Env → (Out → Prop) → Prop} {Q : Out → Prop} {ρ : Env} (h : Q (.bk ρ)) : seqK w Q (.bk ρ) := h
theorem seqK_ct {w : Env → (Out → Prop) → Prop} {Q : Out → Prop} {ρ : Env} (h : Q (.ct ρ)) : seqK w Q (.ct ρ) := h
theorem fE_nil {ρ : Env} {Q : Env → Prop} (e : ρ = []) (h : Q []) : fE ρ Q := by subst e; exact h
theorem fE_cons {s : Slot} {ρ ρ' : Env} {Q : Env → Prop} (e : ρ = s :: ρ') (h : fS s fun s => fE ρ' fun ρ => Q (s :: ρ)) : fE ρ Q := by subst e; exact h
theorem fS_no {s : Slot} {Q : Slot → Prop} (e : s = .no) (h : Q .no) : fS s Q := by subst e; exact h
theorem fS_ow {s : Slot} {t : T} {Q : Slot → Prop} (e : s = .ow t) (h : fT t fun t => Q (.ow t)) : fS s Q := by subst e; exact h
theorem fS_io {s : Slot} {t : T} {Q : Slot → Prop} (e : s = .io t) (h : fT t fun t => Q (.io t)) : fS s Q := by subst e; exact h
theorem fS_al {s : Slot} {i k : Nat} {Q : Slot → Prop} (e : s = .al i k) (h : Q (.al i k)) : fS s Q := by subst e; exact h
theorem fT_fz {t : T} {d : D} {Q : T → Prop} (e : t = .fz d) (h : fD d fun d => Q (.fz d)) : fT t Q := by subst e; simpa only [fT] using h
theorem fT_lst {t : T} {ts : List T} {Q : T → Prop} (e : t = .lst ts) (h : fTs ts fun ts => Q (.lst ts)) : fT t Q := by subst e; simpa only [fT] using h
theorem fT_tup {t : T} {ts : List T} {Q : T → Prop} (e : t = .tup ts) (h : fTs ts fun ts => Q (.tup ts)) : fT t Q := by subst e; simpa only [fT] using h
theorem fT_dct {t : T} {ks : List Key} {ts : List T} {Q : T → Prop} (e : t = .dct ks ts) (h : Q (.dct ks ts)) : fT t Q := by subst e; simpa only [fT] using h
theorem fTs_nil {ts : List T} {Q : List T → Prop} (e : ts = []) (h : Q []) : fTs ts Q := by subst e; simpa only [fTs] using h
theorem fTs_cons {t : T} {ts us : List T} {Q : List T → Prop} (e : us = t :: ts) (h : fT t fun t => fTs ts fun ts => Q (t :: ts)) : fTs us Q := by subst e; simpa only [fTs] using h
theorem fD_int {d : D} {i : Int} {Q : D → Prop} (e : d = .int i) (h : Q (.int i)) : fD d Q := by subst e; exact h
theorem fD_list {d : D} {i : List D} {Q : D → Prop} (e : d = .list i) (h : Q (.list i)) : fD d Q := by subst e; exact h
theorem fD_tup {d : D} {i : List D} {Q : D → Prop} (e : d = .tup i) (h : Q (.tup i)) : fD d Q := by subst e; exact h
theorem fD_bool {d : D} {i : Bool} {Q : D → Prop} (e : d = .bool i) (h : Q (.bool i)) : fD d Q := by subst e; exact h
theorem wb_add {i j : Int} {Q : T → Prop} (h : Q (.fz (.int (i + j)))) : wBin .Add (.fz (.int i)) (.fz (.int j)) Q := h
theorem wb_sub {i j : Int} {Q : T → Prop} (h : Q (.fz (.int (i - j)))) : wBin .Sub (.fz (.int i)) (.fz (.int j)) Q := h
theorem wb_mul {i j : Int} {Q : T → Prop} (h1 : okI i = true) (h2 : okI j = true) (h : Q (.fz (.int (i * j)))) : wBin .Mult (.fz (.int i)) (.fz (.int j)) Q := And.intro h1 (And.intro h2 h)
theorem wb_div {i j : Int} {Q : T → Prop} (h1 : 0 < j) (h2 : okI j = true) (h : Q (.fz (.int (i / j)))) : wBin .FloorDiv (.fz (.int i)) (.fz (.int j)) Q := And.intro h1 (And.intro h2 h)
theorem wb_mod {i j : Int} {Q : T → Prop} (h1 : 0 < j) (h : Q (.fz (.int (i % j)))) : wBin .Mod (.fz (.int i)) (.fz (.int j)) Q := And.intro h1 h
theorem wb_pow {i j : Int} {n : Nat} {Q : T → Prop} (h0 : 0 ≤ j) (h1 : j ≤ 1000) (h2 : okI i = true) (e : j.toNat = n) (h : Q (.fz (.int (i ^ n)))) : wBin .Pow (.fz (.int i)) (.fz (.int j)) Q := by
  subst e
  exact And.intro h0 (And.intro h1 (And.intro h2 h))
theorem wb_addT {x y t : T} {Q : T → Prop} (e : addT x y = some t) (h : Q t) : wBin .Add x y Q := by
  unfold wBin
  split
  · cases e; exact h
  all_goals first | contradiction | exact Exists.intro t (And.intro e h)
theorem wb_mulT {ts : List T} {y t : T} {Q : T → Prop} (e : mulT (.lst ts) y = some t) (h : Q t) : wBin .Mult (.lst ts) y Q := Exists.intro t (And.intro e h)
theorem wc_eq {i j : Int} {Q : Bool → Prop} (h : Q (decide (i = j))) : wCmp .Eq (.fz (.int i)) (.fz (.int j)) Q := h
theorem wc_ne {i j : Int} {Q : Bool → Prop} (h : Q (!decide (i = j))) : wCmp .NotEq (.fz (.int i)) (.fz (.int j)) Q := h
theorem wc_lt {i j : Int} {Q : Bool → Prop} (h : Q (decide (i < j))) : wCmp .Lt (.fz (.int i)) (.fz (.int j)) Q := h
theorem wc_le {i j : Int} {Q : Bool → Prop} (h : Q (decide (i ≤ j))) : wCmp .LtE (.fz (.int i)) (.fz (.int j)) Q := h
theorem wc_gt {i j : Int} {Q : Bool → Prop} (h : Q (decide (j < i))) : wCmp .Gt (.fz (.int i)) (.fz (.int j)) Q := h
theorem wc_ge {i j : Int} {Q : Bool → Prop} (h : Q (decide (j ≤ i))) : wCmp .GtE (.fz (.int i)) (.fz (.int j)) Q := h
theorem wc_is {x : T} {b : Bool} {Q : Bool → Prop} (e : isNone x = b) (h : Q b) : wCmp .Is x (.fz .none) Q := by subst e; cases x <;> exact h
theorem wc_isnot {x : T} {b : Bool} {Q : Bool → Prop} (e : isNone x = b) (h : Q (!b)) : wCmp .IsNot x (.fz .none) Q := by subst e; cases x <;> exact h
theorem wl_list {ds : List D} {Q : T → Prop} (h : Q (.fz (.int ds.length))) : wBlt .len [.fz (.list ds)] Q := h
theorem wl_tup {ds : List D} {Q : T → Prop} (h : Q (.fz (.int ds.length))) : wBlt .len [.fz (.tup ds)] Q := h
theorem wl_lst {ts : List T} {Q : T → Prop} (h : Q (.fz (.int ts.length))) : wBlt .len [.lst ts] Q := h
theorem wl_abs {i : Int} {Q : T → Prop} (h : Q (.fz (.int (if i < 0 then -i else i)))) : wBlt .abs [.fz (.int i)] Q := h
theorem wl_int {i : Int} {Q : T → Prop} (h : Q (.fz (.int i))) : wBlt .int [.fz (.int i)] Q := h
theorem wl_intb {b : Bool} {Q : T → Prop} (h : Q (.fz (.int (if b then 1 else 0)))) : wBlt .int [.fz (.bool b)] Q := h
theorem wl_max {i j : Int} {Q : T → Prop} (h : Q (.fz (.int (if j > i then j else i)))) : wBlt .max2 [.fz (.int i), .fz (.int j)] Q := h
theorem wl_min {i j : Int} {Q : T → Prop} (h : Q (.fz (.int (if j < i then j else i)))) : wBlt .min2 [.fz (.int i), .fz (.int j)] Q := h
theorem wl_any {f : Blt} {ts : List T} {t : T} {Q : T → Prop} (e : appB f ts = some t) (h : Q t) : wBlt f ts Q := by
  unfold wBlt
  split <;> first | exact ⟨t, e, h⟩ | (cases e; exact h)
theorem call_in {f : Fn} {ρ : Env} {vs : List Val} {Q : T → Env → Prop} {ts : List T} {t : T} {ios : List T} {ρ1 : Env} (h1 : ioOk f.io vs = true) (h2 : argTs ρ f.io vs = some ts) (e : f.run ts = some (t, ios)) (h3 : ((rdSlots f.io vs).isEmpty || (t.imm && T.imms ios && brOk ρ (rdSlots f.io vs))) = true)
    (h4 : putIo (killAll ρ (ioSlots f.io vs)) f.io vs ios = some ρ1) (q : fE ρ1 fun ρ1 => fT t fun t => Q t ρ1) : wCall f ρ vs Q := ⟨h1, oQ_in h2 ⟨t, ios, e, h3, oQ_in h4 q⟩⟩
end
end Mv

end
section
set_option maxRecDepth 100000
/-! Plain facts for the laws over Mv. -/
namespace Mv
open PySem L2
inductive Done (p : Prop) : Prop | mk (h : p) : Done p
theorem okI_le {i : Int} (h1 : -(10 ^ 400) ≤ i) (h2 : i ≤ 10 ^ 400) : okI i = true := by
  unfold okI
  rw [decide_eq_true_eq]
  have e : (10 : Nat) ^ 400 < 2 ^ 8192 := by decide +kernel
  have : i.natAbs ≤ 10 ^ 400 := by
    have e2 : ((10 ^ 400 : Nat) : Int) = 10 ^ 400 := by norm_cast
    rw [← e2] at h1 h2
    generalize 10 ^ 400 = m at *
    omega
  exact Nat.lt_of_le_of_lt this e
theorem okI_mod {x m : Int} (h : 0 < m) (h2 : m ≤ 10 ^ 400) : okI (x % m) = true := by
  have a := Int.emod_nonneg x (Int.ne_of_gt h)
  have b := Int.emod_lt_of_pos x h
  have c : (0 : Int) ≤ 10 ^ 400 := by decide +kernel
  exact okI_le (by generalize (10 : Int) ^ 400 = z at *; omega) (by generalize (10 : Int) ^ 400 = z at *; omega)
theorem okI_nat {i b : Int} (h0 : 0 ≤ i) (h1 : i ≤ b) (h2 : decide (b ≤ 10 ^ 400) = true) : okI i = true := by
  have c : (0 : Int) ≤ 10 ^ 400 := by decide +kernel
  have h2 := of_decide_eq_true h2
  exact okI_le (by generalize (10 : Int) ^ 400 = z at *; omega) (by generalize (10 : Int) ^ 400 = z at *; omega)
abbrev iT (i : Int) : T := .fz (.int i)
/-- what a law draws from -/
def Src (c0 : Int) (t : T) : Prop := ∃ a b c : Int, t = .lst [iT a, iT b, iT c] ∧ 0 ≤ a ∧ 0 ≤ b ∧ b ≤ 1000000000000000000000000000000000000000000 ∧ 0 ≤ c ∧ c ≤ c0
end Mv
namespace Mv
open PySem L2
def Free (s : Slot) : Prop := s = .no ∨ ∃ z, s = .ow z
theorem Free.no : Free .no := .inl rfl
theorem Free.keep {o : Option Slot} : Free (keepS o) := by
  unfold keepS
  split
  · exact .inr ⟨_, rfl⟩
  · exact .inl rfl
theorem Free.ow {z : T} : Free (.ow z) := .inr ⟨z, rfl⟩
theorem bindS_t {ρ : Env} {i : Nat} {s : Slot} {t : T} {Q : Env → Prop} (h : ρ[i]? = some s) (hs : Free s) (q : Q ((kills i .none ρ).set i (.ow t))) : oQ (bindS ρ i (.t t)) Q := by
  rcases hs with rfl | ⟨z, rfl⟩ <;> (unfold bindS; rw [h]; exact q)
theorem bindD_nm {ρ : Env} {i : Nat} {s : Slot} {d : Mv.D} {Q : Env → Prop} (h : ρ[i]? = some s) (hs : Free s) (q : Q ((kills i .none ρ).set i (.ow (.fz d)))) : oQ (bindD ρ (.nm i) d) Q := bindS_t h hs q
theorem kill_free {j : Nat} {k : Option Nat} {s : Slot} (hs : Free s) : kill j k s = s := by
  rcases hs with rfl | ⟨z, rfl⟩ <;> rfl
theorem rangeD_len (n : Int) : (rangeD 0 n).length = n.toNat := by simp [rangeD]
theorem rangeD_get {n : Int} {i : Nat} {d : Mv.D} (h : (rangeD 0 n)[i]? = some d) : d = .int i ∧ (i : Int) < n := by
  have hl := (List.getElem?_eq_some_iff.mp h).1
  rw [rangeD_len] at hl
  unfold rangeD at h
  rw [List.getElem?_map, List.getElem?_range (by simpa using hl)] at h
  simp at h
  exact ⟨h.symm, by omega⟩
end Mv
namespace Mv
open PySem L2
theorem Free.kill {j : Nat} {k : Option Nat} {s : Slot} (hs : Free s) : Free (Mv.kill j k s) := by rw [kill_free hs]; exact hs
theorem appT_ints {l : List Int} {r : Int} (h : l.length < sizeLine) : appT (.lst (l.map iT)) (iT r) = some (.lst ((l ++ [r]).map iT)) := by
  simp only [appT, List.length_map, decide_eq_true h, if_true, List.map_append, List.map_cons, List.map_nil]
theorem ixN_last (n : Nat) : ixN (n + 1) (-1) = some n := by
  unfold ixN
  rw [if_neg (by omega), if_pos (by omega)]
  congr 1
  omega
theorem getIx_last {l : List Int} {r : Int} : getIx (.lst ((l ++ [r]).map iT)) (iT (-1)) = some (iT r, some l.length) := by
  simp only [getIx, place, List.length_map, List.length_append, List.length_cons, List.length_nil, Nat.zero_add, ixN_last]
  simp [List.getElem?_append_right]
theorem ixVal_last {ρ : Env} {j : Nat} {l : List Int} {r : Int} (h : getPt ρ j none = some (.lst ((l ++ [r]).map iT))) : ixVal ρ (.pt j none) (iT (-1)) = some (.t (iT r)) := by
  simp only [ixVal, h, getIx_last]
theorem setIx_last {l : List Int} {r x : Int} : setIx (.lst ((l ++ [r]).map iT)) (iT (-1)) (iT x) = some (.lst ((l ++ [x]).map iT)) := by
  simp only [setIx, place, List.length_map, List.length_append, List.length_cons, List.length_nil, Nat.zero_add, ixN_last]
  simp [List.set_append]
theorem lt_size {n : Nat} (h : n ≤ 1000000) : n < sizeLine := Nat.lt_of_le_of_lt h (by decide)
theorem okR_nat {i : Int} (h0 : 0 ≤ i) (h1 : i ≤ 1000000000) : okR i = true := rfl
theorem unfzs_map (l : List Int) : T.unfzs (l.map iT) = some (l.map D.int) := by
  induction l with
  | nil => rfl
  | cons x l ih => simp only [List.map_cons, T.unfzs, T.unfz, ih]
theorem toDs_map (l : List Int) : T.toDs (l.map iT) = l.map D.int := by
  induction l with
  | nil => rfl
  | cons x l ih => simp only [List.map_cons, T.toDs, T.toD, ih]
end Mv
namespace Mv
theorem Src.mono {c d : Int} {t : T} (h : Src c t) (e : c ≤ d) : Src d t := by
  obtain ⟨a, b, x, rfl, h1, h2, h3, h4, h5⟩ := h
  exact ⟨a, b, x, rfl, h1, h2, h3, h4, by omega⟩
theorem all_snoc {l : List Int} {x B : Int} (h : ∀ y ∈ l, 0 ≤ y ∧ y < B) (h0 : 0 ≤ x) (h1 : x < B) : ∀ y ∈ l ++ [x], 0 ≤ y ∧ y < B := by
  intro y hy
  rcases List.mem_append.mp hy with hy | hy
  · exact h y hy
  · simp at hy; subst hy; exact ⟨h0, h1⟩
end Mv
namespace Mv
theorem bindS_eq {ρ : Env} {i : Nat} {s : Slot} {t : T} (h : ρ[i]? = some s) (hs : Free s) : bindS ρ i (.t t) = some ((kills i .none ρ).set i (.ow t)) := by
  rcases hs with rfl | ⟨z, rfl⟩ <;> (unfold bindS; rw [h])
theorem bindD_tp2 {ρ : Env} {i j : Nat} {s s' : Slot} {a b : D} {Q : Env → Prop} (h : ρ[i]? = some s) (hs : Free s) (h' : ((kills i .none ρ).set i (.ow (.fz a)))[j]? = some s') (hs' : Free s')
    (q : Q ((kills j .none ((kills i .none ρ).set i (.ow (.fz a)))).set j (.ow (.fz b)))) : oQ (bindD ρ (.tp [i, j]) (.tup [a, b])) Q := by
  have e : bindD ρ (.tp [i, j]) (.tup [a, b]) = some ((kills j .none ((kills i .none ρ).set i (.ow (.fz a)))).set j (.ow (.fz b))) := by
    simp only [bindD, List.length_cons, List.length_nil, if_true, bindD.go, bindS_eq h hs, Option.bind_some, bindS_eq h' hs']
  rw [e]
  exact q
end Mv
namespace Mv
theorem w_mv_in {G : Gam} {i : Nat} {t : T} {ρ : Env} {Q : Val → Env → Prop} (e : ρ[i]? = some (.ow t)) (h : Q (.t t) ((kills i .none ρ).set i .no)) : wC G (.mv i) ρ Q := w_mv (by rw [e]; exact h)
end Mv

end
section
/-! Dicts from ints, lists joined and sorted, as plain values and in the layer. -/
namespace Mv
open PySem L2
section
variable {α : Type}
def getI (kv : List (Int × α)) (k : Int) : Option α := match kv with
  | [] => none
  | (k', v) :: r => if k' = k then some v else getI r k
def putI (kv : List (Int × α)) (k : Int) (v : α) : List (Int × α) := match kv with
  | [] => [(k, v)]
  | (k', v') :: r => if k' = k then (k', v) :: r else (k', v') :: putI r k v
theorem getI_put (kv : List (Int × α)) (k : Int) (v : α) (j : Int) : getI (putI kv k v) j = if k = j then some v else getI kv j := by
  induction kv with
  | nil => simp [putI, getI]
  | cons p r ih =>
    obtain ⟨k', v'⟩ := p
    unfold putI
    by_cases h : k' = k
    · subst h
      simp only [if_true, getI]
      split <;> rfl
    · simp only [if_neg h, getI, ih]
      by_cases h2 : k' = j
      · subst h2; simp [Ne.symm h]
      · simp [h2]
theorem put_len (kv : List (Int × α)) (k : Int) (v : α) : (putI kv k v).length ≤ kv.length + 1 := by
  induction kv with
  | nil => simp [putI]
  | cons p r ih =>
    obtain ⟨k', v'⟩ := p
    unfold putI
    split <;> simp <;> omega
def dctT (e : α → D) (kv : List (Int × α)) : T := .dct (kv.map fun p => .inl p.1) (kv.map fun p => .fz (e p.2))
theorem find_dct (e : α → D) (kv : List (Int × α)) (k : Int) : findK (.inl k) (kv.map fun p => (.inl p.1 : Key)) (kv.map fun p => T.fz (e p.2)) = (getI kv k).map fun x => T.fz (e x) := by
  induction kv with
  | nil => rfl
  | cons p r ih =>
    obtain ⟨k', v'⟩ := p
    simp only [List.map_cons, findK, getI]
    by_cases h : k' = k
    · subst h; simp
    · have : ¬ (Sum.inl k' : Key) = .inl k := fun z => h (Sum.inl.inj z)
      simp only [if_neg this, if_neg h, ih]
theorem place_dct (kv : List (Int × α)) (k : Int) (v : α) (n0 : Nat) : match placeK (.inl k) (kv.map fun p => (.inl p.1 : Key)) n0 with
    | some n => n0 ≤ n ∧ putI kv k v = kv.set (n - n0) (k, v) ∧ (kv.map fun p => (.inl p.1 : Key)) = (putI kv k v).map fun p => .inl p.1
    | none => putI kv k v = kv ++ [(k, v)] := by
  induction kv generalizing n0 with
  | nil => simp [placeK, putI]
  | cons p r ih =>
    obtain ⟨k', v'⟩ := p
    simp only [List.map_cons, placeK]
    by_cases h : k' = k
    · subst h
      simp [putI]
    · have h2 : ¬ (Sum.inl k' : Key) = .inl k := fun z => h (Sum.inl.inj z)
      simp only [if_neg h2]
      have ih := ih (n0 + 1)
      cases e : placeK (.inl k) (r.map fun p => (.inl p.1 : Key)) (n0 + 1) with
      | some n =>
        rw [e] at ih
        obtain ⟨a, b, c⟩ := ih
        have e1 : n - n0 = (n - (n0 + 1)) + 1 := by omega
        refine ⟨by omega, ?_, ?_⟩
        · simp only [putI, if_neg h, e1, List.set_cons_succ, b]
        · simp only [putI, if_neg h, List.map_cons, ← c]
      | none =>
        rw [e] at ih
        simp only [putI, if_neg h, List.cons_append, ih]
theorem setIx_dct {e : α → D} {kv : List (Int × α)} {k : Int} {v : α} (hl : kv.length < sizeLine) : setIx (dctT e kv) (iT k) (.fz (e v)) = some (dctT e (putI kv k v)) := by
  have h := place_dct kv k v 0
  simp only [setIx, dctT, keyOf, T.unfz]
  split at h
  · rename_i n e
    simp only [e, List.length_map, decide_eq_true hl, if_true]
    obtain ⟨_, b, c⟩ := h
    rw [c]
    congr 2
    rw [b, Nat.sub_zero, List.map_set]
  · rename_i e
    simp only [e, List.length_map, decide_eq_true hl, if_true, h, List.map_append, List.map_cons, List.map_nil]
theorem dGet_dct {e : α → D} {kv : List (Int × α)} {k : Int} {v : α} (h : getI kv k = some v) : dGet (kv.map fun p => .inl p.1) (kv.map fun p => T.fz (e p.2)) (iT k) = some (e v) := by
  simp only [dGet, keyOf, find_dct, h, Option.map_some, T.unfz]
theorem unfzs_fl (ds : List D) : T.unfzs (fzs ds) = some ds := by
  induction ds with
  | nil => rfl
  | cons d ds ih =>
    show (match T.unfz (.fz d), T.unfzs (fzs ds) with
      | some d, some ds => some (d :: ds)
      | _, _ => none) = _
    rw [ih]; rfl
theorem toDs_fzs (ds : List D) : T.toDs (fzs ds) = ds := by
  induction ds with
  | nil => rfl
  | cons d ds ih =>
    show T.toD (.fz d) :: T.toDs (fzs ds) = d :: ds
    rw [ih]; rfl
theorem fl_toD (ds : List D) : (T.fl ds).toD = .list ds := by
  show D.list (T.toDs (fzs ds)) = _
  rw [toDs_fzs]
theorem flat_fl (ds : List D) : (T.fl ds).flat = some ds := unfzs_fl ds
theorem intsOf_map (l : List Int) : intsOf (l.map D.int) = some l := by
  induction l with
  | nil => rfl
  | cons x l ih => simp only [List.map_cons, intsOf, ih, Option.map_some]
theorem boolsOf_map (l : List Bool) : boolsOf (l.map D.bool) = some l := by
  induction l with
  | nil => rfl
  | cons x l ih => simp only [List.map_cons, boolsOf, ih, Option.map_some]
theorem unfzs_dct {e : α → D} (kv : List (Int × α)) : T.unfzs (kv.map fun p => T.fz (e p.2)) = some (kv.map fun p => e p.2) := by
  induction kv with
  | nil => rfl
  | cons p kv ih => simp only [List.map_cons, T.unfzs, T.unfz, ih]
theorem itemsD_dct {e : α → D} (kv : List (Int × α)) : itemsD (kv.map fun p => (.inl p.1 : Key)) (kv.map fun p => e p.2) = kv.map fun p => D.tup [D.int p.1, e p.2] := by
  induction kv with
  | nil => rfl
  | cons p kv ih =>
    unfold itemsD at ih ⊢
    rw [List.map_cons, List.map_cons, List.zip_cons_cons, List.map_cons, ih]
    rfl
theorem flat_dct {e : α → D} (he : ∀ x, flatD (e x) = true) (kv : List (Int × α)) : (kv.map fun p => e p.2).all flatD = true := by
  rw [List.all_map, List.all_eq_true]
  intro x _
  exact he x.2
end
end Mv

end
section
/-! Plain partial operations on values, and how the layer's rules follow from them. -/
namespace Mv
open PySem L2
section
variable {α β σ : Type}
theorem bnd {o : Option α} {k : α → Option β} {r : β} (h : o.bind k = some r) : ∃ x, o = some x ∧ k x = some r := Option.bind_eq_some_iff.mp h
/-! ### operations -/
def mulG (a b : Int) : Option Int := if okI a && okI b then some (a * b) else none
def divG (a b : Int) : Option Int := if decide (0 < b) && okI b then some (a / b) else none
def modG (a b : Int) : Option Int := if 0 < b then some (a % b) else none
def powG (a : Int) (n : Nat) : Option Int := if okI a then some (a ^ n) else none
theorem mulG_some {a b x : Int} (h : mulG a b = some x) : okI a = true ∧ okI b = true ∧ x = a * b := by
  unfold mulG at h
  split at h
  · rename_i k; simp only [Bool.and_eq_true] at k; cases h; exact ⟨k.1, k.2, rfl⟩
  · cases h
theorem divG_some {a b x : Int} (h : divG a b = some x) : 0 < b ∧ okI b = true ∧ x = a / b := by
  unfold divG at h
  split at h
  · rename_i k; simp only [Bool.and_eq_true, decide_eq_true_eq] at k; cases h; exact ⟨k.1, k.2, rfl⟩
  · cases h
theorem modG_some {a b x : Int} (h : modG a b = some x) : 0 < b ∧ x = a % b := by
  unfold modG at h
  split at h
  · cases h; exact ⟨‹_›, rfl⟩
  · cases h
theorem powG_some {a x : Int} {n : Nat} (h : powG a n = some x) : okI a = true ∧ x = a ^ n := by
  unfold powG at h
  split at h
  · cases h; exact ⟨‹_›, rfl⟩
  · cases h
def appG (l : List α) (x : α) : Option (List α) := if l.length < sizeLine then some (l ++ [x]) else none
theorem appG_some {l r : List α} {x : α} (h : appG l x = some r) : l.length < sizeLine ∧ r = l ++ [x] := by
  unfold appG at h
  split at h
  · cases h; exact ⟨‹_›, rfl⟩
  · cases h
def catG (l m : List α) : Option (List α) := if l.length + m.length ≤ sizeLine then some (l ++ m) else none
theorem catG_some {l m r : List α} (h : catG l m = some r) : l.length + m.length ≤ sizeLine ∧ r = l ++ m := by
  unfold catG at h
  split at h
  · cases h; exact ⟨‹_›, rfl⟩
  · cases h
def repG (l : List α) (n : Int) : Option (List α) := if -(2 ^ 63) ≤ n ∧ n < 2 ^ 63 ∧ l.length * n.toNat ≤ sizeLine then some (List.replicate n.toNat l).flatten else none
theorem repG_some {l r : List α} {n : Int} (h : repG l n = some r) : (-(2 ^ 63) ≤ n ∧ n < 2 ^ 63 ∧ l.length * n.toNat ≤ sizeLine) ∧ r = (List.replicate n.toNat l).flatten := by
  unfold repG at h
  split at h
  · cases h; exact ⟨‹_›, rfl⟩
  · cases h
def ixG (l : List α) (i : Int) : Option α := (place i l.length).bind fun k => l[k]?
def stoG (l : List α) (i : Int) (x : α) : Option (List α) := (place i l.length).map fun k => l.set k x
def sliG (l : List α) (lo hi : Option Int) : Option (List α) := if okB lo && okB hi then some ((l.drop (HT.sIx l.length 0 lo)).take (HT.sIx l.length l.length hi - HT.sIx l.length 0 lo)) else none
theorem sliG_some {l r : List α} {lo hi : Option Int} (h : sliG l lo hi = some r) : okB lo = true ∧ okB hi = true ∧ r = (l.drop (HT.sIx l.length 0 lo)).take (HT.sIx l.length l.length hi - HT.sIx l.length 0 lo) := by
  unfold sliG at h
  split at h
  · rename_i k; simp only [Bool.and_eq_true] at k; cases h; exact ⟨k.1, k.2, rfl⟩
  · cases h
def rngI (lo hi : Int) : List Int := (List.range (hi - lo).toNat).map fun (n : Nat) => lo + (n : Int)
def rngG (lo hi : Int) : Option (List Int) := if okR lo && okR hi then some (rngI lo hi) else none
theorem rngG_some {lo hi : Int} {r : List Int} (h : rngG lo hi = some r) : okR lo = true ∧ okR hi = true ∧ r = rngI lo hi := by
  unfold rngG at h
  split at h
  · rename_i k; simp only [Bool.and_eq_true] at k; cases h; exact ⟨k.1, k.2, rfl⟩
  · cases h
def enumI : Nat → List α → List (Int × α)
  | _, [] => []
  | n, x :: l => ((n : Int), x) :: enumI (n + 1) l
def putG (kv : List (Int × α)) (k : Int) (v : α) : Option (List (Int × α)) := if kv.length < sizeLine then some (putI kv k v) else none
theorem putG_some {kv r : List (Int × α)} {k : Int} {v : α} (h : putG kv k v = some r) : kv.length < sizeLine ∧ r = putI kv k v := by
  unfold putG at h
  split at h
  · cases h; exact ⟨‹_›, rfl⟩
  · cases h
def reprG (d : D) : Option Str := if reprOk d then some d.toPy.shown else none
theorem reprG_some {d : D} {x : Str} (h : reprG d = some x) : reprOk d = true ∧ x = d.toPy.shown := by
  unfold reprG at h
  split at h
  · cases h; exact ⟨‹_›, rfl⟩
  · cases h
/-- a for that ends by itself -/
def forP (f : σ → α → Option σ) : List α → σ → Option σ
  | [], s => some s
  | x :: l, s => (f s x).bind fun s' => forP f l s'
/-- a for that may hand back -/
def forR (f : σ → α → Option (σ ⊕ β)) : List α → σ → Option (σ ⊕ β)
  | [], s => some (.inl s)
  | x :: l, s => (f s x).bind fun r => match r with | .inl s' => forR f l s' | .inr b => some (.inr b)
def whP (t : σ → Option Bool) (f : σ → Option σ) : Nat → σ → Option σ
  | 0, _ => none
  | n + 1, s => (t s).bind fun b => if b = true then (f s).bind fun s' => whP t f n s' else some s
def lcP (f : α → Option (Option β)) : List α → Option (List β)
  | [] => some []
  | x :: l => (f x).bind fun o => (lcP f l).map fun r => match o with | some y => y :: r | none => r
def lcG (f : α → Option (Option β)) (l : List α) : Option (List β) := (lcP f l).bind fun r => if r.length ≤ sizeLine then some r else none
theorem lcG_some {f : α → Option (Option β)} {l : List α} {r : List β} (h : lcG f l = some r) : lcP f l = some r ∧ r.length ≤ sizeLine := by
  obtain ⟨x, h1, h2⟩ := bnd h
  split at h2
  · cases h2; exact ⟨h1, ‹_›⟩
  · cases h2
/-! ### in the layer -/
inductive NoAl : Env → Prop
  | nil : NoAl []
  | ow {t ρ} (h : NoAl ρ) : NoAl (.ow t :: ρ)
  | io {t ρ} (h : NoAl ρ) : NoAl (.io t :: ρ)
  | no {ρ} (h : NoAl ρ) : NoAl (.no :: ρ)
  | fr {s ρ} (f : Free s) (h : NoAl ρ) : NoAl (s :: ρ)
theorem NoAl.kills {ρ : Env} (h : NoAl ρ) (i : Nat) (k : Option Nat) : Mv.kills i k ρ = ρ := by
  unfold Mv.kills
  induction h with
  | nil => rfl
  | ow h ih => rw [List.map_cons, ih]; rfl
  | io h ih => rw [List.map_cons, ih]; rfl
  | no h ih => rw [List.map_cons, ih]; rfl
  | fr f h ih => rw [List.map_cons, ih, kill_free f]
theorem NoAl.killAll {ρ : Env} (h : NoAl ρ) : ∀ is : List Nat, Mv.killAll ρ is = ρ
  | [] => rfl
  | i :: is => by unfold Mv.killAll; rw [NoAl.killAll h is, h.kills]
section
variable {G : Gam} {ρ ρ1 ρ2 : Env} {Q : Out → Prop} {ss : Ss} {i j : Nat} {t : T} {s : Slot} {is : List Nat} {ts : List T}
theorem nxe (e : ρ = ρ2) (h : wSs G ss ρ2 Q) : seqK (wSs G ss) Q (.nx ρ) := by subst e; exact fE_in ρ h
theorem set_in (na : NoAl ρ) (e : ρ[i]? = some s) (f : Free s) (e2 : ρ.set i (.ow t) = ρ2) (q : Q (.nx ρ2)) : oQ (bindS ρ i (.t t)) fun ρ2 => Q (.nx ρ2) := by
  rw [bindS_eq e f, na.kills, e2]; exact q
theorem setB_in {R : Env → Prop} (na : NoAl ρ) (e : ρ[i]? = some s) (f : Free s) (e2 : ρ.set i (.ow t) = ρ2) (q : R ρ2) : oQ (bindS ρ i (.t t)) R := by
  rw [bindS_eq e f, na.kills, e2]; exact q
theorem bts_nil {R : Env → Prop} (q : R ρ) : oQ (bindTs ρ [] []) R := q
theorem bts_cons {R : Env → Prop} (na : NoAl ρ) (e : ρ[i]? = some s) (f : Free s) (e2 : ρ.set i (.ow t) = ρ2) (q : oQ (bindTs ρ2 is ts) R) : oQ (bindTs ρ (i :: is) (t :: ts)) R := by
  simp only [bindTs, bindS_eq e f, na.kills, e2, Option.bind_some]; exact q
theorem bvs_nil {R : Env → Prop} (q : R ρ) : oQ (bindVs ρ [] []) R := q
theorem bvs_cons {R : Env → Prop} {vs : List Val} (na : NoAl ρ) (e : ρ[i]? = some s) (f : Free s) (e2 : ρ.set i (.ow t) = ρ2) (q : oQ (bindVs ρ2 is vs) R) : oQ (bindVs ρ (i :: is) (.t t :: vs)) R := by
  simp only [bindVs, bindS_eq e f, na.kills, e2, Option.bind_some]; exact q
theorem bd_nm {R : Env → Prop} {d : D} (na : NoAl ρ) (e : ρ[i]? = some s) (f : Free s) (e2 : ρ.set i (.ow (.fz d)) = ρ2) (q : R ρ2) : oQ (bindD ρ (.nm i) d) R := setB_in (t := .fz d) na e f e2 q
theorem bd_go_nil {R : Env → Prop} (q : R ρ) : oQ (bindD.go ρ [] []) R := q
theorem bd_go_cons {R : Env → Prop} {d : D} {ds : List D} (na : NoAl ρ) (e : ρ[i]? = some s) (f : Free s) (e2 : ρ.set i (.ow (.fz d)) = ρ2) (q : oQ (bindD.go ρ2 is ds) R) : oQ (bindD.go ρ (i :: is) (d :: ds)) R := by
  simp only [bindD.go, bindS_eq e f, na.kills, e2, Option.bind_some]; exact q
theorem bd_tp {R : Env → Prop} {ds : List D} (hl : is.length = ds.length) (q : oQ (bindD.go ρ is ds) R) : oQ (bindD ρ (.tp is) (.tup ds)) R := by
  simp only [bindD, if_pos hl]; exact q
/-- a call -/
theorem call_g {f : Fn} {vs : List Val} {R : T → Env → Prop} {ios : List T} (na : NoAl ρ) (h1 : ioOk f.io vs = true) (h2 : argTs ρ f.io vs = some ts) (e : f.run ts = some (t, ios)) (h3 : ((rdSlots f.io vs).isEmpty || (t.imm && T.imms ios && brOk ρ (rdSlots f.io vs))) = true)
    (h4 : putIo ρ f.io vs ios = some ρ1) (h5 : ρ1 = ρ2) (q : R t ρ2) : wCall f ρ vs R := by
  subst h5
  exact ⟨h1, oQ_in h2 ⟨t, ios, e, h3, oQ_in (by rw [na.killAll]; exact h4) (fE_in _ (fT_in _ q))⟩⟩
/-- what a def hands back -/
def isRet (io : List Bool) (t0 : T) (os : List T) : Out → Prop
  | .rt t ρ => t = t0 ∧ ioOuts ρ io 0 = some os
  | .nx ρ => T.fz .none = t0 ∧ ioOuts ρ io 0 = some os
  | _ => False
theorem ret_in {io : List Bool} {t0 : T} {os : List T} (e1 : t = t0) (e2 : ioOuts ρ io 0 = some os) : isRet io t0 os (.rt t ρ) := ⟨e1, e2⟩
theorem end_in {io : List Bool} {t0 : T} {os : List T} (e1 : T.fz .none = t0) (e2 : ioOuts ρ io 0 = some os) : isRet io t0 os (.nx ρ) := ⟨e1, e2⟩
theorem run_g {io : List Bool} {n : Nat} {body : Ss} {t0 : T} {os : List T} (hl : ts.length = io.length) (e : start0 io ts ++ List.replicate (n - ts.length) .no = ρ) (h : wSs G body ρ (isRet io t0 os)) : runDef G io n body ts = some (t0, os) := by
  subst e
  obtain ⟨o, e, q⟩ := wSs_ok body h
  unfold runDef
  rw [if_pos hl, e]
  cases o with
  | rt t ρ => obtain ⟨rfl, e2⟩ := q; simp only [e2]; rfl
  | nx ρ => obtain ⟨rfl, e2⟩ := q; simp only [e2]; rfl
  | bk ρ => exact q.elim
  | ct ρ => exact q.elim
/-! tests -/
theorem wc_eq_t {i j : Int} {R : Bool → Prop} (c : i = j) (h : R true) : wCmp .Eq (.fz (.int i)) (.fz (.int j)) R := by show R (decide (i = j)); rw [decide_eq_true c]; exact h
theorem wc_eq_f {i j : Int} {R : Bool → Prop} (c : ¬ i = j) (h : R false) : wCmp .Eq (.fz (.int i)) (.fz (.int j)) R := by show R (decide (i = j)); rw [decide_eq_false c]; exact h
theorem wc_ne_t {i j : Int} {R : Bool → Prop} (c : ¬ i = j) (h : R true) : wCmp .NotEq (.fz (.int i)) (.fz (.int j)) R := by show R (!decide (i = j)); rw [decide_eq_false c]; exact h
theorem wc_ne_f {i j : Int} {R : Bool → Prop} (c : ¬ ¬ i = j) (h : R false) : wCmp .NotEq (.fz (.int i)) (.fz (.int j)) R := by show R (!decide (i = j)); rw [decide_eq_true (Decidable.not_not.mp c)]; exact h
theorem wc_lt_t {i j : Int} {R : Bool → Prop} (c : i < j) (h : R true) : wCmp .Lt (.fz (.int i)) (.fz (.int j)) R := by show R (decide (i < j)); rw [decide_eq_true c]; exact h
theorem wc_lt_f {i j : Int} {R : Bool → Prop} (c : ¬ i < j) (h : R false) : wCmp .Lt (.fz (.int i)) (.fz (.int j)) R := by show R (decide (i < j)); rw [decide_eq_false c]; exact h
theorem wc_le_t {i j : Int} {R : Bool → Prop} (c : i ≤ j) (h : R true) : wCmp .LtE (.fz (.int i)) (.fz (.int j)) R := by show R (decide (i ≤ j)); rw [decide_eq_true c]; exact h
theorem wc_le_f {i j : Int} {R : Bool → Prop} (c : ¬ i ≤ j) (h : R false) : wCmp .LtE (.fz (.int i)) (.fz (.int j)) R := by show R (decide (i ≤ j)); rw [decide_eq_false c]; exact h
theorem wc_gt_t {i j : Int} {R : Bool → Prop} (c : j < i) (h : R true) : wCmp .Gt (.fz (.int i)) (.fz (.int j)) R := by show R (decide (j < i)); rw [decide_eq_true c]; exact h
theorem wc_gt_f {i j : Int} {R : Bool → Prop} (c : ¬ j < i) (h : R false) : wCmp .Gt (.fz (.int i)) (.fz (.int j)) R := by show R (decide (j < i)); rw [decide_eq_false c]; exact h
theorem wc_ge_t {i j : Int} {R : Bool → Prop} (c : j ≤ i) (h : R true) : wCmp .GtE (.fz (.int i)) (.fz (.int j)) R := by show R (decide (j ≤ i)); rw [decide_eq_true c]; exact h
theorem wc_ge_f {i j : Int} {R : Bool → Prop} (c : ¬ j ≤ i) (h : R false) : wCmp .GtE (.fz (.int i)) (.fz (.int j)) R := by show R (decide (j ≤ i)); rw [decide_eq_false c]; exact h
theorem wCmp_in {op : CmpOp} {x y : T} {b : Bool} {R : Bool → Prop} (e : cmpT op x y = some b) (h : R b) : wCmp op x y R := by
  unfold wCmp
  split
  · have : some (decide (_ = _)) = some b := (deq_int _ _).symm.trans e
    cases this; exact h
  · simp only [cmpT, T.toD, deq_int] at e
    cases e; exact h
  · cases e; exact h
  · cases e; exact h
  · cases e; exact h
  · cases e; exact h
  · simp only [cmpT, isNone, if_true] at e
    cases e; exact h
  · simp only [cmpT, isNone, if_true] at e
    cases e; exact h
  · exact ⟨b, e, h⟩
/-! lists -/
theorem appT_fl {e : α → D} {l : List α} {x : α} (h : l.length < sizeLine) : appT (T.fl (l.map e)) (.fz (e x)) = some (T.fl ((l ++ [x]).map e)) := by
  simp only [appT, T.fl, fzs, List.length_map, decide_eq_true h, if_true, List.map_append, List.map_cons, List.map_nil]
theorem appT_fz {l : List D} {d : D} (h : l.length < sizeLine) : appT (T.fl l) (.fz d) = some (T.fl (l ++ [d])) := by
  simp only [appT, T.fl, fzs, List.length_map, decide_eq_true h, if_true, List.map_append, List.map_cons, List.map_nil]
theorem getIx_fl {e : α → D} {l : List α} {i : Int} {x : α} (h : ixG l i = some x) : ∃ k, getIx (T.fl (l.map e)) (iT i) = some (.fz (e x), some k) := by
  obtain ⟨k, h1, h2⟩ := bnd h
  refine ⟨k, ?_⟩
  simp only [getIx, T.fl, fzs, List.length_map, h1, List.getElem?_map, h2, Option.map_some]
theorem ixVal_fl {e : α → D} {l : List α} {i : Int} {x : α} {j : Nat} {k : Option Nat} (h : ixG l i = some x) (hp : getPt ρ j k = some (T.fl (l.map e))) : ixVal ρ (.pt j k) (iT i) = some (.t (.fz (e x))) := by
  obtain ⟨m, g⟩ := getIx_fl (e := e) h
  simp only [ixVal, hp, g]
theorem ixVal_flT {e : α → D} {l : List α} {i : Int} {x : α} (h : ixG l i = some x) : ixVal ρ (.t (T.fl (l.map e))) (iT i) = some (.t (.fz (e x))) := by
  obtain ⟨m, g⟩ := getIx_fl (e := e) h
  simp only [ixVal, g, Option.map_some]
theorem ixVal_list {e : α → D} {l : List α} {i : Int} {x : α} (h : ixG l i = some x) : ixVal ρ (.t (.fz (.list (l.map e)))) (iT i) = some (.t (.fz (e x))) := by
  obtain ⟨k, h1, h2⟩ := bnd h
  simp only [ixVal, getIx, List.length_map, h1, List.getElem?_map, h2, Option.map_some]
theorem setIx_fl {e : α → D} {l r : List α} {i : Int} {x : α} (h : stoG l i x = some r) : setIx (T.fl (l.map e)) (iT i) (.fz (e x)) = some (T.fl (r.map e)) := by
  obtain ⟨k, h1, h2⟩ := Option.map_eq_some_iff.mp h
  subst h2
  simp only [setIx, T.fl, fzs, List.length_map, h1, List.map_set]
theorem fzVal_fl {e : α → D} {l : List α} (h : ρ[i]? = some (.ow (T.fl (l.map e)))) (e2 : ρ.set i (.ow (.fz (.list (l.map e)))) = ρ2) : fzVal ρ (.pt i none) = some (.fz (.list (l.map e)), ρ2) := by
  have g : getPt ρ i none = some (T.fl (l.map e)) := by simp only [getPt, h, slotT]
  simp only [fzVal, g, h, setPt, setSlotT, Option.map_some, fl_toD, e2]
theorem slT_list {e : α → D} {l r : List α} {lo hi : Option Int} (h : r = (l.drop (HT.sIx l.length 0 lo)).take (HT.sIx l.length l.length hi - HT.sIx l.length 0 lo)) : slT (.fz (.list (l.map e))) lo hi = some (T.fl (r.map e)) := by
  subst h
  simp only [slT, T.flat, Option.map_some, slD, List.length_map, List.map_take, List.map_drop]
theorem slT_fl {e : α → D} {l r : List α} {lo hi : Option Int} (h : r = (l.drop (HT.sIx l.length 0 lo)).take (HT.sIx l.length l.length hi - HT.sIx l.length 0 lo)) : slT (T.fl (l.map e)) lo hi = some (T.fl (r.map e)) := by
  subst h
  show ((T.fl (l.map e)).flat).map (fun ds => T.fl (slD ds lo hi)) = _
  rw [flat_fl]
  simp only [Option.map_some, slD, List.length_map, List.map_take, List.map_drop]
theorem addT_gen {e : α → D} {l m : List α} {x y : T} (hx : x.flat = some (l.map e)) (hy : y.flat = some (m.map e)) (nx : ∀ d, x = .fz d → ∃ ds, d = .list ds) (h : l.length + m.length ≤ sizeLine) : addT x y = some (T.fl ((l ++ m).map e)) := by
  have e : okLen ((l.map e).length + (m.map e).length) = true := by
    unfold okLen; simp only [List.length_map, decide_eq_true_eq]; exact h
  unfold addT
  split
  · obtain ⟨ds, z⟩ := nx _ rfl; cases z
  · obtain ⟨ds, z⟩ := nx _ rfl; cases z
  · obtain ⟨ds, z⟩ := nx _ rfl; cases z
  · rw [hx, hy]; simp only [e, if_true, List.map_append]
theorem addT_ff {e : α → D} {l m : List α} (h : l.length + m.length ≤ sizeLine) : addT (T.fl (l.map e)) (T.fl (m.map e)) = some (T.fl ((l ++ m).map e)) := addT_gen (flat_fl _) (flat_fl _) (fun d z => nomatch z) h
theorem addT_lf {e : α → D} {l m : List α} (h : l.length + m.length ≤ sizeLine) : addT (.fz (.list (l.map e))) (T.fl (m.map e)) = some (T.fl ((l ++ m).map e)) := addT_gen rfl (flat_fl _) (fun d z => by cases z; exact ⟨_, rfl⟩) h
theorem addT_fl {e : α → D} {l m : List α} (h : l.length + m.length ≤ sizeLine) : addT (T.fl (l.map e)) (.fz (.list (m.map e))) = some (T.fl ((l ++ m).map e)) := addT_gen (flat_fl _) rfl (fun d z => nomatch z) h
theorem addT_ll {e : α → D} {l m : List α} (h : l.length + m.length ≤ sizeLine) : addT (.fz (.list (l.map e))) (.fz (.list (m.map e))) = some (T.fl ((l ++ m).map e)) := addT_gen rfl rfl (fun d z => by cases z; exact ⟨_, rfl⟩) h
theorem mulT_g {e : α → D} {l : List α} {n : Int} (h : -(2 ^ 63) ≤ n ∧ n < 2 ^ 63 ∧ l.length * n.toNat ≤ sizeLine) : mulT (T.fl (l.map e)) (iT n) = some (T.fl ((List.replicate n.toNat l).flatten.map e)) := by
  have o : okLen ((l.map e).length * n.toNat) = true := by
    unfold okLen; simp only [List.length_map, decide_eq_true_eq]; exact h.2.2
  have u : T.unfzs (fzs (l.map e)) = some (l.map e) := unfzs_fl _
  show mulT (.lst (fzs (l.map e))) (iT n) = _
  simp only [mulT, u, decide_eq_true h.1, decide_eq_true h.2.1, o, Bool.and_self, if_true]
  congr 2
  rw [List.map_flatten, List.map_replicate]
theorem sorted_g {l : List Int} {x : T} (h : x.flat = some (l.map D.int)) : appB .sorted [x] = some (T.fl ((sortI l).map D.int)) := by
  simp only [appB, h, intsOf_map, Option.map_some]
theorem sum_g {l : List Int} {x : T} (h : x.flat = some (l.map D.int)) : appB .sum [x] = some (iT l.sum) := by
  simp only [appB, h, intsOf_map, Option.map_some]
theorem all_g {l : List Bool} {x : T} (h : x.flat = some (l.map D.bool)) : appB .all [x] = some (.fz (.bool (l.all id))) := by
  simp only [appB, h, boolsOf_map, Option.map_some]
theorem any_g {l : List Bool} {x : T} (h : x.flat = some (l.map D.bool)) : appB .any [x] = some (.fz (.bool (l.any id))) := by
  simp only [appB, h, boolsOf_map, Option.map_some]
theorem list_g {e : α → D} {l : List α} {x : T} (h : x.flat = some (l.map e)) : appB .list [x] = some (T.fl (l.map e)) := by
  simp only [appB, h, Option.map_some]
theorem len_fl {e : α → D} {l : List α} {R : T → Prop} (h : R (iT l.length)) : wBlt .len [T.fl (l.map e)] R := by
  show R (.fz (.int ((fzs (l.map e)).length : Nat)))
  unfold fzs; rw [List.length_map, List.length_map]; exact h
theorem len_list {e : α → D} {l : List α} {R : T → Prop} (h : R (iT l.length)) : wBlt .len [.fz (.list (l.map e))] R := by
  show R (.fz (.int ((l.map e).length : Nat)))
  rw [List.length_map]; exact h
theorem repr_g {t : T} {d : D} (e : t.toD = d) (h : reprOk d = true) : appB .repr [t] = some (.fz (.str d.toPy.shown)) := by
  subst e
  simp only [appB, h, if_true]
theorem divmod_g {n w : Int} (h : 0 < w) (h2 : okI w = true) : appB .divmod [iT n, iT w] = some (.fz (.tup [.int (n / w), .int (n % w)])) := by
  simp only [appB, decide_eq_true h, h2, Bool.and_self, if_true]
/-- d.get(k, dft) -/
theorem get_g {e : α → D} {kv : List (Int × α)} {k : Int} {d : α} {R : D → Prop} (h : R (e ((getI kv k).getD d))) :
    ∃ x, ((findK (.inl k) (kv.map fun p => (.inl p.1 : Key)) (kv.map fun p => T.fz (e p.2)) = some (.fz x)) ∨ (findK (.inl k) (kv.map fun p => (.inl p.1 : Key)) (kv.map fun p => T.fz (e p.2)) = none ∧ x = e d)) ∧ R x := by
  refine ⟨_, ?_, h⟩
  rw [find_dct]
  cases getI kv k with
  | none => exact .inr ⟨rfl, rfl⟩
  | some v => exact .inl rfl
theorem in_dct {e : α → D} {kv : List (Int × α)} {k : Int} : inT (iT k) (dctT e kv) = some (getI kv k).isSome := by
  have : ∀ kv : List (Int × α), ((kv.map fun p => (.inl p.1 : Key)).any fun k' => decide (k' = .inl k)) = (getI kv k).isSome := by
    intro kv
    induction kv with
    | nil => rfl
    | cons p r ih =>
      obtain ⟨k', v⟩ := p
      simp only [List.map_cons, List.any_cons, getI]
      by_cases h : k' = k
      · subst h; simp
      · have h2 : ¬ (Sum.inl k' : Key) = .inl k := fun z => h (Sum.inl.inj z)
        rw [decide_eq_false h2, if_neg h, Bool.false_or]; exact ih
  simp only [inT, dctT, keyOf, Option.map_some, this]
/-! loops -/
theorem rangeD_map (lo hi : Int) : rangeD lo hi = (rngI lo hi).map D.int := by
  simp only [rangeD, rngI, List.map_map]; rfl
theorem enumD_map {e : α → D} (l : List α) : ∀ n, enumD n (l.map e) = (enumI n l).map fun p => D.tup [.int p.1, e p.2] := by
  induction l with
  | nil => intro n; rfl
  | cons x l ih => intro n; simp only [List.map_cons, enumD, enumI, ih]
theorem loop_cast {f : Env → D → Option Out} {ds ds' : List D} (e : ds = ds') (h : LoopF f ρ ds' Q) : LoopF f ρ ds Q := by subst e; exact h
theorem loopC_cast {f : Env → D → Option (Option T × Env)} {own : List Nat} {ds ds' : List D} {R : List T → Env → Prop} (e : ds = ds') (h : LoopC f own ρ ds' R) : LoopC f own ρ ds R := by subst e; exact h
def lpN (P : Env → Prop) : Out → Prop
  | .nx ρ => P ρ
  | .ct ρ => P ρ
  | _ => False
theorem lpN_nx {P : Env → Prop} (h : P ρ) : lpN P (.nx ρ) := h
theorem lpN_ct {P : Env → Prop} (h : P ρ) : lpN P (.ct ρ) := h
theorem for_sim {tg : Tgt} {b : Ss} {body : σ → α → Option σ} {e : α → D} {l : List α} {s0 s1 : σ} (E : σ → Env → Prop) (hf : forP body l s0 = some s1) (h0 : E s0 ρ)
    (hs : ∀ (x : α) (s s' : σ) (ρ : Env), x ∈ l → body s x = some s' → E s ρ → oQ (bindD ρ tg (e x)) fun ρ2 => wSs G b ρ2 (lpN (E s')))
    (hd : ∀ ρ, E s1 ρ → Q (.nx ρ)) : LoopF (fun ρ d => (bindD ρ tg d).bind fun ρ2 => evSs G b ρ2) ρ (l.map e) Q := by
  constructor
  induction l generalizing s0 ρ with
  | nil => cases hf; exact ⟨_, rfl, hd ρ h0⟩
  | cons x l ih =>
    obtain ⟨s', h1, h2⟩ := bnd hf
    obtain ⟨ρ2, e1, h3⟩ := oQ_ok (hs x s0 s' ρ (by simp) h1 h0)
    obtain ⟨o, e2, q⟩ := wSs_ok b h3
    rw [List.map_cons]
    unfold forLoop
    simp only [e1, Option.bind_some, e2]
    cases o with
    | nx ρ' => exact ih h2 q fun y s s' ρ hy => hs y s s' ρ (by simp [hy])
    | ct ρ' => exact ih h2 q fun y s s' ρ hy => hs y s s' ρ (by simp [hy])
    | bk ρ' => exact q.elim
    | rt t ρ' => exact q.elim
def lpR (E : σ → Env → Prop) (R : β → Out → Prop) (r : σ ⊕ β) : Out → Prop
  | .nx ρ => ∃ s, r = .inl s ∧ E s ρ
  | .ct ρ => ∃ s, r = .inl s ∧ E s ρ
  | .rt t ρ => ∃ b, r = .inr b ∧ R b (.rt t ρ)
  | .bk _ => False
theorem lpR_nx {E : σ → Env → Prop} {R : β → Out → Prop} {s : σ} (h : E s ρ) : lpR E R (.inl s) (.nx ρ) := ⟨s, rfl, h⟩
theorem lpR_ct {E : σ → Env → Prop} {R : β → Out → Prop} {s : σ} (h : E s ρ) : lpR E R (.inl s) (.ct ρ) := ⟨s, rfl, h⟩
theorem lpR_rt {E : σ → Env → Prop} {R : β → Out → Prop} {b : β} (h : R b (.rt t ρ)) : lpR E R (.inr b) (.rt t ρ) := ⟨b, rfl, h⟩
theorem for_simR {tg : Tgt} {b : Ss} {body : σ → α → Option (σ ⊕ β)} {e : α → D} {l : List α} {s0 : σ} {r : σ ⊕ β} (E : σ → Env → Prop) (R : β → Out → Prop) (hf : forR body l s0 = some r) (h0 : E s0 ρ)
    (hs : ∀ (x : α) (s : σ) (r : σ ⊕ β) (ρ : Env), x ∈ l → body s x = some r → E s ρ → oQ (bindD ρ tg (e x)) fun ρ2 => wSs G b ρ2 (lpR E R r))
    (hd : ∀ s ρ, r = .inl s → E s ρ → Q (.nx ρ)) (hr : ∀ b t ρ, r = .inr b → R b (.rt t ρ) → Q (.rt t ρ)) : LoopF (fun ρ d => (bindD ρ tg d).bind fun ρ2 => evSs G b ρ2) ρ (l.map e) Q := by
  constructor
  induction l generalizing s0 ρ with
  | nil => cases hf; exact ⟨_, rfl, hd s0 ρ rfl h0⟩
  | cons x l ih =>
    obtain ⟨r', h1, h2⟩ := bnd hf
    obtain ⟨ρ2, e1, h3⟩ := oQ_ok (hs x s0 r' ρ (by simp) h1 h0)
    obtain ⟨o, e2, q⟩ := wSs_ok b h3
    rw [List.map_cons]
    unfold forLoop
    simp only [e1, Option.bind_some, e2]
    cases o with
    | nx ρ' => obtain ⟨s, rfl, q⟩ := q; exact ih h2 q fun y s r ρ hy => hs y s r ρ (by simp [hy])
    | ct ρ' => obtain ⟨s, rfl, q⟩ := q; exact ih h2 q fun y s r ρ hy => hs y s r ρ (by simp [hy])
    | bk ρ' => exact q.elim
    | rt t ρ' =>
      obtain ⟨b', rfl, q⟩ := q
      cases h2
      exact ⟨_, rfl, hr b' t ρ' rfl q⟩
theorem wh_sim {c : Tc} {b : Ss} {tb : σ → Option Bool} {body : σ → Option σ} {n : Nat} {s0 s1 : σ} (E : σ → Env → Prop) (hf : whP tb body n s0 = some s1) (h0 : E s0 ρ)
    (ht : ∀ (s : σ) (k : Bool) (ρ : Env), tb s = some k → E s ρ → wT G c ρ fun k' ρ1 => k' = k ∧ E s ρ1)
    (hs : ∀ (s s' : σ) (ρ : Env), tb s = some true → body s = some s' → E s ρ → wSs G b ρ (lpN (E s')))
    (hd : ∀ ρ, tb s1 = some false → E s1 ρ → Q (.nx ρ)) : LoopW (evT G c) (evSs G b) n ρ Q := by
  constructor
  induction n generalizing s0 ρ with
  | zero => cases hf
  | succ n ih =>
    obtain ⟨k, h1, h2⟩ := bnd hf
    obtain ⟨k', ρ1, e1, rfl, g⟩ := wT_ok c (ht s0 k ρ h1 h0)
    unfold whLoop
    rw [e1]
    cases k' with
    | false =>
      simp only [Bool.false_eq_true, if_false] at h2
      cases h2
      exact ⟨_, rfl, hd ρ1 h1 g⟩
    | true =>
      simp only [if_true] at h2
      obtain ⟨s', h3, h4⟩ := bnd h2
      obtain ⟨o, e2, q⟩ := wSs_ok b (hs s0 s' ρ1 h1 h3 g)
      simp only [e2]
      cases o with
      | nx ρ' => exact ih h4 q
      | ct ρ' => exact ih h4 q
      | bk ρ' => exact q.elim
      | rt t ρ' => exact q.elim
/-- a turn of a comprehension -/
def lcB (G : Gam) (tests : Tco) (elt : C) (own : List Nat) (e2 : β → D) (P : Env → Prop) (o : Option β) (ρ2 : Env) : Prop := match tests with
  | .none => wC G elt ρ2 fun v ρ3 => oQ (fzVal ρ3 v) fun p => (∃ y, o = some y ∧ p.1 = .fz (e2 y)) ∧ P (wipeE p.2 own)
  | .some t => wT G t ρ2 fun k ρ3 => (k = true → wC G elt ρ3 fun v ρ4 => oQ (fzVal ρ4 v) fun p => (∃ y, o = some y ∧ p.1 = .fz (e2 y)) ∧ P (wipeE p.2 own)) ∧ (k = false → o = none ∧ P (wipeE ρ3 own))
theorem lcB_none {elt : C} {own : List Nat} {e2 : β → D} {P : Env → Prop} {o : Option β} (h : wC G elt ρ2 fun v ρ3 => oQ (fzVal ρ3 v) fun p => (∃ y, o = some y ∧ p.1 = .fz (e2 y)) ∧ P (wipeE p.2 own)) : lcB G .none elt own e2 P o ρ2 := h
theorem lcB_some {elt : C} {own : List Nat} {t : Tc} {e2 : β → D} {P : Env → Prop} {o : Option β} (h : wT G t ρ2 fun k ρ3 => (k = true → wC G elt ρ3 fun v ρ4 => oQ (fzVal ρ4 v) fun p => (∃ y, o = some y ∧ p.1 = .fz (e2 y)) ∧ P (wipeE p.2 own)) ∧ (k = false → o = none ∧ P (wipeE ρ3 own))) : lcB G (.some t) elt own e2 P o ρ2 := h
theorem lc_sim {tg : Tgt} {tests : Tco} {elt : C} {own : List Nat} {f : α → Option (Option β)} {e : α → D} {e2 : β → D} {l : List α} {r : List β} {R : List T → Env → Prop} (P : Env → Prop) (hf : lcP f l = some r) (h0 : P ρ)
    (hs : ∀ (x : α) (o : Option β) (ρ : Env), x ∈ l → f x = some o → P ρ → oQ (bindD ρ tg (e x)) (lcB G tests elt own e2 P o))
    (hd : ∀ ρ, P ρ → R (fzs (r.map e2)) ρ) : LoopC (lcStep tg (evTo G tests) (evC G elt)) own ρ (l.map e) R := by
  constructor
  have go : ∀ (l : List α) (r : List β) (acc : List T) (ρ : Env), (∀ x ∈ l, ∀ (o : Option β) (ρ : Env), f x = some o → P ρ → oQ (bindD ρ tg (e x)) (lcB G tests elt own e2 P o)) →
      lcP f l = some r → P ρ → ∃ ρ5, lcLoop (lcStep tg (evTo G tests) (evC G elt)) own ρ (l.map e) acc = some (acc ++ fzs (r.map e2), ρ5) ∧ P ρ5 := by
    intro l
    induction l with
    | nil => intro r acc ρ _ hf hp; cases hf; exact ⟨ρ, by simp [lcLoop, fzs], hp⟩
    | cons x l ih =>
      intro r acc ρ hx hf hp
      obtain ⟨o, h1, h2⟩ := bnd hf
      obtain ⟨r', h3, h4⟩ := Option.map_eq_some_iff.mp h2
      have st : ∃ ot ρ1, lcStep tg (evTo G tests) (evC G elt) ρ (e x) = some (ot, ρ1) ∧ (ot = o.map fun y => .fz (e2 y)) ∧ P (wipeE ρ1 own) := by
        obtain ⟨ρ2, e1, h⟩ := oQ_ok (hx x (by simp) o ρ h1 hp)
        cases tests with
        | none =>
          have h : wC G elt ρ2 fun v ρ3 => oQ (fzVal ρ3 v) fun p => (∃ y, o = some y ∧ p.1 = .fz (e2 y)) ∧ P (wipeE p.2 own) := h
          obtain ⟨v, ρ3, q1, h⟩ := wC_ok elt h
          obtain ⟨p, q2, ⟨y, q3, q4⟩, q5⟩ := oQ_ok h
          exact ⟨some p.1, p.2, by simp only [lcStep, e1, Option.bind_some, evTo, q1, q2]; rfl, by rw [q3, q4]; rfl, q5⟩
        | some t =>
          have h : wT G t ρ2 fun k ρ3 => (k = true → wC G elt ρ3 fun v ρ4 => oQ (fzVal ρ4 v) fun p => (∃ y, o = some y ∧ p.1 = .fz (e2 y)) ∧ P (wipeE p.2 own)) ∧ (k = false → o = none ∧ P (wipeE ρ3 own)) := h
          obtain ⟨k, ρ3, q0, ha, hb⟩ := wT_ok t h
          cases k with
          | true =>
            obtain ⟨v, ρ4, q1, h⟩ := wC_ok elt (ha rfl)
            obtain ⟨p, q2, ⟨y, q3, q4⟩, q5⟩ := oQ_ok h
            exact ⟨some p.1, p.2, by simp only [lcStep, e1, Option.bind_some, evTo, q0, q1, q2]; rfl, by rw [q3, q4]; rfl, q5⟩
          | false =>
            obtain ⟨q1, q2⟩ := hb rfl
            exact ⟨none, ρ3, by simp only [lcStep, e1, Option.bind_some, evTo, q0], by rw [q1]; rfl, q2⟩
      obtain ⟨ot, ρ1, e1, rfl, hp1⟩ := st
      rw [List.map_cons]
      unfold lcLoop
      rw [e1]
      cases o with
      | none =>
        obtain ⟨ρ5, g1, g2⟩ := ih r' acc _ (fun y hy => hx y (by simp [hy])) h3 hp1
        subst h4
        exact ⟨ρ5, g1, g2⟩
      | some y =>
        obtain ⟨ρ5, g1, g2⟩ := ih r' (acc ++ [.fz (e2 y)]) _ (fun y hy => hx y (by simp [hy])) h3 hp1
        subst h4
        refine ⟨ρ5, ?_, g2⟩
        simp only [Option.map_some]
        rw [g1]
        simp [fzs]
  obtain ⟨ρ5, g1, g2⟩ := go l r [] ρ (fun x hx o ρ => hs x o ρ hx) hf h0
  exact ⟨_, ρ5, g1, by simpa using hd ρ5 g2⟩
end
end
end Mv
namespace Mv
open PySem L2
abbrev eL {α : Type} (e : α → D) (l : List α) : D := .list (l.map e)
def eO : Option Int → D
  | none => .none
  | some i => .int i
abbrev mx2 (i j : Int) : Int := if j > i then j else i
abbrev mn2 (i j : Int) : Int := if j < i then j else i
abbrev absI (i : Int) : Int := if i < 0 then -i else i
section
variable {G : Gam} {ρ ρ1 ρ2 : Env} {Q : Val → Env → Prop} {α β : Type}
/-- what is frozen as it is read -/
def FzK (v : Val) (ρ : Env) (Q : Val → Env → Prop) : Prop := oQ (fzVal ρ v) fun p => Q (.t (.fz p.1.toD)) p.2
theorem w_fzvK {c : C} (h : wC G c ρ fun v ρ1 => FzK v ρ1 Q) : wC G (.fzv c) ρ Q := w_fzv h
theorem fzk_fz {d : D} (h : Q (.t (.fz d)) ρ) : FzK (.t (.fz d)) ρ Q := h
theorem fzk_fl {ds : List D} (h : Q (.t (.fz (.list ds))) ρ) : FzK (.t (T.fl ds)) ρ Q := by
  show Q (.t (.fz (T.fl ds).toD)) ρ
  rw [fl_toD]; exact h
theorem fzk_to {t : T} {d : D} (e : t.toD = d) (h : Q (.t (.fz d)) ρ) : FzK (.t t) ρ Q := by
  show Q (.t (.fz t.toD)) ρ
  rw [e]; exact h
theorem fzk_pt {i : Nat} {e : α → D} {l : List α} (g : ρ[i]? = some (.ow (T.fl (l.map e)))) (e2 : ρ.set i (.ow (.fz (.list (l.map e)))) = ρ2) (h : Q (.t (.fz (.list (l.map e)))) ρ2) : FzK (.pt i none) ρ Q := by
  unfold FzK
  rw [fzVal_fl g e2]
  exact h
theorem fzk_ptk {i k : Nat} {t : T} {d : D} (g : fzVal ρ (.pt i (some k)) = some (t, ρ2)) (e : t.toD = d) (h : Q (.t (.fz d)) ρ2) : FzK (.pt i (some k)) ρ Q := by
  unfold FzK
  rw [g]
  show Q (.t (.fz t.toD)) ρ2
  rw [e]; exact h
theorem tru_t {t : T} {b : Bool} {R : Bool → Prop} (e : truT t = some b) (c : b = true) (h : R true) : oQ (truT t) R := by rw [e]; subst c; exact h
theorem tru_f {t : T} {b : Bool} {R : Bool → Prop} (e : truT t = some b) (c : ¬ b = true) (h : R false) : oQ (truT t) R := by
  rw [e]
  have : b = false := by simpa using c
  subst this; exact h
theorem wipe_nil : wipeE ρ [] = ρ := rfl
theorem wipe_cons {o : Nat} {os : List Nat} (h : wipeE ρ os = ρ1) (na : NoAl ρ1) (e : ρ1.set o .no = ρ2) : wipeE ρ (o :: os) = ρ2 := by
  simp only [wipeE, h, na.kills, e]
theorem wipe_1 {o : Nat} (na : NoAl ρ) (e : ρ.set o .no = ρ2) : wipeE ρ [o] = ρ2 := by
  simp only [wipeE, na.kills, e]
theorem wipe_2 {o p : Nat} (na : NoAl ρ) (e : ρ.set p .no = ρ1) (na1 : NoAl ρ1) (e2 : ρ1.set o .no = ρ2) : wipeE ρ [o, p] = ρ2 := by
  simp only [wipeE, na.kills, e, na1.kills, e2]
theorem fzs_len {e : α → D} {l : List α} {n : Nat} (h : l.length ≤ n) : (fzs (l.map e)).length ≤ n := by
  unfold fzs; simpa using h
theorem w_lciK {own : List (Str × Nat)} {i : Nat} {tg : Tgt} {tests : Tco} {elt : C} {ks : List Key} {ts0 : List T} {ds : List D} {ρ0 : Env} (na : NoAl ρ) (e1 : ρ[i]? = some (Slot.ow (.dct ks ts0))) (e0 : ρ.set i .no = ρ0) (e2 : T.unfzs ts0 = some ds) (e3 : ds.all flatD = true)
    (h : ownOk ρ0 (own.map (·.2)) = true ∧ LoopC (lcStep tg (evTo G tests) (evC G elt)) (own.map (·.2)) (wipeE ρ0 (own.map (·.2))) (itemsD ks ds) fun ts ρ5 => ts.length ≤ sizeLine ∧ NoAl (restore ρ0 (own.map (·.2)) ρ5) ∧ Q (.t (.lst ts)) ((restore ρ0 (own.map (·.2)) ρ5).set i (.ow (.dct ks ts0)))) : wC G (.lci own i tg tests elt) ρ Q := by
  subst e0
  obtain ⟨h1, ts, ρ5, e4, hz, na5, q⟩ := h
  refine w_lci ⟨ks, ts0, ds, e1, e2, e3, rfl, ?_⟩
  rw [na.kills]
  exact ⟨ts, ρ5, e4, hz, by rw [na5.kills]; exact q⟩
theorem w_mvK {i : Nat} {t : T} (na : NoAl ρ) (e : ρ[i]? = some (.ow t)) (e2 : ρ.set i .no = ρ2) (h : Q (.t t) ρ2) : wC G (.mv i) ρ Q := w_mv_in e (by rw [na.kills, e2]; exact h)
theorem isNone_eO (o : Option Int) : isNone (.fz (eO o)) = o.isNone := by cases o <;> rfl
theorem wc_isO_t {o : Option Int} {R : Bool → Prop} (c : o.isNone = true) (h : R true) : wCmp .Is (.fz (eO o)) (.fz .none) R := wc_is (by rw [isNone_eO, c]) h
theorem wc_isO_f {o : Option Int} {R : Bool → Prop} (c : ¬ o.isNone = true) (h : R false) : wCmp .Is (.fz (eO o)) (.fz .none) R := wc_is (b := false) (by rw [isNone_eO]; cases o <;> simp_all) h
theorem wc_isnotO_t {o : Option Int} {R : Bool → Prop} (c : ¬ o.isNone = true) (h : R true) : wCmp .IsNot (.fz (eO o)) (.fz .none) R := wc_isnot (b := false) (by rw [isNone_eO]; cases o <;> simp_all) h
theorem wc_isnotO_f {o : Option Int} {R : Bool → Prop} (c : ¬ ¬ o.isNone = true) (h : R false) : wCmp .IsNot (.fz (eO o)) (.fz .none) R := wc_isnot (b := true) (by rw [isNone_eO]; cases o <;> simp_all) h
end
def deqG (a b : D) : Option Bool := deq a b
end Mv
namespace Mv
theorem ift {α : Type} {c : Prop} [Decidable c] {p q : Option α} {r : α} (h : c) (e : (if c then p else q) = some r) : p = some r := by rwa [if_pos h] at e
theorem iff_ {α : Type} {c : Prop} [Decidable c] {p q : Option α} {r : α} (h : ¬ c) (e : (if c then p else q) = some r) : q = some r := by rwa [if_neg h] at e
end Mv
namespace Mv
section
variable {ρ ρ2 : Env} {j i : Nat} {x vi y t : T} {ts : List T} {vs : List Val} {io : List Bool} {ds : List D} {d : D}
theorem kix_set (na : NoAl ρ) (e : setPt ρ j none y = some ρ2) : setPt (kIx ρ j none x vi) j none y = some ρ2 := by simp only [kIx, na.kills, e]
theorem argT_nil : argTs ρ [] [] = some [] := rfl
theorem argT_fz (h : argTs ρ io vs = some ts) : argTs ρ (false :: io) (.t (.fz d) :: vs) = some (.fz d :: ts) := by
  simp only [argTs, resolve, h, T.toD]
theorem argT_fl (h : argTs ρ io vs = some ts) : argTs ρ (false :: io) (.t (T.fl ds) :: vs) = some (.fz (.list ds) :: ts) := by
  simp only [argTs, resolve, h, fl_toD]
theorem argT_pt (e : getPt ρ i none = some (T.fl ds)) (h : argTs ρ io vs = some ts) : argTs ρ (false :: io) (.pt i none :: vs) = some (.fz (.list ds) :: ts) := by
  simp only [argTs, resolve, e, h, fl_toD]
theorem argT_io (e : slotT ρ[i]? = some t) (h : argTs ρ io vs = some ts) : argTs ρ (true :: io) (.pt i none :: vs) = some (t :: ts) := by
  simp only [argTs, e, h]
theorem noTup_fl (ds : List D) : (T.fl ds).noTup = true := by
  show T.noTups (fzs ds) = true
  induction ds with
  | nil => rfl
  | cons d ds ih =>
    show (T.noTup (.fz d) && T.noTups (fzs ds)) = true
    rw [ih]; rfl
theorem br_nil : brOk ρ [] = true := rfl
theorem br_fl {is : List Nat} (e : slotT ρ[i]? = some (T.fl ds)) (h : brOk ρ is = true) : brOk ρ (i :: is) = true := by
  simp only [brOk, List.all_cons, e, noTup_fl, Bool.true_and]
  exact h
theorem rd_ok {ios : List T} {is : List Nat} (h : rdSlots io vs = is) (hi : t.imm = true) (hios : T.imms ios = true) (hb : brOk ρ is = true) : ((rdSlots io vs).isEmpty || (t.imm && T.imms ios && brOk ρ (rdSlots io vs))) = true := by
  subst h
  rw [hi, hios, hb]
  simp
end
end Mv
namespace Mv
section
variable {a b : T} {d1 d2 : D} {x : Bool} {op : PySem.CmpOp} {R : Bool → Prop}
theorem cmp_eq (e1 : a.toD = d1) (e2 : b.toD = d2) (g : deqG d1 d2 = some x) : cmpT .Eq a b = some x := by subst e1 e2; exact g
theorem cmp_ne (e1 : a.toD = d1) (e2 : b.toD = d2) (g : deqG d1 d2 = some x) : cmpT .NotEq a b = some (!x) := by
  subst e1 e2
  unfold deqG at g
  simp only [cmpT, g, Option.map_some]
theorem wCmp_in_t (e : cmpT op a b = some x) (c : x = true) (h : R true) : wCmp op a b R := wCmp_in e (c ▸ h)
theorem wCmp_in_f (e : cmpT op a b = some x) (c : ¬ x = true) (h : R false) : wCmp op a b R := wCmp_in e (by rw [show x = false by simpa using c]; exact h)
theorem wCmp_inN_t (e : cmpT .Eq a b = some x) (c : ¬ x = true) (h : R true) : wCmp .NotEq a b R := wCmp_in (b := !x) (by simp only [cmpT] at e ⊢; rw [e]; rfl) (by rw [show x = false by simpa using c]; exact h)
theorem wCmp_inN_f (e : cmpT .Eq a b = some x) (c : ¬ ¬ x = true) (h : R false) : wCmp .NotEq a b R := wCmp_in (b := !x) (by simp only [cmpT] at e ⊢; rw [e]; rfl) (by rw [show x = true from Decidable.not_not.mp c]; exact h)
end
end Mv
namespace Mv
theorem fzk_ptE {α : Type} {ρ ρ2 : Env} {Q : Val → Env → Prop} {i k : Nat} {ts : List T} {e : α → D} {l : List α} (g : ρ[i]? = some (.ow (.lst ts))) (hk : ts[k]? = some (T.fl (l.map e))) (e2 : ρ.set i (.ow (.lst (ts.set k (.fz (.list (l.map e)))))) = ρ2) (h : Q (.t (.fz (.list (l.map e)))) ρ2) : FzK (.pt i (some k)) ρ Q := by
  have hl : k < ts.length := (List.getElem?_eq_some_iff.mp hk).1
  have a : getPt ρ i (some k) = some (T.fl (l.map e)) := by simp only [getPt, g, slotT, hk]
  have b : fzVal ρ (.pt i (some k)) = some (.fz (.list (l.map e)), ρ2) := by
    simp only [fzVal, a, setPt, g, slotT, if_pos hl, setSlotT, fl_toD, Option.map_some, e2]
  unfold FzK
  rw [b]
  exact h
end Mv
namespace Mv
open PySem L2
section
variable {G : Gam} {ρ ρ1 ρ2 : Env} {Q : Val → Env → Prop} {α β : Type} {va : Val} {x y : T} {e : α → D} {l : List α}
def RvK (va : Val) (ρ : Env) (Q : Val → Env → Prop) : Prop := oQ (resolve ρ va) fun x => oQ x.flat fun ds => Q (.t (T.fl ds.reverse)) ρ
theorem w_rvK {a : C} (h : wC G a ρ fun va ρ1 => RvK va ρ1 Q) : wC G (.rv a) ρ Q := w_rv h
theorem rvk (hr : resolve ρ va = some x) (hf : x.flat = some (l.map e)) (h : Q (.t (T.fl (l.reverse.map e))) ρ) : RvK va ρ Q := by
  unfold RvK
  rw [hr]
  show oQ x.flat _
  rw [hf]
  show Q (.t (T.fl (l.map e).reverse)) ρ
  rw [← List.map_reverse]; exact h
def LrK (i j : Int) (ρ : Env) (Q : Val → Env → Prop) : Prop := okRg i j = true ∧ Q (.t (T.fl (rangeD i j))) ρ
theorem w_lrg1K {a : C} (h : wC G a ρ fun v ρ1 => vInt v fun i => LrK 0 i ρ1 Q) : wC G (.lrg1 a) ρ Q := w_lrg1 h
theorem w_lrg2K {a b : C} (h : wC G a ρ fun v ρ1 => wC G b ρ1 fun w ρ2 => vInt v fun i => vInt w fun j => LrK i j ρ2 Q) : wC G (.lrg2 a b) ρ Q := w_lrg2 h
def lrgG (i j : Int) : Option (List Int) := if okRg i j then some (rngI i j) else none
theorem lrgG_some {i j : Int} {r : List Int} (h : lrgG i j = some r) : okRg i j = true ∧ r = rngI i j := by
  unfold lrgG at h
  split at h
  · cases h; exact ⟨‹_›, rfl⟩
  · cases h
theorem lrk {i j : Int} (k : okRg i j = true) (h : Q (.t (T.fl ((rngI i j).map D.int))) ρ) : LrK i j ρ Q := ⟨k, by rw [rangeD_map]; exact h⟩
theorem cntk {l : List Int} {w : Bool} {K : List Int → Prop} (hs : stands va w = true) (h1 : resolve ρ1 va = some x) (f1 : x.flat = some (l.map D.int)) (h2 : resolve ρ2 va = some y) (f2 : y.flat = some (l.map D.int)) (h : K l) :
    (stands va w && ((resolve ρ1 va).bind T.flat).isSome) = true ∧ oQ (((resolve ρ2 va).bind T.flat).bind intsOf) K := by
  refine ⟨by rw [hs, h1]; simp only [Option.bind_some, f1]; rfl, ?_⟩
  rw [h2]
  simp only [Option.bind_some, f2, intsOf_map]
  exact h
def idxG (e : α → D) (d : D) (l : List α) : Option Int := if flatD d && (l.map e).all flatD then (idxD d (l.map e) 0).map fun (j : Nat) => (j : Int) else none
theorem idxG_some {d : D} {i : Int} (h : idxG e d l = some i) : flatD d = true ∧ (l.map e).all flatD = true ∧ ∃ j : Nat, idxD d (l.map e) 0 = some j ∧ i = (j : Int) := by
  unfold idxG at h
  split at h
  · rename_i k
    rw [Bool.and_eq_true] at k
    obtain ⟨j, hj, rfl⟩ := Option.map_eq_some_iff.mp h
    exact ⟨k.1, k.2, j, hj, rfl⟩
  · cases h
theorem idxk {d : D} {w : Bool} {j : Nat} {K : Nat → Prop} (hs : stands va w = true) (h1 : resolve ρ1 va = some x) (f1 : x.flat = some (l.map e)) (h2 : resolve ρ2 va = some y) (f2 : y.flat = some (l.map e)) (fd : flatD d = true) (fl : (l.map e).all flatD = true) (hj : idxD d (l.map e) 0 = some j) (h : K j) :
    (stands va w && ((resolve ρ1 va).bind T.flat).isSome && flatD d) = true ∧ oQ ((resolve ρ2 va).bind T.flat) fun ds => ds.all flatD = true ∧ oQ (idxD d ds 0) K := by
  refine ⟨by rw [hs, h1, fd]; simp only [Option.bind_some, f1]; rfl, ?_⟩
  rw [h2]
  simp only [Option.bind_some, f2]
  exact ⟨fl, oQ_in hj h⟩
theorem cmp_in {kv : List (Int × α)} {k : Int} : cmpT .In (iT k) (dctT e kv) = some (getI kv k).isSome := in_dct (e := e)
theorem wCmp_inNI_t {a b : T} {x : Bool} {R : Bool → Prop} (e : cmpT .In a b = some x) (c : ¬ x = true) (h : R true) : wCmp .NotIn a b R := wCmp_in (b := !x) (by simp only [cmpT] at e ⊢; rw [e]; rfl) (by rw [show x = false by simpa using c]; exact h)
theorem wCmp_inNI_f {a b : T} {x : Bool} {R : Bool → Prop} (e : cmpT .In a b = some x) (c : ¬ ¬ x = true) (h : R false) : wCmp .NotIn a b R := wCmp_in (b := !x) (by simp only [cmpT] at e ⊢; rw [e]; rfl) (by rw [show x = true from Decidable.not_not.mp c]; exact h)
theorem any_int {k : Int} : ∀ l : List Int, (l.map D.int).any (fun z => PyData.eqv z.toPy (D.int k).toPy) = decide (k ∈ l)
  | [] => rfl
  | x :: l => by
    rw [List.map_cons, List.any_cons, any_int l]
    simp only [D.toPy, PyData.eqv, List.mem_cons, Bool.decide_or]
    congr 1
    exact decide_eq_decide.mpr ⟨fun h => h.symm, fun h => h.symm⟩
theorem shps_int : ∀ (n : Nat) (l : List Int), D.shps n (l.map D.int) = true
  | n, [] => by cases n <;> rfl
  | n, x :: l => by
    have a : (D.int x).shp n = true := by cases n <;> rfl
    have b := shps_int n l
    cases n <;> simp_all [D.shps]
theorem cmp_inL {k : Int} {l : List Int} (h : x.flat = some (l.map D.int)) (nd : ∀ ks ts, x ≠ .dct ks ts) (nd2 : ∀ ks ds, x ≠ .fz (.dict ks ds)) (nt : ∀ ds, x ≠ .fz (.tup ds)) : cmpT .In (iT k) x = some (decide (k ∈ l)) := by
  show inT (iT k) x = _
  unfold inT
  split
  · exact absurd rfl (nd _ _)
  · exact absurd rfl (nd2 _ _)
  · exact absurd rfl (nt _)
  · rw [h]
    have a : (T.fz (D.int k)).toD.shp 60 = true := rfl
    simp only [a, shps_int, Bool.and_self, if_true]
    show some ((l.map D.int).any (fun z => PyData.eqv z.toPy (D.int k).toPy)) = _
    rw [any_int]
theorem cmp_inFl {k : Int} {l : List Int} : cmpT .In (iT k) (T.fl (l.map D.int)) = some (decide (k ∈ l)) := cmp_inL (flat_fl _) (fun _ _ z => nomatch z) (fun _ _ z => nomatch z) (fun _ z => nomatch z)
theorem cmp_inLl {k : Int} {l : List Int} : cmpT .In (iT k) (.fz (.list (l.map D.int))) = some (decide (k ∈ l)) := cmp_inL rfl (fun _ _ z => nomatch z) (fun _ _ z => nomatch z) (fun _ z => nomatch z)
end
end Mv
namespace Mv
theorem augT_mul {i j : Int} (h1 : okI i = true) (h2 : okI j = true) : augT .Mult (.fz (.int i)) (.fz (.int j)) = some (.fz (.int (i * j))) := by
  simp only [augT, Mv.intOp, h1, h2, Bool.and_self, if_true, Option.map_some]
end Mv
namespace Mv
section
variable {α : Type} {e : α → D} {l : List α} {t : T}
def unp2 : List α → Option (α × α)
  | [a, b] => some (a, b)
  | _ => none
def unp3 : List α → Option (α × α × α)
  | [a, b, c] => some (a, b, c)
  | _ => none
theorem flat_unp2 {p : α × α} (h : t.flat = some (l.map e)) (g : unp2 l = some p) : t.flat = some [e p.1, e p.2] := by
  unfold unp2 at g
  split at g
  · cases g; exact h
  · cases g
theorem flat_unp3 {p : α × α × α} (h : t.flat = some (l.map e)) (g : unp3 l = some p) : t.flat = some [e p.1, e p.2.1, e p.2.2] := by
  unfold unp3 at g
  split at g
  · cases g; exact h
  · cases g
end
end Mv
namespace Mv
/-- one of some owned lists -/
theorem ixVal_nest {α : Type} {ρ : Env} {e : α → D} {ll : List (List α)} {i : Int} {x : List α} {ts : List T} (hts : ts = ll.map fun l => T.fl (l.map e)) (h : ixG ll i = some x) : ixVal ρ (.t (.lst ts)) (iT i) = some (.t (T.fl (x.map e))) := by
  subst hts
  obtain ⟨k, h1, h2⟩ := bnd h
  simp only [ixVal, getIx, List.length_map, h1, List.getElem?_map, h2, Option.map_some]
end Mv
namespace Mv
open PySem L2
section
variable {α : Type} {e : α → D} {kv : List (Int × α)} {k : Int} {ρ ρ2 : Env} {i : Nat} {io : List Bool} {vs : List Val} {ts : List T}
abbrev eDct (e : α → D) (kv : List (Int × α)) : D := .dict (kv.map fun p => .inl p.1) (kv.map fun p => e p.2)
theorem toDs_map2 {β : Type} (g : β → D) (l : List β) : T.toDs (l.map fun p => T.fz (g p)) = l.map g := by
  induction l with
  | nil => rfl
  | cons x l ih =>
    show T.toD (.fz (g x)) :: T.toDs (l.map fun p => T.fz (g p)) = g x :: l.map g
    rw [ih]; rfl
theorem dct_toD : (dctT e kv).toD = eDct e kv := by
  show D.dict _ (T.toDs (kv.map fun p => T.fz (e p.2))) = _
  rw [toDs_map2 (fun p : Int × α => e p.2)]
theorem fzs_map {β : Type} (g : β → D) (l : List β) : fzs (l.map g) = l.map fun p => T.fz (g p) := by
  unfold fzs; rw [List.map_map]; rfl
theorem in_z : inT (iT k) (.fz (eDct e kv)) = some (getI kv k).isSome := in_dct (e := e)
theorem cmp_inZ : cmpT .In (iT k) (.fz (eDct e kv)) = some (getI kv k).isSome := in_z (e := e)
theorem dGet_z {v : α} (h : getI kv k = some v) : dGet (kv.map fun p => .inl p.1) (fzs (kv.map fun p => e p.2)) (iT k) = some (e v) := by
  rw [fzs_map]; exact dGet_dct h
theorem get_z {d : α} {R : D → Prop} (h : R (e ((getI kv k).getD d))) :
    ∃ x, ((findK (.inl k) (kv.map fun p => (.inl p.1 : Key)) (fzs (kv.map fun p => e p.2)) = some (.fz x)) ∨ (findK (.inl k) (kv.map fun p => (.inl p.1 : Key)) (fzs (kv.map fun p => e p.2)) = none ∧ x = e d)) ∧ R x := by
  rw [fzs_map]; exact get_g h
theorem argT_dct (h0 : getPt ρ i none = some (dctT e kv)) (h : argTs ρ io vs = some ts) : argTs ρ (false :: io) (.pt i none :: vs) = some (.fz (eDct e kv) :: ts) := by
  simp only [argTs, resolve, h0, h, dct_toD]
theorem noTups_fz {β : Type} (g : β → D) (l : List β) : T.noTups (l.map fun p => T.fz (g p)) = true := by
  induction l with
  | nil => rfl
  | cons x l ih =>
    show (T.noTup (.fz (g x)) && T.noTups (l.map fun p => T.fz (g p))) = true
    rw [ih]; rfl
theorem br_dct {is : List Nat} (h0 : slotT ρ[i]? = some (dctT e kv)) (h : brOk ρ is = true) : brOk ρ (i :: is) = true := by
  have : (dctT e kv).noTup = true := noTups_fz (fun p : Int × α => e p.2) kv
  simp only [brOk, List.all_cons, h0, this, Bool.true_and]
  exact h
theorem any_str {x : Str} : ∀ l : List Str, (l.map D.str).any (fun z => PyData.eqv z.toPy (D.str x).toPy) = decide (x ∈ l)
  | [] => rfl
  | y :: l => by
    rw [List.map_cons, List.any_cons, any_str l]
    simp only [D.toPy, PyData.eqv, List.mem_cons, Bool.decide_or]
    congr 1
    by_cases h : y = x
    · subst h; simp
    · simp [h, Ne.symm h]
theorem all_flat_str : ∀ l : List Str, (l.map D.str).all flatD = true
  | [] => rfl
  | y :: l => by rw [List.map_cons, List.all_cons, all_flat_str l]; rfl
theorem cmp_inStr {x : Str} {l : List Str} : cmpT .In (.fz (.str x)) (.fz (.tup (l.map D.str))) = some (decide (x ∈ l)) := by
  show inT (.fz (.str x)) (.fz (.tup (l.map D.str))) = _
  have a : flatD (.str x) = true := rfl
  simp only [inT, a, all_flat_str, Bool.and_self, if_true, any_str]
end
end Mv
namespace Mv
theorem wCmp_inNIv {a b : T} {x : Bool} {R : Bool → Prop} (e : cmpT .In a b = some x) (h : R (!x)) : wCmp .NotIn a b R := wCmp_in (b := !x) (by simp only [cmpT] at e ⊢; rw [e]; rfl) h
end Mv

end
section
set_option maxRecDepth 10000
set_option exponentiation.threshold 9000
/-! Reckoning with partial functions: what ends and holds. -/
namespace Mv
open PySem L2
section
variable {α β σ : Type}
def OK (o : Option α) (Q : α → Prop) : Prop := ∃ x, o = some x ∧ Q x
theorem ok_some {x : α} {Q : α → Prop} (h : Q x) : OK (some x) Q := ⟨x, rfl, h⟩
theorem ok_bind {o : Option α} {k : α → Option β} {Q : β → Prop} (h : OK o fun x => OK (k x) Q) : OK (o.bind k) Q := by
  obtain ⟨x, rfl, y, e, q⟩ := h
  exact ⟨y, e, q⟩
theorem ok_mono {o : Option α} {P Q : α → Prop} (h : OK o P) (k : ∀ x, P x → Q x) : OK o Q := by
  obtain ⟨x, e, q⟩ := h
  exact ⟨x, e, k x q⟩
theorem ok_call {o : Option α} {k : α → Option β} {P : α → Prop} {Q : β → Prop} (h : OK o P) (c : ∀ x, P x → OK (k x) Q) : OK (o.bind k) Q := ok_bind (ok_mono h c)
theorem ok_eq {o : Option α} {x : α} {k : α → Option β} {Q : β → Prop} (e : o = some x) (h : OK (k x) Q) : OK (o.bind k) Q := by subst e; exact h
theorem ok_get {o : Option α} {x : α} (h : OK o fun y => y = x) : o = some x := by
  obtain ⟨y, e, rfl⟩ := h; exact e
theorem ok_of {o : Option α} {x : α} {Q : α → Prop} (e : o = some x) (h : Q x) : OK o Q := ⟨x, e, h⟩
theorem ok_if {c : Prop} [Decidable c] {p q : Option α} {Q : α → Prop} (h1 : c → OK p Q) (h2 : ¬ c → OK q Q) : OK (if c then p else q) Q := by
  split
  · exact h1 ‹_›
  · exact h2 ‹_›
theorem ok_ift {c : Prop} [Decidable c] {p q : Option α} {Q : α → Prop} (hc : c) (h1 : OK p Q) : OK (if c then p else q) Q := by rw [if_pos hc]; exact h1
theorem ok_iff {c : Prop} [Decidable c] {p q : Option α} {Q : α → Prop} (hc : ¬ c) (h1 : OK q Q) : OK (if c then p else q) Q := by rw [if_neg hc]; exact h1
/-- a join of two ways -/
theorem ok_join {o : Option α} {k : α → Option β} {Q : β → Prop} (h : OK o fun x => OK (k x) Q) : OK (o.bind k) Q := ok_bind h
theorem mulG_ok {a b : Int} (h1 : okI a = true) (h2 : okI b = true) : mulG a b = some (a * b) := by unfold mulG; rw [h1, h2]; rfl
theorem divG_ok {a b : Int} (h1 : 0 < b) (h2 : okI b = true) : divG a b = some (a / b) := by unfold divG; rw [h2, decide_eq_true h1]; rfl
theorem modG_ok {a b : Int} (h1 : 0 < b) : modG a b = some (a % b) := by unfold modG; rw [if_pos h1]
theorem powG_ok {a : Int} {n : Nat} (h1 : okI a = true) : powG a n = some (a ^ n) := by unfold powG; rw [h1]; rfl
theorem appG_ok {l : List α} {x : α} (h : l.length ≤ 1000000) : appG l x = some (l ++ [x]) := by unfold appG; rw [if_pos (lt_size h)]
theorem catG_ok {l m : List α} (h : l.length + m.length ≤ 1000000) : catG l m = some (l ++ m) := by unfold catG; rw [if_pos (Nat.le_of_lt (lt_size h))]
theorem putG_ok {kv : List (Int × α)} {k : Int} {v : α} (h : kv.length ≤ 1000000) : putG kv k v = some (putI kv k v) := by unfold putG; rw [if_pos (lt_size h)]
theorem repG_ok {l : List α} {n : Int} (h0 : 0 ≤ n) (h1 : n ≤ 1000000000) (h : l.length * n.toNat ≤ 1000000) : repG l n = some (List.replicate n.toNat l).flatten := by
  unfold repG; rw [if_pos ⟨by omega, by omega, Nat.le_of_lt (lt_size h)⟩]
theorem rngG_any {lo hi : Int} : rngG lo hi = some (rngI lo hi) := rfl
theorem rngG_ok {lo hi : Int} (h0 : -1000000000 ≤ lo) (h1 : lo ≤ 1000000000) (h2 : -1000000000 ≤ hi) (h3 : hi ≤ 1000000000) : rngG lo hi = some (rngI lo hi) := rfl
theorem ixG_nn {l : List α} {i : Nat} {x : α} (h : l[i]? = some x) : ixG l (i : Int) = some x := by
  have hl := (List.getElem?_eq_some_iff.mp h).1
  unfold ixG place ixN
  rw [if_pos (by omega), if_pos (by omega)]
  simpa using h
theorem ixG_int {l : List α} {i : Int} {x : α} (h0 : 0 ≤ i) (h : l[i.toNat]? = some x) : ixG l i = some x := by
  have := ixG_nn h
  rwa [Int.toNat_of_nonneg h0] at this
theorem ixG_last {l : List α} {x : α} : ixG (l ++ [x]) (-1) = some x := by
  unfold ixG place
  rw [List.length_append, List.length_singleton, ixN_last]
  simp
theorem stoG_last {l : List α} {x y : α} : stoG (l ++ [x]) (-1) y = some (l ++ [y]) := by
  unfold stoG place
  rw [List.length_append, List.length_singleton, ixN_last]
  simp [List.set_append]
theorem stoG_nn {l : List α} {i : Nat} {x : α} (h : i < l.length) : stoG l (i : Int) x = some (l.set i x) := by
  unfold stoG place ixN
  rw [if_pos (by omega), if_pos (by omega)]
  simp
theorem forP_ok {f : σ → α → Option σ} (Inv : Nat → σ → Prop) {l : List α} {s : σ} (h0 : Inv 0 s) (hs : ∀ (i : Nat) (x : α) (s : σ), l[i]? = some x → Inv i s → OK (f s x) (Inv (i + 1))) : OK (forP f l s) (Inv l.length) := by
  induction l generalizing s Inv with
  | nil => exact ok_some h0
  | cons x l ih =>
    refine ok_call (hs 0 x s rfl h0) fun s' h' => ?_
    exact ih (fun i => Inv (i + 1)) h' fun i y s hy => hs (i + 1) y s (by simpa using hy)
/-- by what was gone through -/
theorem forP_fold {f : σ → α → Option σ} {g : σ → α → σ} {l : List α} {s : σ} (P : σ → Prop) (h0 : P s) (hs : ∀ x s, x ∈ l → P s → f s x = some (g s x) ∧ P (g s x)) : forP f l s = some (l.foldl g s) := by
  induction l generalizing s with
  | nil => rfl
  | cons x l ih =>
    obtain ⟨e, p⟩ := hs x s (by simp) h0
    unfold forP
    rw [e]
    exact ih p fun y s hy => hs y s (by simp [hy])
theorem forR_ok {f : σ → α → Option (σ ⊕ β)} (Inv : Nat → σ → Prop) (R : β → Prop) {l : List α} {s : σ} (h0 : Inv 0 s)
    (hs : ∀ (i : Nat) (x : α) (s : σ), l[i]? = some x → Inv i s → OK (f s x) fun r => match r with | .inl s' => Inv (i + 1) s' | .inr b => R b) :
    OK (forR f l s) fun r => match r with | .inl s' => Inv l.length s' | .inr b => R b := by
  induction l generalizing s Inv with
  | nil => exact ok_some h0
  | cons x l ih =>
    refine ok_call (hs 0 x s rfl h0) fun r h' => ?_
    cases r with
    | inl s' => exact ih (fun i => Inv (i + 1)) h' fun i y s hy => hs (i + 1) y s (by simpa using hy)
    | inr b => exact ok_some h'
/-- a loop that never hands back -/
theorem forR_all {f : σ → α → Option (σ ⊕ β)} (Inv : Nat → σ → Prop) {l : List α} {s : σ} (h0 : Inv 0 s)
    (hs : ∀ (i : Nat) (x : α) (s : σ), l[i]? = some x → Inv i s → OK (f s x) fun r => ∃ s', r = .inl s' ∧ Inv (i + 1) s') :
    OK (forR f l s) fun r => ∃ s', r = .inl s' ∧ Inv l.length s' := by
  refine ok_mono (forR_ok Inv (fun _ => False) h0 fun i x s hx h => ok_mono (hs i x s hx h) ?_) ?_
  · rintro _ ⟨s', rfl, h⟩; exact h
  · rintro (s' | b) h
    · exact ⟨s', rfl, h⟩
    · exact h.elim
theorem whP_ok {t : σ → Option Bool} {f : σ → Option σ} (Inv : Nat → σ → Prop) {R : σ → Prop} {n m : Nat} {s : σ} (hm : m < n) (h0 : Inv m s)
    (hs : ∀ (m : Nat) (s : σ), Inv m s → OK (t s) fun b => if b = true then OK (f s) fun s' => ∃ m', m' < m ∧ Inv m' s' else R s) : OK (whP t f n s) R := by
  induction n generalizing m s with
  | zero => omega
  | succ n ih =>
    unfold whP
    refine ok_call (hs m s h0) fun b h => ?_
    cases b with
    | false => exact ok_some (by simpa using h)
    | true =>
      simp only [if_true] at h ⊢
      exact ok_call h fun s' ⟨m', hm', h'⟩ => ih (by omega) h'
theorem lcP_map {f : α → Option (Option β)} {g : α → Option β} {l : List α} (h : ∀ x ∈ l, f x = some (g x)) : lcP f l = some (l.filterMap g) := by
  induction l with
  | nil => rfl
  | cons x l ih =>
    unfold lcP
    rw [h x (by simp), ih fun y hy => h y (by simp [hy])]
    simp only [Option.bind_some, Option.map_some, List.filterMap_cons]
    cases g x <;> rfl
theorem lcG_ok {f : α → Option (Option β)} {g : α → Option β} {l : List α} (h : ∀ x ∈ l, f x = some (g x)) (hl : l.length ≤ 1000000) : lcG f l = some (l.filterMap g) := by
  unfold lcG
  rw [lcP_map h, Option.bind_some, if_pos]
  exact Nat.le_trans (List.length_filterMap_le ..) (Nat.le_of_lt (lt_size hl))
/-- [g x for x in l if p x] -/
theorem lcG_filter {f : α → Option (Option β)} {p : α → Bool} {g : α → β} {l : List α} (h : ∀ x ∈ l, f x = some (if p x = true then some (g x) else none)) (hl : l.length ≤ 1000000) : lcG f l = some ((l.filter p).map g) := by
  rw [lcG_ok h hl]
  congr 1
  induction l with
  | nil => rfl
  | cons x l ih =>
    rw [List.filterMap_cons, List.filter_cons]
    cases hp : p x <;> simp [hp, ih (fun y hy => h y (by simp [hy])) (by simp at hl; omega)]
theorem lcG_all {f : α → Option (Option β)} {g : α → β} {l : List α} (h : ∀ x ∈ l, f x = some (some (g x))) (hl : l.length ≤ 1000000) : lcG f l = some (l.map g) := by
  rw [lcG_ok (g := fun x => some (g x)) h hl]; congr 1; exact congrFun (List.filterMap_eq_map (f := g)) l
theorem rngI_get {lo hi : Int} {i : Nat} {x : Int} (h : (rngI lo hi)[i]? = some x) : x = lo + i ∧ (i : Int) < hi - lo := by
  have hl := (List.getElem?_eq_some_iff.mp h).1
  unfold rngI at h hl
  rw [List.length_map, List.length_range] at hl
  rw [List.getElem?_map, List.getElem?_range (by simpa using hl)] at h
  simp at h
  exact ⟨h.symm, by omega⟩
theorem rngI_len (lo hi : Int) : (rngI lo hi).length = (hi - lo).toNat := by simp [rngI]
theorem enumI_get (l : List α) : ∀ (n i : Nat) (p : Int × α), (enumI n l)[i]? = some p → l[i]? = some p.2 ∧ p.1 = ((n + i : Nat) : Int) := by
  induction l with
  | nil => intro n i p h; simp [enumI] at h
  | cons x l ih =>
    intro n i p h
    cases i with
    | zero => simp [enumI] at h; subst h; simp
    | succ i =>
      have := ih (n + 1) i p (by simpa [enumI] using h)
      refine ⟨by simpa using this.1, ?_⟩
      rw [this.2]; congr 1; omega
theorem enumI_len (l : List α) : ∀ n, (enumI n l).length = l.length := by
  induction l with
  | nil => intro n; rfl
  | cons x l ih => intro n; simp [enumI, ih]
/-! texts of data -/
theorem strLen_textFrom : ∀ (ts : List Str) (k : Nat) (acc : Str), (textFrom k acc ts).length ≤ acc.length + piled ts
  | [], k, acc => by simp [textFrom, piled]
  | t :: ts, k, acc => by
    unfold textFrom
    have h := strLen_textFrom ts (k + 1) (acc ++ (if k > 0 then ", " else "" : String) ++ t)
    rw [strLen_append, strLen_append] at h
    rw [piled_cons]
    have e : ((if k > 0 then ", " else "" : String) : Str).length ≤ 2 := by split <;> decide
    omega
theorem listText_ub (ts : List Str) : (listText ts).length ≤ 2 + piled ts := by
  unfold listText
  rw [strLen_append]
  have h := strLen_textFrom ts 0 "["
  have e1 : (("[" : String) : Str).length = 1 := rfl
  have e2 : (("]" : String) : Str).length = 1 := rfl
  omega
theorem tupleText_ub (ts : List Str) : (tupleText ts).length ≤ 3 + piled ts := by
  unfold tupleText
  rw [strLen_append, strLen_append]
  have e1 : (("(" : String) : Str).length = 1 := rfl
  have e2 : ((if ts.length == 1 then ",)" else ")" : String) : Str).length ≤ 2 := by split <;> decide
  have e3 : (Str.join ", " ts).length ≤ piled ts := by
    cases ts with
    | nil => decide
    | cons t ts => have := join_length_add (t :: ts) (by simp); omega
  omega
theorem piled_ub {ts : List Str} {m : Nat} (h : ∀ t ∈ ts, t.length ≤ m) : piled ts ≤ ts.length * (m + 2) := by
  induction ts with
  | nil => simp [piled]
  | cons t ts ih =>
    rw [piled_cons]
    have h1 := h t (by simp)
    have h2 := ih fun x hx => h x (by simp [hx])
    rw [List.length_cons, Nat.succ_mul]
    omega
structure RO (m n : Nat) (d : D) : Prop where
  shp : d.shp n = true
  show_ : PyData.showable d.toPy = true
  len : d.toPy.shown.length ≤ m
theorem RO.mono {m m' n : Nat} {d : D} (h : RO m n d) (e : m ≤ m') : RO m' n d := ⟨h.shp, h.show_, Nat.le_trans h.len e⟩
theorem RO.int {n k : Nat} {i : Int} (hk : 0 < k) (hk2 : k ≤ 500) (h : i.natAbs < 10 ^ k) : RO (k + 1) n (.int i) := by
  refine ⟨by cases n <;> rfl, ?_, ?_⟩
  · simp only [D.toPy, PyData.showable, decide_eq_true_eq]
    have h2 : i.natAbs < 2 ^ 1920 := Nat.lt_of_lt_of_le h (Nat.le_trans (Nat.pow_le_pow_right (by decide) hk2) (by decide +kernel))
    by_cases z : i.natAbs = 0
    · rw [z]; decide
    · exact (Nat.log2_lt z).mpr h2
  · simp only [D.toPy, PyData.shown]
    have := int_text_length_le10 hk h
    show (Str.ofString (toString i)).length ≤ k + 1
    rw [ofString_length]; exact this
theorem RO.none {n : Nat} : RO 4 n .none := ⟨by cases n <;> rfl, rfl, by decide⟩
theorem RO.bool {n : Nat} (b : Bool) : RO 5 n (.bool b) := ⟨by cases n <;> rfl, rfl, by cases b <;> decide⟩
theorem RO.all {m n : Nat} {ds : List D} (h : ∀ d ∈ ds, RO m n d) : D.shps n ds = true ∧ PyData.showableAll (D.toPys ds) = true ∧ (∀ t ∈ PyData.shownAll (D.toPys ds), t.length ≤ m) ∧ (PyData.shownAll (D.toPys ds)).length = ds.length := by
  induction ds with
  | nil => exact ⟨by cases n <;> rfl, rfl, by intro t h; simp [D.toPys, PyData.shownAll] at h, rfl⟩
  | cons d ds ih =>
    obtain ⟨a, b, c, e⟩ := ih fun x hx => h x (by simp [hx])
    have r := h d (by simp)
    refine ⟨?_, ?_, ?_, ?_⟩
    · cases n <;> simp [D.shps, r.shp, a]
    · simp [D.toPys, PyData.showableAll, r.show_, b]
    · intro t ht
      simp only [D.toPys, PyData.shownAll, List.mem_cons] at ht
      rcases ht with rfl | ht
      · exact r.len
      · exact c t ht
    · simp [D.toPys, PyData.shownAll, e]
theorem RO.list {m n : Nat} {ds : List D} (h : ∀ d ∈ ds, RO m n d) : RO (2 + ds.length * (m + 2)) (n + 1) (.list ds) := by
  obtain ⟨a, b, c, e⟩ := RO.all h
  refine ⟨by simpa [D.shp] using a, by simpa [D.toPy, PyData.showable] using b, ?_⟩
  simp only [D.toPy, PyData.shown]
  have := listText_ub (PyData.shownAll (D.toPys ds))
  have := piled_ub c
  rw [e] at this
  omega
theorem RO.tup {m n : Nat} {ds : List D} (h : ∀ d ∈ ds, RO m n d) : RO (3 + ds.length * (m + 2)) (n + 1) (.tup ds) := by
  obtain ⟨a, b, c, e⟩ := RO.all h
  refine ⟨by simpa [D.shp] using a, by simpa [D.toPy, PyData.showable] using b, ?_⟩
  simp only [D.toPy, PyData.shown]
  have := tupleText_ub (PyData.shownAll (D.toPys ds))
  have := piled_ub c
  rw [e] at this
  omega
theorem RO.map {γ : Type} {m n : Nat} {l : List γ} {e : γ → D} (h : ∀ x ∈ l, RO m n (e x)) : RO (2 + l.length * (m + 2)) (n + 1) (.list (l.map e)) := by
  have := RO.list (ds := l.map e) (m := m) (n := n) fun d hd => by
    obtain ⟨x, hx, rfl⟩ := List.mem_map.mp hd
    exact h x hx
  rwa [List.length_map] at this
theorem RO.ints {n k : Nat} {l : List Int} (hk : 0 < k) (hk2 : k ≤ 500) (h : ∀ x ∈ l, x.natAbs < 10 ^ k) : RO (2 + l.length * (k + 3)) (n + 1) (.list (l.map D.int)) := RO.map (m := k + 1) fun x hx => RO.int hk hk2 (h x hx)
theorem RO.ok {m : Nat} {d : D} (h : RO m 60 d) (hm : m ≤ 1000000) : reprG d = some d.toPy.shown := by
  unfold reprG reprOk
  rw [h.shp, h.show_, decide_eq_true (Nat.le_trans h.len (Nat.le_of_lt (lt_size hm)))]
  rfl
mutual
theorem eqv_selfD : ∀ (n : Nat) (d : D), d.shp n = true → PyData.eqv d.toPy d.toPy = true
  | _, .none, _ => by simp only [D.toPy, PyData.eqv]
  | _, .bool b, _ => by simp [D.toPy, PyData.eqv]
  | _, .int i, _ => by simp [D.toPy, PyData.eqv]
  | _, .str x, _ => by simp [D.toPy, PyData.eqv]
  | 0, .list _, h => by simp [D.shp] at h
  | 0, .tup _, h => by simp [D.shp] at h
  | n + 1, .list xs, h => by simp only [D.toPy, PyData.eqv]; exact eqv_selfDs n xs (by simpa [D.shp] using h)
  | n + 1, .tup xs, h => by simp only [D.toPy, PyData.eqv]; exact eqv_selfDs n xs (by simpa [D.shp] using h)
  | n, .dict _ _, h => by cases n <;> simp [D.shp] at h
theorem eqv_selfDs : ∀ (n : Nat) (ds : List D), D.shps n ds = true → PyData.eqvAll (D.toPys ds) (D.toPys ds) = true
  | _, [], _ => by simp only [D.toPys, PyData.eqvAll]
  | n, d :: ds, h => by
    have h : d.shp n = true ∧ D.shps n ds = true := by cases n <;> simpa [D.shps] using h
    simp only [D.toPys, PyData.eqvAll, eqv_selfD n d h.1, eqv_selfDs n ds h.2, Bool.and_self]
end
theorem deqG_self {d : D} (h : d.shp 60 = true) : deqG d d = some true := by
  unfold deqG deq
  split
  · simp
  · simp only [h, Bool.and_self, if_true, eqv_selfD 60 _ h]
theorem deqG_str (x y : Str) : deqG (.str x) (.str y) = some (decide (x = y)) := rfl
end
/-- what a law draws from -/
def Sr (c0 : Int) (s : List Int) : Prop := ∃ a b c : Int, s = [a, b, c] ∧ 0 ≤ a ∧ 0 ≤ b ∧ b ≤ 1000000000000000000000000000000000000000000 ∧ 0 ≤ c ∧ c ≤ c0
theorem Sr.mono {c d : Int} {s : List Int} (h : Sr c s) (e : c ≤ d) : Sr d s := by
  obtain ⟨a, b, x, rfl, h1, h2, h3, h4, h5⟩ := h
  exact ⟨a, b, x, rfl, h1, h2, h3, h4, by omega⟩
end Mv
namespace Mv
open PySem L2
theorem sli_ok {α : Type} {l : List α} {n : Int} (h0 : 0 ≤ n) (h1 : n ≤ 1000000000) : ∃ r, sliG l none (some n) = some r ∧ r.length ≤ l.length ∧ (r.length : Int) ≤ n ∧ r = l.take n.toNat := by
  have a : okB (some n) = true := by unfold okB; simp only [Bool.and_eq_true, decide_eq_true_eq]; omega
  have e : sliG l none (some n) = some (l.take n.toNat) := by
    unfold sliG
    rw [a]
    have : okB none = true := rfl
    rw [this]
    simp only [Bool.and_self, if_true, HT.sIx_none, List.drop_zero, Nat.sub_zero]
    rw [show HT.sIx l.length l.length (some n) = min n.toNat l.length by show (if n < 0 then (n + (l.length : Int)).toNat else min n.toNat l.length) = _; rw [if_neg (by omega)]]
    congr 1
    rw [List.take_eq_take_iff]
    omega
  exact ⟨_, e, by rw [List.length_take]; omega, by rw [List.length_take]; omega, rfl⟩
theorem shps_ints (n : Nat) (l : List Int) : D.shps n (l.map D.int) = true := by
  induction l with
  | nil => cases n <;> rfl
  | cons x l ih =>
    have : (D.int x).shp n = true := by cases n <;> rfl
    cases n <;> simp_all [D.shps]
theorem shp_ints {n : Nat} {l : List Int} : (D.list (l.map D.int)).shp (n + 1) = true := by
  simp only [D.shp]; exact shps_ints n l
theorem deq_ex {a b : D} (h1 : a.shp 60 = true) (h2 : b.shp 60 = true) : ∃ x, deqG a b = some x := by
  unfold deqG deq
  split
  · exact ⟨_, rfl⟩
  · rw [h1, h2]; exact ⟨_, rfl⟩
/-- the cells that a law looks at -/
theorem head_ok {script : List Int} {m : Int} (h : script.length ≤ 63) (h0 : 0 ≤ m) (h1 : m ≤ 1000) : ∃ r, sliG (script ++ [0]) none (some (mx2 1 (mn2 (script.length : Int) m))) = some r ∧ r.length ≤ 64 := by
  have b : 0 ≤ mx2 1 (mn2 (script.length : Int) m) ∧ mx2 1 (mn2 (script.length : Int) m) ≤ 1000 := by
    unfold mx2 mn2; split <;> split at * <;> omega
  obtain ⟨r, e, l, _⟩ := sli_ok (l := script ++ [0]) b.1 (show mx2 1 (mn2 (script.length : Int) m) ≤ 1000000000 by omega)
  exact ⟨r, e, by simp at l; omega⟩
end Mv
namespace Mv
open PySem L2
theorem sli_lo {α : Type} {l : List α} {n : Int} (h0 : 0 ≤ n) (h1 : n ≤ 1000000000) : sliG l (some n) none = some (l.drop n.toNat) := by
  have a : okB (some n) = true := by unfold okB; simp only [Bool.and_eq_true, decide_eq_true_eq]; omega
  unfold sliG
  rw [a]
  have : okB none = true := rfl
  rw [this]
  simp only [Bool.and_self, if_true, HT.sIx_none]
  rw [show HT.sIx l.length 0 (some n) = min n.toNat l.length by show (if n < 0 then (n + (l.length : Int)).toNat else min n.toNat l.length) = _; rw [if_neg (by omega)]]
  congr 1
  by_cases c : n.toNat ≤ l.length
  · rw [Nat.min_eq_left c, List.take_of_length_le (by rw [List.length_drop]; omega)]
  · rw [Nat.min_eq_right (by omega), List.drop_length, List.drop_of_length_le (by omega)]; simp
theorem sli_hi {α : Type} {l : List α} {n : Int} (h0 : 0 ≤ n) (h1 : n ≤ 1000000000) : sliG l none (some n) = some (l.take n.toNat) := by
  obtain ⟨r, e, _, _, rfl⟩ := sli_ok (l := l) h0 h1; exact e
end Mv

end
section
set_option maxRecDepth 100000
set_option exponentiation.threshold 9000
namespace LW
open PySem PySem.Spec PyProof.Rows L2 Mv
def B__law_source : Ss := (.cons (.set 2 (.blt .abs (.cons (.var 0) .nil)))
  (.cons (.ret (.list (.cons (.blt .max2 (.cons (.kst (.int 0)) (.cons (.bin .Sub (.var 2) (.bin .Pow (.kst (.int 10)) (.kst (.int 18)))) .nil))) (.cons (.bin .Add (.bin .Add (.bin .Mult (.bin .Mod (.blt .int (.cons (.var 2) .nil)) (.bin .Add (.bin .Pow (.kst (.int 10)) (.kst (.int 39))) (.kst (.int 3)))) (.kst (.int 97))) (.bin .Mult (.kst (.int 2)) (.var 1))) (.blt .int (.cons (.cmp .Lt (.var 0) (.kst (.int 0))) .nil))) (.cons (.kst (.int 0)) .nil)))))
  .nil))
def G__law_source : Gam := ⟨[], []⟩
def F__law_source : Fn := ⟨[false, false], runDef G__law_source [false, false] 3 B__law_source⟩
theorem R__law_source (ts : List T) : F__law_source.run ts = runDef G__law_source [false, false] 3 B__law_source ts := rfl
def B__law_draw : Ss := (.cons (.ite (.cmp .Gt (.ix (.var 0) (.kst (.int 0))) (.kst (.int 0))) (.cons (.set 2 (.bin .Mod (.blt .int (.cons (.ix (.var 0) (.kst (.int 0))) .nil)) (.var 1)))
  (.cons (.sto (.var 0) (.kst (.int 0)) (.bin .FloorDiv (.ix (.var 0) (.kst (.int 0))) (.var 1)))
  (.cons (.ret (.fzv (.var 2)))
  .nil))) .nil)
  (.cons (.sto (.var 0) (.kst (.int 2)) (.bin .Add (.ix (.var 0) (.kst (.int 2))) (.kst (.int 1))))
  (.cons (.set 3 (.bin .Mod (.blt .int (.cons (.bin .Pow (.bin .Add (.ix (.var 0) (.kst (.int 1))) (.bin .Mult (.kst (.int 600011)) (.ix (.var 0) (.kst (.int 2))))) (.kst (.int 3))) .nil)) (.bin .Add (.bin .Pow (.kst (.int 10)) (.kst (.int 36))) (.kst (.int 67)))))
  (.cons (.set 3 (.bin .Mod (.blt .int (.cons (.bin .Pow (.bin .Add (.bin .Mult (.var 3) (.ix (.var 0) (.kst (.int 2)))) (.kst (.int 77773))) (.kst (.int 3))) .nil)) (.bin .Add (.bin .Pow (.kst (.int 10)) (.kst (.int 38))) (.kst (.int 133)))))
  (.cons (.ret (.bin .Mod (.blt .int (.cons (.bin .FloorDiv (.var 3) (.kst (.int 32749))) .nil)) (.var 1)))
  .nil)))))
def G__law_draw : Gam := ⟨[], []⟩
def F__law_draw : Fn := ⟨[true, false], runDef G__law_draw [true, false] 4 B__law_draw⟩
theorem R__law_draw (ts : List T) : F__law_draw.run ts = runDef G__law_draw [true, false] 4 B__law_draw ts := rfl
def B__law_deeds : Ss := (.cons (.set 1 (.list .nil))
  (.cons (.for (.tp [2, 3]) (.enum (.var 0)) (.cons (.ite (.cmp .Eq (.ix (.var 3) (.kst (.int 0))) (.kst (.str (Str.ofString "take")))) (.cons (.set 4 (.fzv (.sl (.lc [("k", 5)] (.nm 5) (.rng2 (.bin .Add (.var 2) (.kst (.int 1))) (.blt .len (.cons (.var 0) .nil))) (.some (.cmp .Eq (.ix (.ix (.var 0) (.var 5)) (.kst (.int 1))) (.ix (.var 3) (.kst (.int 1))))) (.fzv (.var 5))) .none (.some (.kst (.int 1))))))
  (.cons (.ite (.cmp .Eq (.var 4) (.list .nil)) (.cons (.app (.var 1) (.fzv (.tup (.cons (.fzv (.ix (.var 3) (.kst (.int 1)))) (.cons (.fzv (.var 2)) (.cons (.kst .none) (.cons (.kst (.str (Str.ofString "open"))) .nil)))))))
  .nil) (.cons (.app (.var 1) (.fzv (.tup (.cons (.fzv (.ix (.var 3) (.kst (.int 1)))) (.cons (.fzv (.var 2)) (.cons (.fzv (.ix (.var 4) (.kst (.int 0)))) (.cons (.fzv (.ix (.ix (.var 0) (.ix (.var 4) (.kst (.int 0)))) (.kst (.int 0)))) .nil)))))))
  .nil))
  .nil)) .nil)
  .nil))
  (.cons (.ret (.fzv (.var 1)))
  .nil)))
def G__law_deeds : Gam := ⟨[], []⟩
def F__law_deeds : Fn := ⟨[false], runDef G__law_deeds [false] 6 B__law_deeds⟩
theorem R__law_deeds (ts : List T) : F__law_deeds.run ts = runDef G__law_deeds [false] 6 B__law_deeds ts := rfl
def B_is_integer : Ss := (.cons (.ite (.bool .Or (.cons (.not (.val (.blt .isint (.cons (.var 0) .nil)))) (.one (.val (.blt .isbool (.cons (.var 0) .nil)))))) (.cons (.ret (.kst (.bool false)))
  .nil) .nil)
  (.cons (.ret (.boolop .And (.cmp .GtE (.var 0) (.var 1)) (.boolop .Or (.cmp .Is (.var 2) (.kst .none)) (.cmp .LtE (.var 0) (.var 2)))))
  .nil))
def G_is_integer : Gam := ⟨[], []⟩
def F_is_integer : Fn := ⟨[false, false, false], runDef G_is_integer [false, false, false] 3 B_is_integer⟩
theorem R_is_integer (ts : List T) : F_is_integer.run ts = runDef G_is_integer [false, false, false] 3 B_is_integer ts := rfl
def B_need_houses : Ss := (.cons (.ite (.not (.val (.call 0 (.cons (.fzv (.var 0)) (.cons (.kst (.int 1)) (.cons (.gl 0) .nil)))))) (.cons .stuck
  .nil) .nil)
  .nil)
def G_need_houses : Gam := ⟨[F_is_integer], [.int 20]⟩
def F_need_houses : Fn := ⟨[false], runDef G_need_houses [false] 1 B_need_houses⟩
theorem R_need_houses (ts : List T) : F_need_houses.run ts = runDef G_need_houses [false] 1 B_need_houses ts := rfl
def B_is_event : Ss := (.cons (.ite (.bool .Or (.cons (.not (.val (.blt .istup (.cons (.var 1) .nil)))) (.cons (.cmp .NotEq (.blt .len (.cons (.var 1) .nil)) (.kst (.int 2))) (.one (.not (.val (.blt .isstr (.cons (.ix (.var 1) (.kst (.int 0))) .nil)))))))) (.cons (.ret (.kst (.bool false)))
  .nil) .nil)
  (.cons (.ret (.fzv (.boolop .And (.cmp .In (.ix (.var 1) (.kst (.int 0))) (.gl 0)) (.call 0 (.cons (.fzv (.ix (.var 1) (.kst (.int 1)))) (.cons (.kst (.int 0)) (.cons (.bin .Sub (.var 0) (.kst (.int 1))) .nil)))))))
  .nil))
def G_is_event : Gam := ⟨[F_is_integer], [.tup [.str (Str.ofString "take"), .str (Str.ofString "end"), .str (Str.ofString "fail"), .str (Str.ofString "fall")]]⟩
def F_is_event : Fn := ⟨[false, false], runDef G_is_event [false, false] 2 B_is_event⟩
theorem R_is_event (ts : List T) : F_is_event.run ts = runDef G_is_event [false, false] 2 B_is_event ts := rfl
def B_wrong_event : Ss := (.cons (.set 2 (.bin .Mult (.list (.cons (.kst (.bool false)) .nil)) (.var 0)))
  (.cons (.for (.tp [3, 4]) (.enum (.var 1)) (.cons (.ite (.not (.val (.call 0 (.cons (.fzv (.var 0)) (.cons (.fzv (.var 4)) .nil))))) (.cons (.ret (.fzv (.var 3)))
  .nil) .nil)
  (.cons (.setT [5, 6] (.fzv (.var 4)))
  (.cons (.ite (.bool .And (.cons (.cmp .NotEq (.var 5) (.gl 0)) (.one (.cmp .Eq (.ix (.var 2) (.var 6)) (.cmp .Eq (.var 5) (.gl 1)))))) (.cons (.ret (.fzv (.var 3)))
  .nil) .nil)
  (.cons (.sto (.var 2) (.var 6) (.cmp .Eq (.var 5) (.gl 1)))
  .nil)))))
  (.cons (.ret (.kst .none))
  .nil)))
def G_wrong_event : Gam := ⟨[F_is_event], [.str (Str.ofString "fall"), .str (Str.ofString "take")]⟩
def F_wrong_event : Fn := ⟨[false, false], runDef G_wrong_event [false, false] 7 B_wrong_event⟩
theorem R_wrong_event (ts : List T) : F_wrong_event.run ts = runDef G_wrong_event [false, false] 7 B_wrong_event ts := rfl
def B_need_weaving : Ss := (.cons (.ite (.bool .Or (.cons (.not (.val (.blt .islist (.cons (.var 1) .nil)))) (.one (.cmp .Gt (.blt .len (.cons (.var 1) .nil)) (.gl 0))))) (.cons .stuck
  .nil) .nil)
  (.cons (.set 2 (.fzv (.call 0 (.cons (.fzv (.var 0)) (.cons (.fzv (.var 1)) .nil)))))
  (.cons (.ite (.cmp .IsNot (.var 2) (.kst .none)) (.cons .stuck
  .nil) .nil)
  .nil)))
def G_need_weaving : Gam := ⟨[F_wrong_event], [.int 800]⟩
def F_need_weaving : Fn := ⟨[false, false], runDef G_need_weaving [false, false] 3 B_need_weaving⟩
theorem R_need_weaving (ts : List T) : F_need_weaving.run ts = runDef G_need_weaving [false, false] 3 B_need_weaving ts := rfl
def B_deeds_of : Ss := (.cons (.exp (.call 0 (.cons (.fzv (.var 0)) .nil)))
  (.cons (.exp (.call 1 (.cons (.fzv (.var 0)) (.cons (.fzv (.var 1)) .nil))))
  (.cons (.par [2, 3] (.cons (.list .nil) (.cons (.bin .Mult (.list (.cons (.kst .none) .nil)) (.var 0)) .nil)))
  (.cons (.for (.tp [4, 5]) (.enum (.var 1)) (.cons (.setT [6, 7] (.fzv (.var 5)))
  (.cons (.ite (.cmp .Eq (.var 6) (.gl 0)) (.cons (.sto (.var 3) (.var 7) (.blt .len (.cons (.var 2) .nil)))
  (.cons (.app (.var 2) (.fzv (.tup (.cons (.fzv (.var 7)) (.cons (.fzv (.var 4)) (.cons (.kst .none) (.cons (.kst (.str (Str.ofString "open"))) .nil)))))))
  .nil)) (.cons (.ite (.cmp .IsNot (.ix (.var 3) (.var 7)) (.kst .none)) (.cons (.set 8 (.fzv (.ix (.var 3) (.var 7))))
  (.cons (.sto (.var 2) (.var 8) (.fzv (.tup (.cons (.fzv (.var 7)) (.cons (.fzv (.ix (.ix (.var 2) (.var 8)) (.kst (.int 1)))) (.cons (.fzv (.var 4)) (.cons (.fzv (.var 6)) .nil)))))))
  (.cons (.sto (.var 3) (.var 7) (.kst .none))
  .nil))) .nil)
  .nil))
  .nil)))
  (.cons (.ret (.mv 2))
  .nil)))))
def G_deeds_of : Gam := ⟨[F_need_houses, F_need_weaving], [.str (Str.ofString "take")]⟩
def F_deeds_of : Fn := ⟨[false, false], runDef G_deeds_of [false, false] 9 B_deeds_of⟩
theorem R_deeds_of (ts : List T) : F_deeds_of.run ts = runDef G_deeds_of [false, false] 9 B_deeds_of ts := rfl
def B_need_number : Ss := (.cons (.ite (.not (.val (.call 0 (.cons (.fzv (.var 0)) (.cons (.fzv (.var 1)) (.cons (.fzv (.var 2)) .nil)))))) (.cons .stuck
  .nil) .nil)
  .nil)
def G_need_number : Gam := ⟨[F_is_integer], []⟩
def F_need_number : Fn := ⟨[false, false, false], runDef G_need_number [false, false, false] 3 B_need_number⟩
theorem R_need_number (ts : List T) : F_need_number.run ts = runDef G_need_number [false, false, false] 3 B_need_number ts := rfl
def B_without_house : Ss := (.cons (.exp (.call 0 (.cons (.fzv (.var 0)) .nil)))
  (.cons (.exp (.call 1 (.cons (.fzv (.var 0)) (.cons (.fzv (.var 1)) .nil))))
  (.cons (.exp (.call 2 (.cons (.fzv (.var 2)) (.cons (.kst (.int 0)) (.cons (.bin .Sub (.var 0) (.kst (.int 1))) .nil)))))
  (.cons (.ret (.lc [("event", 3)] (.nm 3) (.seq (.var 1)) (.some (.cmp .NotEq (.ix (.var 3) (.kst (.int 1))) (.var 2))) (.fzv (.var 3))))
  .nil))))
def G_without_house : Gam := ⟨[F_need_houses, F_need_weaving, F_need_number], []⟩
def F_without_house : Fn := ⟨[false, false, false], runDef G_without_house [false, false, false] 4 B_without_house⟩
theorem R_without_house (ts : List T) : F_without_house.run ts = runDef G_without_house [false, false, false] 4 B_without_house ts := rfl
def B_is_weaving : Ss := (.cons (.exp (.call 0 (.cons (.fzv (.var 0)) .nil)))
  (.cons (.ret (.boolop .And (.blt .islist (.cons (.var 1) .nil)) (.boolop .And (.cmp .LtE (.blt .len (.cons (.var 1) .nil)) (.gl 0)) (.cmp .Is (.call 1 (.cons (.fzv (.var 0)) (.cons (.fzv (.var 1)) .nil))) (.kst .none)))))
  .nil))
def G_is_weaving : Gam := ⟨[F_need_houses, F_wrong_event], [.int 800]⟩
def F_is_weaving : Fn := ⟨[false, false], runDef G_is_weaving [false, false] 2 B_is_weaving⟩
theorem R_is_weaving (ts : List T) : F_is_weaving.run ts = runDef G_is_weaving [false, false] 2 B_is_weaving ts := rfl
def B__law_right : Ss := (.cons (.par [3, 4] (.cons (.blt .repr (.cons (.var 2) .nil)) (.cons (.fzv (.call 1 (.cons (.fzv (.var 2)) .nil))) .nil)))
  (.cons (.set 5 (.list (.cons (.call 2 (.cons (.fzv (.var 1)) (.cons (.fzv (.var 2)) .nil))) (.cons (.callk 2 [1, 0] (.cons (.fzv (.var 2)) (.cons (.fzv (.var 1)) .nil))) .nil))))
  (.cons (.ite (.cmp .NotEq (.blt .repr (.cons (.var 5) .nil)) (.blt .repr (.cons (.list (.cons (.fzv (.var 4)) (.cons (.fzv (.var 4)) .nil))) .nil))) (.cons (.ret (.kst (.bool false)))
  .nil) .nil)
  (.cons (.app (.ix (.var 5) (.kst (.int 0))) (.kst .none))
  (.cons (.ite (.cmp .NotEq (.call 2 (.cons (.fzv (.var 1)) (.cons (.fzv (.var 2)) .nil))) (.var 4)) (.cons (.ret (.kst (.bool false)))
  .nil) .nil)
  (.cons (.set 6 (.fzv (.call 0 (.cons (.var 0) (.cons (.fzv (.var 1)) .nil)))))
  (.cons (.set 7 (.lc [("one", 8)] (.nm 8) (.seq (.var 2)) (.some (.cmp .NotEq (.ix (.var 8) (.kst (.int 1))) (.var 6))) (.fzv (.var 8))))
  (.cons (.set 5 (.list (.cons (.call 3 (.cons (.fzv (.var 1)) (.cons (.fzv (.var 2)) (.cons (.fzv (.var 6)) .nil)))) (.cons (.callk 3 [2, 1, 0] (.cons (.fzv (.var 6)) (.cons (.fzv (.var 2)) (.cons (.fzv (.var 1)) .nil)))) .nil))))
  (.cons (.ite (.bool .Or (.cons (.cmp .NotEq (.blt .repr (.cons (.var 5) .nil)) (.blt .repr (.cons (.list (.cons (.fzv (.var 7)) (.cons (.fzv (.var 7)) .nil))) .nil))) (.cons (.not (.val (.call 4 (.cons (.fzv (.var 1)) (.cons (.fzv (.var 7)) .nil))))) (.one (.cmp .NotEq (.blt .repr (.cons (.var 2) .nil)) (.var 3)))))) (.cons (.ret (.kst (.bool false)))
  .nil) .nil)
  (.cons (.app (.ix (.var 5) (.kst (.int 0))) (.kst .none))
  (.cons (.ite (.cmp .NotEq (.call 3 (.cons (.fzv (.var 1)) (.cons (.fzv (.var 2)) (.cons (.fzv (.var 6)) .nil)))) (.var 7)) (.cons (.ret (.kst (.bool false)))
  .nil) .nil)
  (.cons (.set 8 (.lc [("who", 9), ("begin", 10), ("finish", 11), ("how", 12)] (.tp [9, 10, 11, 12]) (.seq (.call 2 (.cons (.fzv (.var 1)) (.cons (.fzv (.var 7)) .nil)))) .none (.fzv (.tup (.cons (.fzv (.var 9)) (.cons (.fzv (.var 12)) .nil))))))
  (.cons (.ret (.cmp .Eq (.var 8) (.lc [("who", 9), ("begin", 10), ("finish", 11), ("how", 12)] (.tp [9, 10, 11, 12]) (.seq (.var 4)) (.some (.cmp .NotEq (.var 9) (.var 6))) (.fzv (.tup (.cons (.fzv (.var 9)) (.cons (.fzv (.var 12)) .nil)))))))
  .nil)))))))))))))
def G__law_right : Gam := ⟨[F__law_draw, F__law_deeds, F_deeds_of, F_without_house, F_is_weaving], []⟩
def F__law_right : Fn := ⟨[true, false, false], runDef G__law_right [true, false, false] 13 B__law_right⟩
theorem R__law_right (ts : List T) : F__law_right.run ts = runDef G__law_right [true, false, false] 13 B__law_right ts := rfl
def B__law_acts : Ss := (.cons (.par [4, 5] (.cons (.bin .Mult (.list (.cons (.kst (.bool false)) .nil)) (.var 1)) (.cons (.list .nil) .nil)))
  (.cons (.for (.nm 6) (.rng1 (.var 2)) (.cons (.set 7 (.fzv (.call 0 (.cons (.var 0) (.cons (.fzv (.var 1)) .nil)))))
  (.cons (.set 8 (.fzv (.call 0 (.cons (.var 0) (.cons (.kst (.int 6)) .nil)))))
  (.cons (.ite (.bool .And (.cons (.val (.var 3)) (.one (.cmp .Eq (.var 8) (.kst (.int 5)))))) (.cons (.app (.var 5) (.fzv (.tup (.cons (.kst (.str (Str.ofString "fall"))) (.cons (.fzv (.var 7)) .nil)))))
  (.cons (.sto (.var 4) (.var 7) (.kst (.bool false)))
  .nil)) (.cons (.ite (.not (.val (.ix (.var 4) (.var 7)))) (.cons (.app (.var 5) (.fzv (.tup (.cons (.kst (.str (Str.ofString "take"))) (.cons (.fzv (.var 7)) .nil)))))
  (.cons (.sto (.var 4) (.var 7) (.kst (.bool true)))
  .nil)) (.cons (.app (.var 5) (.fzv (.tup (.cons (.fzv (.ix (.list (.cons (.kst (.str (Str.ofString "end"))) (.cons (.kst (.str (Str.ofString "end"))) (.cons (.kst (.str (Str.ofString "fail"))) .nil)))) (.bin .Mod (.blt .int (.cons (.var 8) .nil)) (.kst (.int 3))))) (.cons (.fzv (.var 7)) .nil)))))
  (.cons (.sto (.var 4) (.var 7) (.kst (.bool false)))
  .nil)))
  .nil))
  .nil))))
  (.cons (.ret (.fzv (.var 5)))
  .nil)))
def G__law_acts : Gam := ⟨[F__law_draw], []⟩
def F__law_acts : Fn := ⟨[true, false, false, false], runDef G__law_acts [true, false, false, false] 9 B__law_acts⟩
theorem R__law_acts (ts : List T) : F__law_acts.run ts = runDef G__law_acts [true, false, false, false] 9 B__law_acts ts := rfl
def B_law : Ss := (.cons (.for (.tp [1, 2]) (.enum (.sl (.bin .Add (.var 0) (.list (.cons (.kst (.int 0)) .nil))) .none (.some (.blt .max2 (.cons (.kst (.int 1)) (.cons (.blt .min2 (.cons (.blt .len (.cons (.var 0) .nil)) (.cons (.kst (.int 12)) .nil))) .nil)))))) (.cons (.set 3 (.call 0 (.cons (.fzv (.var 2)) (.cons (.fzv (.var 1)) .nil))))
  (.cons (.set 4 (.fzv (.ix (.list (.cons (.kst (.int 1)) (.cons (.kst (.int 2)) (.cons (.bin .Add (.kst (.int 1)) (.call 1 (.cons (.var 3) (.cons (.kst (.int 20)) .nil)))) (.cons (.kst (.int 20)) .nil))))) (.call 1 (.cons (.var 3) (.cons (.kst (.int 4)) .nil))))))
  (.cons (.set 5 (.fzv (.ite (.bool .And (.cons (.cmp .Eq (.var 1) (.kst (.int 0))) (.one (.cmp .NotEq (.var 0) (.list .nil))))) (.kst (.int 800)) (.call 1 (.cons (.var 3) (.cons (.fzv (.ix (.list (.cons (.kst (.int 6)) (.cons (.kst (.int 61)) .nil))) (.blt .int (.cons (.cmp .NotEq (.var 0) (.list .nil)) .nil)))) .nil))))))
  (.cons (.ite (.not (.val (.call 2 (.cons (.var 3) (.cons (.fzv (.var 4)) (.cons (.fzv (.call 5 (.cons (.var 3) (.cons (.fzv (.var 4)) (.cons (.fzv (.var 5)) (.cons (.kst (.bool true)) .nil)))))) .nil)))))) (.cons (.ret (.kst (.bool false)))
  .nil) .nil)
  .nil)))))
  (.cons (.set 6 (.fzv (.list (.cons (.fzv (.tup (.cons (.kst (.str (Str.ofString "take"))) (.cons (.kst (.int 0)) .nil)))) (.cons (.fzv (.tup (.cons (.kst (.str (Str.ofString "take"))) (.cons (.kst (.int 1)) .nil)))) (.cons (.fzv (.tup (.cons (.kst (.str (Str.ofString "end"))) (.cons (.kst (.int 1)) .nil)))) (.cons (.fzv (.tup (.cons (.kst (.str (Str.ofString "fail"))) (.cons (.kst (.int 0)) .nil)))) (.cons (.fzv (.tup (.cons (.kst (.str (Str.ofString "fall"))) (.cons (.kst (.int 1)) .nil)))) (.cons (.fzv (.tup (.cons (.kst (.str (Str.ofString "take"))) (.cons (.kst (.int 0)) .nil)))) .nil)))))))))
  (.cons (.set 7 (.fzv (.list (.cons (.fzv (.tup (.cons (.kst (.int 0)) (.cons (.kst (.int 0)) (.cons (.kst (.int 3)) (.cons (.kst (.str (Str.ofString "fail"))) .nil)))))) (.cons (.fzv (.tup (.cons (.kst (.int 1)) (.cons (.kst (.int 1)) (.cons (.kst (.int 2)) (.cons (.kst (.str (Str.ofString "end"))) .nil)))))) (.cons (.fzv (.tup (.cons (.kst (.int 0)) (.cons (.kst (.int 5)) (.cons (.kst .none) (.cons (.kst (.str (Str.ofString "open"))) .nil)))))) .nil))))))
  (.cons (.ret (.boolop .And (.cmp .Eq (.call 3 (.cons (.kst (.int 2)) (.cons (.fzv (.var 6)) .nil))) (.var 7)) (.cmp .Eq (.call 4 (.cons (.kst (.int 2)) (.cons (.fzv (.var 6)) (.cons (.kst (.int 0)) .nil)))) (.list (.cons (.fzv (.tup (.cons (.kst (.str (Str.ofString "take"))) (.cons (.kst (.int 1)) .nil)))) (.cons (.fzv (.tup (.cons (.kst (.str (Str.ofString "end"))) (.cons (.kst (.int 1)) .nil)))) (.cons (.fzv (.tup (.cons (.kst (.str (Str.ofString "fall"))) (.cons (.kst (.int 1)) .nil)))) .nil)))))))
  .nil))))
def G_law : Gam := ⟨[F__law_source, F__law_draw, F__law_right, F_deeds_of, F_without_house, F__law_acts], []⟩
def F_law : Fn := ⟨[false], runDef G_law [false] 8 B_law⟩
theorem R_law (ts : List T) : F_law.run ts = runDef G_law [false] 8 B_law ts := rfl
end LW

end
section
set_option maxRecDepth 100000
set_option exponentiation.threshold 9000
namespace LW
open PySem PySem.Spec PyProof.Rows L2 Mv
def topS (i : Nat) : Stmt := PySem.Challenge.pw_holesleft_k03_deeds_and_weavings_without.main.body.getD i (.Pass ⟨0, 0, 0, 0⟩)
abbrev s__law_source : Stmt := topS 23
theorem sc__law_source : FnScope ["cell", "k", "size"] ["cell", "k"] (defScope s__law_source) := ⟨rfl, rfl, rfl, by decide +kernel, rfl, by decide +kernel, by decide +kernel⟩
def x__law_source : Sx := ⟨["cell", "k", "size"], [], [], ["abs", "max", "int"]⟩
theorem ck__law_source : chkSs x__law_source (defScope s__law_source) (fun _ => true) B__law_source (defBody s__law_source) = true := by decide +kernel
abbrev s__law_draw : Stmt := topS 24
theorem sc__law_draw : FnScope ["source", "count", "digit", "mixed"] ["source", "count"] (defScope s__law_draw) := ⟨rfl, rfl, rfl, by decide +kernel, rfl, by decide +kernel, by decide +kernel⟩
def x__law_draw : Sx := ⟨["source", "count", "digit", "mixed"], [], [], ["int"]⟩
theorem ck__law_draw : chkSs x__law_draw (defScope s__law_draw) (fun _ => true) B__law_draw (defBody s__law_draw) = true := by decide +kernel
abbrev s__law_deeds : Stmt := topS 26
theorem sc__law_deeds : FnScope ["acts", "found", "spot", "one", "later", "k"] ["acts"] (defScope s__law_deeds) := ⟨rfl, rfl, rfl, by decide +kernel, rfl, by decide +kernel, by decide +kernel⟩
def x__law_deeds : Sx := ⟨["acts", "found", "spot", "one", "later", "k"], [], [], ["enumerate", "range", "len"]⟩
theorem ck__law_deeds : chkSs x__law_deeds (defScope s__law_deeds) (fun _ => true) B__law_deeds (defBody s__law_deeds) = true := by decide +kernel
abbrev s_is_integer : Stmt := topS 13
theorem sc_is_integer : FnScope ["value", "least", "most"] ["value", "least", "most"] (defScope s_is_integer) := ⟨rfl, rfl, rfl, by decide +kernel, rfl, by decide +kernel, by decide +kernel⟩
def x_is_integer : Sx := ⟨["value", "least", "most"], [], [], ["isinstance", "int", "bool"]⟩
theorem ck_is_integer : chkSs x_is_integer (defScope s_is_integer) (fun _ => true) B_is_integer (defBody s_is_integer) = true := by decide +kernel
abbrev s_need_houses : Stmt := topS 14
theorem sc_need_houses : FnScope ["value"] ["value"] (defScope s_need_houses) := ⟨rfl, rfl, rfl, by decide +kernel, rfl, by decide +kernel, by decide +kernel⟩
def x_need_houses : Sx := ⟨["value"], [("is_integer", ["value", "least", "most"], [])], ["MOST_HOUSES"], []⟩
theorem ck_need_houses : chkSs x_need_houses (defScope s_need_houses) (fun _ => true) B_need_houses (defBody s_need_houses) = true := by decide +kernel
abbrev s_is_event : Stmt := topS 16
theorem sc_is_event : FnScope ["houses", "value"] ["houses", "value"] (defScope s_is_event) := ⟨rfl, rfl, rfl, by decide +kernel, rfl, by decide +kernel, by decide +kernel⟩
def x_is_event : Sx := ⟨["houses", "value"], [("is_integer", ["value", "least", "most"], [])], ["WORDS"], ["isinstance", "tuple", "len", "str"]⟩
theorem ck_is_event : chkSs x_is_event (defScope s_is_event) (fun _ => true) B_is_event (defBody s_is_event) = true := by decide +kernel
abbrev s_wrong_event : Stmt := topS 17
theorem sc_wrong_event : FnScope ["houses", "events", "opened", "index", "event", "word", "house"] ["houses", "events"] (defScope s_wrong_event) := ⟨rfl, rfl, rfl, by decide +kernel, rfl, by decide +kernel, by decide +kernel⟩
def x_wrong_event : Sx := ⟨["houses", "events", "opened", "index", "event", "word", "house"], [("is_event", ["houses", "value"], [])], ["FALL", "TAKE"], ["enumerate"]⟩
theorem ck_wrong_event : chkSs x_wrong_event (defScope s_wrong_event) (fun _ => true) B_wrong_event (defBody s_wrong_event) = true := by decide +kernel
abbrev s_need_weaving : Stmt := topS 19
theorem sc_need_weaving : FnScope ["houses", "value", "wrong"] ["houses", "value"] (defScope s_need_weaving) := ⟨rfl, rfl, rfl, by decide +kernel, rfl, by decide +kernel, by decide +kernel⟩
def x_need_weaving : Sx := ⟨["houses", "value", "wrong"], [("wrong_event", ["houses", "events"], [])], ["MOST_EVENTS"], ["isinstance", "list", "len"]⟩
theorem ck_need_weaving : chkSs x_need_weaving (defScope s_need_weaving) (fun _ => true) B_need_weaving (defBody s_need_weaving) = true := by decide +kernel
abbrev s_deeds_of : Stmt := topS 20
theorem sc_deeds_of : FnScope ["houses", "weaving", "found", "open_deeds", "index", "event", "word", "house", "spot"] ["houses", "weaving"] (defScope s_deeds_of) := ⟨rfl, rfl, rfl, by decide +kernel, rfl, by decide +kernel, by decide +kernel⟩
def x_deeds_of : Sx := ⟨["houses", "weaving", "found", "open_deeds", "index", "event", "word", "house", "spot"], [("need_houses", ["value"], []), ("need_weaving", ["houses", "value"], [])], ["TAKE"], ["enumerate", "len"]⟩
theorem ck_deeds_of : chkSs x_deeds_of (defScope s_deeds_of) (fun _ => true) B_deeds_of (defBody s_deeds_of) = true := by decide +kernel
abbrev s_need_number : Stmt := topS 15
theorem sc_need_number : FnScope ["value", "least", "most"] ["value", "least", "most"] (defScope s_need_number) := ⟨rfl, rfl, rfl, by decide +kernel, rfl, by decide +kernel, by decide +kernel⟩
def x_need_number : Sx := ⟨["value", "least", "most"], [("is_integer", ["value", "least", "most"], [])], [], []⟩
theorem ck_need_number : chkSs x_need_number (defScope s_need_number) (fun _ => true) B_need_number (defBody s_need_number) = true := by decide +kernel
abbrev s_without_house : Stmt := topS 21
theorem sc_without_house : FnScope ["houses", "weaving", "house", "event"] ["houses", "weaving", "house"] (defScope s_without_house) := ⟨rfl, rfl, rfl, by decide +kernel, rfl, by decide +kernel, by decide +kernel⟩
def x_without_house : Sx := ⟨["houses", "weaving", "house", "event"], [("need_houses", ["value"], []), ("need_weaving", ["houses", "value"], []), ("need_number", ["value", "least", "most"], [])], [], []⟩
theorem ck_without_house : chkSs x_without_house (defScope s_without_house) (fun _ => true) B_without_house (defBody s_without_house) = true := by decide +kernel
abbrev s_is_weaving : Stmt := topS 18
theorem sc_is_weaving : FnScope ["houses", "value"] ["houses", "value"] (defScope s_is_weaving) := ⟨rfl, rfl, rfl, by decide +kernel, rfl, by decide +kernel, by decide +kernel⟩
def x_is_weaving : Sx := ⟨["houses", "value"], [("need_houses", ["value"], []), ("wrong_event", ["houses", "events"], [])], ["MOST_EVENTS"], ["isinstance", "list", "len"]⟩
theorem ck_is_weaving : chkSs x_is_weaving (defScope s_is_weaving) (fun _ => true) B_is_weaving (defBody s_is_weaving) = true := by decide +kernel
abbrev s__law_right : Stmt := topS 27
theorem sc__law_right : FnScope ["source", "firms", "acts", "kept", "due", "told", "firm", "rest", "one", "who", "begin", "finish", "how"] ["source", "firms", "acts"] (defScope s__law_right) := ⟨rfl, rfl, rfl, by decide +kernel, rfl, by decide +kernel, by decide +kernel⟩
def x__law_right : Sx := ⟨["source", "firms", "acts", "kept", "due", "told", "firm", "rest", "one", "who", "begin", "finish", "how"], [("_law_draw", ["source", "count"], []), ("_law_deeds", ["acts"], []), ("deeds_of", ["houses", "weaving"], [(["weaving", "houses"], [1, 0])]), ("without_house", ["houses", "weaving", "house"], [(["house", "weaving", "houses"], [2, 1, 0])]), ("is_weaving", ["houses", "value"], [])], [], ["repr"]⟩
theorem ck__law_right : chkSs x__law_right (defScope s__law_right) (fun _ => true) B__law_right (defBody s__law_right) = true := by decide +kernel
abbrev s__law_acts : Stmt := topS 25
theorem sc__law_acts : FnScope ["source", "firms", "many", "falls", "opened", "found", "turn", "firm", "way"] ["source", "firms", "many", "falls"] (defScope s__law_acts) := ⟨rfl, rfl, rfl, by decide +kernel, rfl, by decide +kernel, by decide +kernel⟩
def x__law_acts : Sx := ⟨["source", "firms", "many", "falls", "opened", "found", "turn", "firm", "way"], [("_law_draw", ["source", "count"], [])], [], ["range", "int"]⟩
theorem ck__law_acts : chkSs x__law_acts (defScope s__law_acts) (fun _ => true) B__law_acts (defBody s__law_acts) = true := by decide +kernel
abbrev s_law : Stmt := topS 28
theorem sc_law : FnScope ["script", "k", "cell", "source", "firms", "many", "acts", "due"] ["script"] (defScope s_law) := ⟨rfl, rfl, rfl, by decide +kernel, rfl, by decide +kernel, by decide +kernel⟩
def x_law : Sx := ⟨["script", "k", "cell", "source", "firms", "many", "acts", "due"], [("_law_source", ["cell", "k"], []), ("_law_draw", ["source", "count"], []), ("_law_right", ["source", "firms", "acts"], []), ("deeds_of", ["houses", "weaving"], [(["weaving", "houses"], [1, 0])]), ("without_house", ["houses", "weaving", "house"], [(["house", "weaving", "houses"], [2, 1, 0])]), ("_law_acts", ["source", "firms", "many", "falls"], [])], [], ["enumerate", "max", "min", "len", "int"]⟩
theorem ck_law : chkSs x_law (defScope s_law) (fun _ => true) B_law (defBody s_law) = true := by decide +kernel
section
variable {P : Program} {w : World} {K : PySem.W.Frag} {mg : Str → Option Value} {base : Heap}
theorem bd__law_source {a : Addr} {fd : FuncData} (F : Fun K "_law_source" "_law_source" s__law_source a fd) : BindsAll fd ["cell", "k"] [] := by
  obtain ⟨_, _, _, _, _, _, _, _, _, rfl, _, _⟩ := F.ex
  refine ⟨fun us hl => match us, hl with | [_, _], _ => rfl, fun q hq => ?_⟩
  cases hq
theorem ctx__law_source  (z_abs : mg "abs" = none) (z_max : mg "max" = none) (z_int : mg "int" = none)  : Ctx P w K mg base 0 x__law_source G__law_source := by
  refine ⟨fun nm h => ?_, fun k f nm ps kb h1 h2 => ?_, fun g d nm h1 h2 => ?_⟩
  · have h : nm ∈ [("abs" : Str), ("max" : Str), ("int" : Str)] := h
    rcases List.mem_cons.mp h with rfl | h
    · exact z_abs
    rcases List.mem_cons.mp h with rfl | h
    · exact z_max
    rcases List.mem_cons.mp h with rfl | h
    · exact z_int
    cases h
  · exact absurd h1 (by simp [G__law_source])
  · exact absurd h1 (by simp [G__law_source])
theorem cl__law_source {a : Addr} {fd : FuncData} (F : Fun K "_law_source" "_law_source" s__law_source a fd) (gf : mg "_law_source" = some (.ref a)) (c : Ctx P w K mg base 0 x__law_source G__law_source) : Cl P w K mg base 1 "_law_source" ["cell", "k"] [] F__law_source :=
  ⟨⟨a, fd, gf, F.kp, bd__law_source F, def_G F sc__law_source c rfl ck__law_source⟩, rfl⟩
theorem bd__law_draw {a : Addr} {fd : FuncData} (F : Fun K "_law_draw" "_law_draw" s__law_draw a fd) : BindsAll fd ["source", "count"] [] := by
  obtain ⟨_, _, _, _, _, _, _, _, _, rfl, _, _⟩ := F.ex
  refine ⟨fun us hl => match us, hl with | [_, _], _ => rfl, fun q hq => ?_⟩
  cases hq
theorem ctx__law_draw  (z_int : mg "int" = none)  : Ctx P w K mg base 0 x__law_draw G__law_draw := by
  refine ⟨fun nm h => ?_, fun k f nm ps kb h1 h2 => ?_, fun g d nm h1 h2 => ?_⟩
  · have h : nm ∈ [("int" : Str)] := h
    rcases List.mem_cons.mp h with rfl | h
    · exact z_int
    cases h
  · exact absurd h1 (by simp [G__law_draw])
  · exact absurd h1 (by simp [G__law_draw])
theorem cl__law_draw {a : Addr} {fd : FuncData} (F : Fun K "_law_draw" "_law_draw" s__law_draw a fd) (gf : mg "_law_draw" = some (.ref a)) (c : Ctx P w K mg base 0 x__law_draw G__law_draw) : Cl P w K mg base 1 "_law_draw" ["source", "count"] [] F__law_draw :=
  ⟨⟨a, fd, gf, F.kp, bd__law_draw F, def_G F sc__law_draw c rfl ck__law_draw⟩, rfl⟩
theorem bd__law_deeds {a : Addr} {fd : FuncData} (F : Fun K "_law_deeds" "_law_deeds" s__law_deeds a fd) : BindsAll fd ["acts"] [] := by
  obtain ⟨_, _, _, _, _, _, _, _, _, rfl, _, _⟩ := F.ex
  refine ⟨fun us hl => match us, hl with | [_], _ => rfl, fun q hq => ?_⟩
  cases hq
theorem ctx__law_deeds  (z_enumerate : mg "enumerate" = none) (z_range : mg "range" = none) (z_len : mg "len" = none)  : Ctx P w K mg base 0 x__law_deeds G__law_deeds := by
  refine ⟨fun nm h => ?_, fun k f nm ps kb h1 h2 => ?_, fun g d nm h1 h2 => ?_⟩
  · have h : nm ∈ [("enumerate" : Str), ("range" : Str), ("len" : Str)] := h
    rcases List.mem_cons.mp h with rfl | h
    · exact z_enumerate
    rcases List.mem_cons.mp h with rfl | h
    · exact z_range
    rcases List.mem_cons.mp h with rfl | h
    · exact z_len
    cases h
  · exact absurd h1 (by simp [G__law_deeds])
  · exact absurd h1 (by simp [G__law_deeds])
theorem cl__law_deeds {a : Addr} {fd : FuncData} (F : Fun K "_law_deeds" "_law_deeds" s__law_deeds a fd) (gf : mg "_law_deeds" = some (.ref a)) (c : Ctx P w K mg base 0 x__law_deeds G__law_deeds) : Cl P w K mg base 1 "_law_deeds" ["acts"] [] F__law_deeds :=
  ⟨⟨a, fd, gf, F.kp, bd__law_deeds F, def_G F sc__law_deeds c rfl ck__law_deeds⟩, rfl⟩
theorem bd_is_integer {a : Addr} {fd : FuncData} (F : Fun K "is_integer" "is_integer" s_is_integer a fd) : BindsAll fd ["value", "least", "most"] [] := by
  obtain ⟨_, _, _, _, _, _, _, _, _, rfl, _, _⟩ := F.ex
  refine ⟨fun us hl => match us, hl with | [_, _, _], _ => rfl, fun q hq => ?_⟩
  cases hq
theorem ctx_is_integer  (z_isinstance : mg "isinstance" = none) (z_int : mg "int" = none) (z_bool : mg "bool" = none)  : Ctx P w K mg base 0 x_is_integer G_is_integer := by
  refine ⟨fun nm h => ?_, fun k f nm ps kb h1 h2 => ?_, fun g d nm h1 h2 => ?_⟩
  · have h : nm ∈ [("isinstance" : Str), ("int" : Str), ("bool" : Str)] := h
    rcases List.mem_cons.mp h with rfl | h
    · exact z_isinstance
    rcases List.mem_cons.mp h with rfl | h
    · exact z_int
    rcases List.mem_cons.mp h with rfl | h
    · exact z_bool
    cases h
  · exact absurd h1 (by simp [G_is_integer])
  · exact absurd h1 (by simp [G_is_integer])
theorem cl_is_integer {a : Addr} {fd : FuncData} (F : Fun K "is_integer" "is_integer" s_is_integer a fd) (gf : mg "is_integer" = some (.ref a)) (c : Ctx P w K mg base 0 x_is_integer G_is_integer) : Cl P w K mg base 1 "is_integer" ["value", "least", "most"] [] F_is_integer :=
  ⟨⟨a, fd, gf, F.kp, bd_is_integer F, def_G F sc_is_integer c rfl ck_is_integer⟩, rfl⟩
theorem bd_need_houses {a : Addr} {fd : FuncData} (F : Fun K "need_houses" "need_houses" s_need_houses a fd) : BindsAll fd ["value"] [] := by
  obtain ⟨_, _, _, _, _, _, _, _, _, rfl, _, _⟩ := F.ex
  refine ⟨fun us hl => match us, hl with | [_], _ => rfl, fun q hq => ?_⟩
  cases hq
theorem ctx_need_houses (g_is_integer : Cl P w K mg base 1 "is_integer" ["value", "least", "most"] [] F_is_integer)  (c_MOST_HOUSES : GlK K mg "MOST_HOUSES" (.int 20)) : Ctx P w K mg base 1 x_need_houses G_need_houses := by
  refine ⟨fun nm h => ?_, fun k f nm ps kb h1 h2 => ?_, fun g d nm h1 h2 => ?_⟩
  · cases h
  · match k, h1, h2 with
    | 0, h1, h2 => cases h1; cases h2; exact g_is_integer.mono (by decide)
    | n + 1, h1, h2 => exact absurd h1 (by simp [G_need_houses])
  · match g, h1, h2 with
    | 0, h1, h2 => cases h1; cases h2; exact c_MOST_HOUSES
    | n + 1, h1, h2 => exact absurd h1 (by simp [G_need_houses])
theorem cl_need_houses {a : Addr} {fd : FuncData} (F : Fun K "need_houses" "need_houses" s_need_houses a fd) (gf : mg "need_houses" = some (.ref a)) (c : Ctx P w K mg base 1 x_need_houses G_need_houses) : Cl P w K mg base 2 "need_houses" ["value"] [] F_need_houses :=
  ⟨⟨a, fd, gf, F.kp, bd_need_houses F, def_G F sc_need_houses c rfl ck_need_houses⟩, rfl⟩
theorem bd_is_event {a : Addr} {fd : FuncData} (F : Fun K "is_event" "is_event" s_is_event a fd) : BindsAll fd ["houses", "value"] [] := by
  obtain ⟨_, _, _, _, _, _, _, _, _, rfl, _, _⟩ := F.ex
  refine ⟨fun us hl => match us, hl with | [_, _], _ => rfl, fun q hq => ?_⟩
  cases hq
theorem ctx_is_event (g_is_integer : Cl P w K mg base 1 "is_integer" ["value", "least", "most"] [] F_is_integer) (z_isinstance : mg "isinstance" = none) (z_tuple : mg "tuple" = none) (z_len : mg "len" = none) (z_str : mg "str" = none) (c_WORDS : GlK K mg "WORDS" (.tup [.str (Str.ofString "take"), .str (Str.ofString "end"), .str (Str.ofString "fail"), .str (Str.ofString "fall")])) : Ctx P w K mg base 1 x_is_event G_is_event := by
  refine ⟨fun nm h => ?_, fun k f nm ps kb h1 h2 => ?_, fun g d nm h1 h2 => ?_⟩
  · have h : nm ∈ [("isinstance" : Str), ("tuple" : Str), ("len" : Str), ("str" : Str)] := h
    rcases List.mem_cons.mp h with rfl | h
    · exact z_isinstance
    rcases List.mem_cons.mp h with rfl | h
    · exact z_tuple
    rcases List.mem_cons.mp h with rfl | h
    · exact z_len
    rcases List.mem_cons.mp h with rfl | h
    · exact z_str
    cases h
  · match k, h1, h2 with
    | 0, h1, h2 => cases h1; cases h2; exact g_is_integer.mono (by decide)
    | n + 1, h1, h2 => exact absurd h1 (by simp [G_is_event])
  · match g, h1, h2 with
    | 0, h1, h2 => cases h1; cases h2; exact c_WORDS
    | n + 1, h1, h2 => exact absurd h1 (by simp [G_is_event])
theorem cl_is_event {a : Addr} {fd : FuncData} (F : Fun K "is_event" "is_event" s_is_event a fd) (gf : mg "is_event" = some (.ref a)) (c : Ctx P w K mg base 1 x_is_event G_is_event) : Cl P w K mg base 2 "is_event" ["houses", "value"] [] F_is_event :=
  ⟨⟨a, fd, gf, F.kp, bd_is_event F, def_G F sc_is_event c rfl ck_is_event⟩, rfl⟩
theorem bd_wrong_event {a : Addr} {fd : FuncData} (F : Fun K "wrong_event" "wrong_event" s_wrong_event a fd) : BindsAll fd ["houses", "events"] [] := by
  obtain ⟨_, _, _, _, _, _, _, _, _, rfl, _, _⟩ := F.ex
  refine ⟨fun us hl => match us, hl with | [_, _], _ => rfl, fun q hq => ?_⟩
  cases hq
theorem ctx_wrong_event (g_is_event : Cl P w K mg base 2 "is_event" ["houses", "value"] [] F_is_event) (z_enumerate : mg "enumerate" = none) (c_FALL : GlK K mg "FALL" (.str (Str.ofString "fall"))) (c_TAKE : GlK K mg "TAKE" (.str (Str.ofString "take"))) : Ctx P w K mg base 2 x_wrong_event G_wrong_event := by
  refine ⟨fun nm h => ?_, fun k f nm ps kb h1 h2 => ?_, fun g d nm h1 h2 => ?_⟩
  · have h : nm ∈ [("enumerate" : Str)] := h
    rcases List.mem_cons.mp h with rfl | h
    · exact z_enumerate
    cases h
  · match k, h1, h2 with
    | 0, h1, h2 => cases h1; cases h2; exact g_is_event.mono (by decide)
    | n + 1, h1, h2 => exact absurd h1 (by simp [G_wrong_event])
  · match g, h1, h2 with
    | 0, h1, h2 => cases h1; cases h2; exact c_FALL
    | 1, h1, h2 => cases h1; cases h2; exact c_TAKE
    | n + 2, h1, h2 => exact absurd h1 (by simp [G_wrong_event])
theorem cl_wrong_event {a : Addr} {fd : FuncData} (F : Fun K "wrong_event" "wrong_event" s_wrong_event a fd) (gf : mg "wrong_event" = some (.ref a)) (c : Ctx P w K mg base 2 x_wrong_event G_wrong_event) : Cl P w K mg base 3 "wrong_event" ["houses", "events"] [] F_wrong_event :=
  ⟨⟨a, fd, gf, F.kp, bd_wrong_event F, def_G F sc_wrong_event c rfl ck_wrong_event⟩, rfl⟩
theorem bd_need_weaving {a : Addr} {fd : FuncData} (F : Fun K "need_weaving" "need_weaving" s_need_weaving a fd) : BindsAll fd ["houses", "value"] [] := by
  obtain ⟨_, _, _, _, _, _, _, _, _, rfl, _, _⟩ := F.ex
  refine ⟨fun us hl => match us, hl with | [_, _], _ => rfl, fun q hq => ?_⟩
  cases hq
theorem ctx_need_weaving (g_wrong_event : Cl P w K mg base 3 "wrong_event" ["houses", "events"] [] F_wrong_event) (z_isinstance : mg "isinstance" = none) (z_list : mg "list" = none) (z_len : mg "len" = none) (c_MOST_EVENTS : GlK K mg "MOST_EVENTS" (.int 800)) : Ctx P w K mg base 3 x_need_weaving G_need_weaving := by
  refine ⟨fun nm h => ?_, fun k f nm ps kb h1 h2 => ?_, fun g d nm h1 h2 => ?_⟩
  · have h : nm ∈ [("isinstance" : Str), ("list" : Str), ("len" : Str)] := h
    rcases List.mem_cons.mp h with rfl | h
    · exact z_isinstance
    rcases List.mem_cons.mp h with rfl | h
    · exact z_list
    rcases List.mem_cons.mp h with rfl | h
    · exact z_len
    cases h
  · match k, h1, h2 with
    | 0, h1, h2 => cases h1; cases h2; exact g_wrong_event.mono (by decide)
    | n + 1, h1, h2 => exact absurd h1 (by simp [G_need_weaving])
  · match g, h1, h2 with
    | 0, h1, h2 => cases h1; cases h2; exact c_MOST_EVENTS
    | n + 1, h1, h2 => exact absurd h1 (by simp [G_need_weaving])
theorem cl_need_weaving {a : Addr} {fd : FuncData} (F : Fun K "need_weaving" "need_weaving" s_need_weaving a fd) (gf : mg "need_weaving" = some (.ref a)) (c : Ctx P w K mg base 3 x_need_weaving G_need_weaving) : Cl P w K mg base 4 "need_weaving" ["houses", "value"] [] F_need_weaving :=
  ⟨⟨a, fd, gf, F.kp, bd_need_weaving F, def_G F sc_need_weaving c rfl ck_need_weaving⟩, rfl⟩
theorem bd_deeds_of {a : Addr} {fd : FuncData} (F : Fun K "deeds_of" "deeds_of" s_deeds_of a fd) : BindsAll fd ["houses", "weaving"] [(["weaving", "houses"], [1, 0])] := by
  obtain ⟨_, _, _, _, _, _, _, _, _, rfl, _, _⟩ := F.ex
  refine ⟨fun us hl => match us, hl with | [_, _], _ => rfl, fun q hq => ?_⟩
  rcases List.mem_cons.mp hq with rfl | hq
  · exact fun us hl => match us, hl with | [_, _], _ => rfl
  cases hq
theorem ctx_deeds_of (g_need_houses : Cl P w K mg base 2 "need_houses" ["value"] [] F_need_houses) (g_need_weaving : Cl P w K mg base 4 "need_weaving" ["houses", "value"] [] F_need_weaving) (z_enumerate : mg "enumerate" = none) (z_len : mg "len" = none) (c_TAKE : GlK K mg "TAKE" (.str (Str.ofString "take"))) : Ctx P w K mg base 4 x_deeds_of G_deeds_of := by
  refine ⟨fun nm h => ?_, fun k f nm ps kb h1 h2 => ?_, fun g d nm h1 h2 => ?_⟩
  · have h : nm ∈ [("enumerate" : Str), ("len" : Str)] := h
    rcases List.mem_cons.mp h with rfl | h
    · exact z_enumerate
    rcases List.mem_cons.mp h with rfl | h
    · exact z_len
    cases h
  · match k, h1, h2 with
    | 0, h1, h2 => cases h1; cases h2; exact g_need_houses.mono (by decide)
    | 1, h1, h2 => cases h1; cases h2; exact g_need_weaving.mono (by decide)
    | n + 2, h1, h2 => exact absurd h1 (by simp [G_deeds_of])
  · match g, h1, h2 with
    | 0, h1, h2 => cases h1; cases h2; exact c_TAKE
    | n + 1, h1, h2 => exact absurd h1 (by simp [G_deeds_of])
theorem cl_deeds_of {a : Addr} {fd : FuncData} (F : Fun K "deeds_of" "deeds_of" s_deeds_of a fd) (gf : mg "deeds_of" = some (.ref a)) (c : Ctx P w K mg base 4 x_deeds_of G_deeds_of) : Cl P w K mg base 5 "deeds_of" ["houses", "weaving"] [(["weaving", "houses"], [1, 0])] F_deeds_of :=
  ⟨⟨a, fd, gf, F.kp, bd_deeds_of F, def_G F sc_deeds_of c rfl ck_deeds_of⟩, rfl⟩
theorem bd_need_number {a : Addr} {fd : FuncData} (F : Fun K "need_number" "need_number" s_need_number a fd) : BindsAll fd ["value", "least", "most"] [] := by
  obtain ⟨_, _, _, _, _, _, _, _, _, rfl, _, _⟩ := F.ex
  refine ⟨fun us hl => match us, hl with | [_, _, _], _ => rfl, fun q hq => ?_⟩
  cases hq
theorem ctx_need_number (g_is_integer : Cl P w K mg base 1 "is_integer" ["value", "least", "most"] [] F_is_integer)   : Ctx P w K mg base 1 x_need_number G_need_number := by
  refine ⟨fun nm h => ?_, fun k f nm ps kb h1 h2 => ?_, fun g d nm h1 h2 => ?_⟩
  · cases h
  · match k, h1, h2 with
    | 0, h1, h2 => cases h1; cases h2; exact g_is_integer.mono (by decide)
    | n + 1, h1, h2 => exact absurd h1 (by simp [G_need_number])
  · exact absurd h1 (by simp [G_need_number])
theorem cl_need_number {a : Addr} {fd : FuncData} (F : Fun K "need_number" "need_number" s_need_number a fd) (gf : mg "need_number" = some (.ref a)) (c : Ctx P w K mg base 1 x_need_number G_need_number) : Cl P w K mg base 2 "need_number" ["value", "least", "most"] [] F_need_number :=
  ⟨⟨a, fd, gf, F.kp, bd_need_number F, def_G F sc_need_number c rfl ck_need_number⟩, rfl⟩
theorem bd_without_house {a : Addr} {fd : FuncData} (F : Fun K "without_house" "without_house" s_without_house a fd) : BindsAll fd ["houses", "weaving", "house"] [(["house", "weaving", "houses"], [2, 1, 0])] := by
  obtain ⟨_, _, _, _, _, _, _, _, _, rfl, _, _⟩ := F.ex
  refine ⟨fun us hl => match us, hl with | [_, _, _], _ => rfl, fun q hq => ?_⟩
  rcases List.mem_cons.mp hq with rfl | hq
  · exact fun us hl => match us, hl with | [_, _, _], _ => rfl
  cases hq
theorem ctx_without_house (g_need_houses : Cl P w K mg base 2 "need_houses" ["value"] [] F_need_houses) (g_need_weaving : Cl P w K mg base 4 "need_weaving" ["houses", "value"] [] F_need_weaving) (g_need_number : Cl P w K mg base 2 "need_number" ["value", "least", "most"] [] F_need_number)   : Ctx P w K mg base 4 x_without_house G_without_house := by
  refine ⟨fun nm h => ?_, fun k f nm ps kb h1 h2 => ?_, fun g d nm h1 h2 => ?_⟩
  · cases h
  · match k, h1, h2 with
    | 0, h1, h2 => cases h1; cases h2; exact g_need_houses.mono (by decide)
    | 1, h1, h2 => cases h1; cases h2; exact g_need_weaving.mono (by decide)
    | 2, h1, h2 => cases h1; cases h2; exact g_need_number.mono (by decide)
    | n + 3, h1, h2 => exact absurd h1 (by simp [G_without_house])
  · exact absurd h1 (by simp [G_without_house])
theorem cl_without_house {a : Addr} {fd : FuncData} (F : Fun K "without_house" "without_house" s_without_house a fd) (gf : mg "without_house" = some (.ref a)) (c : Ctx P w K mg base 4 x_without_house G_without_house) : Cl P w K mg base 5 "without_house" ["houses", "weaving", "house"] [(["house", "weaving", "houses"], [2, 1, 0])] F_without_house :=
  ⟨⟨a, fd, gf, F.kp, bd_without_house F, def_G F sc_without_house c rfl ck_without_house⟩, rfl⟩
theorem bd_is_weaving {a : Addr} {fd : FuncData} (F : Fun K "is_weaving" "is_weaving" s_is_weaving a fd) : BindsAll fd ["houses", "value"] [] := by
  obtain ⟨_, _, _, _, _, _, _, _, _, rfl, _, _⟩ := F.ex
  refine ⟨fun us hl => match us, hl with | [_, _], _ => rfl, fun q hq => ?_⟩
  cases hq
theorem ctx_is_weaving (g_need_houses : Cl P w K mg base 2 "need_houses" ["value"] [] F_need_houses) (g_wrong_event : Cl P w K mg base 3 "wrong_event" ["houses", "events"] [] F_wrong_event) (z_isinstance : mg "isinstance" = none) (z_list : mg "list" = none) (z_len : mg "len" = none) (c_MOST_EVENTS : GlK K mg "MOST_EVENTS" (.int 800)) : Ctx P w K mg base 3 x_is_weaving G_is_weaving := by
  refine ⟨fun nm h => ?_, fun k f nm ps kb h1 h2 => ?_, fun g d nm h1 h2 => ?_⟩
  · have h : nm ∈ [("isinstance" : Str), ("list" : Str), ("len" : Str)] := h
    rcases List.mem_cons.mp h with rfl | h
    · exact z_isinstance
    rcases List.mem_cons.mp h with rfl | h
    · exact z_list
    rcases List.mem_cons.mp h with rfl | h
    · exact z_len
    cases h
  · match k, h1, h2 with
    | 0, h1, h2 => cases h1; cases h2; exact g_need_houses.mono (by decide)
    | 1, h1, h2 => cases h1; cases h2; exact g_wrong_event.mono (by decide)
    | n + 2, h1, h2 => exact absurd h1 (by simp [G_is_weaving])
  · match g, h1, h2 with
    | 0, h1, h2 => cases h1; cases h2; exact c_MOST_EVENTS
    | n + 1, h1, h2 => exact absurd h1 (by simp [G_is_weaving])
theorem cl_is_weaving {a : Addr} {fd : FuncData} (F : Fun K "is_weaving" "is_weaving" s_is_weaving a fd) (gf : mg "is_weaving" = some (.ref a)) (c : Ctx P w K mg base 3 x_is_weaving G_is_weaving) : Cl P w K mg base 4 "is_weaving" ["houses", "value"] [] F_is_weaving :=
  ⟨⟨a, fd, gf, F.kp, bd_is_weaving F, def_G F sc_is_weaving c rfl ck_is_weaving⟩, rfl⟩
theorem bd__law_right {a : Addr} {fd : FuncData} (F : Fun K "_law_right" "_law_right" s__law_right a fd) : BindsAll fd ["source", "firms", "acts"] [] := by
  obtain ⟨_, _, _, _, _, _, _, _, _, rfl, _, _⟩ := F.ex
  refine ⟨fun us hl => match us, hl with | [_, _, _], _ => rfl, fun q hq => ?_⟩
  cases hq
theorem ctx__law_right (g__law_draw : Cl P w K mg base 1 "_law_draw" ["source", "count"] [] F__law_draw) (g__law_deeds : Cl P w K mg base 1 "_law_deeds" ["acts"] [] F__law_deeds) (g_deeds_of : Cl P w K mg base 5 "deeds_of" ["houses", "weaving"] [(["weaving", "houses"], [1, 0])] F_deeds_of) (g_without_house : Cl P w K mg base 5 "without_house" ["houses", "weaving", "house"] [(["house", "weaving", "houses"], [2, 1, 0])] F_without_house) (g_is_weaving : Cl P w K mg base 4 "is_weaving" ["houses", "value"] [] F_is_weaving) (z_repr : mg "repr" = none)  : Ctx P w K mg base 5 x__law_right G__law_right := by
  refine ⟨fun nm h => ?_, fun k f nm ps kb h1 h2 => ?_, fun g d nm h1 h2 => ?_⟩
  · have h : nm ∈ [("repr" : Str)] := h
    rcases List.mem_cons.mp h with rfl | h
    · exact z_repr
    cases h
  · match k, h1, h2 with
    | 0, h1, h2 => cases h1; cases h2; exact g__law_draw.mono (by decide)
    | 1, h1, h2 => cases h1; cases h2; exact g__law_deeds.mono (by decide)
    | 2, h1, h2 => cases h1; cases h2; exact g_deeds_of.mono (by decide)
    | 3, h1, h2 => cases h1; cases h2; exact g_without_house.mono (by decide)
    | 4, h1, h2 => cases h1; cases h2; exact g_is_weaving.mono (by decide)
    | n + 5, h1, h2 => exact absurd h1 (by simp [G__law_right])
  · exact absurd h1 (by simp [G__law_right])
theorem cl__law_right {a : Addr} {fd : FuncData} (F : Fun K "_law_right" "_law_right" s__law_right a fd) (gf : mg "_law_right" = some (.ref a)) (c : Ctx P w K mg base 5 x__law_right G__law_right) : Cl P w K mg base 6 "_law_right" ["source", "firms", "acts"] [] F__law_right :=
  ⟨⟨a, fd, gf, F.kp, bd__law_right F, def_G F sc__law_right c rfl ck__law_right⟩, rfl⟩
theorem bd__law_acts {a : Addr} {fd : FuncData} (F : Fun K "_law_acts" "_law_acts" s__law_acts a fd) : BindsAll fd ["source", "firms", "many", "falls"] [] := by
  obtain ⟨_, _, _, _, _, _, _, _, _, rfl, _, _⟩ := F.ex
  refine ⟨fun us hl => match us, hl with | [_, _, _, _], _ => rfl, fun q hq => ?_⟩
  cases hq
theorem ctx__law_acts (g__law_draw : Cl P w K mg base 1 "_law_draw" ["source", "count"] [] F__law_draw) (z_range : mg "range" = none) (z_int : mg "int" = none)  : Ctx P w K mg base 1 x__law_acts G__law_acts := by
  refine ⟨fun nm h => ?_, fun k f nm ps kb h1 h2 => ?_, fun g d nm h1 h2 => ?_⟩
  · have h : nm ∈ [("range" : Str), ("int" : Str)] := h
    rcases List.mem_cons.mp h with rfl | h
    · exact z_range
    rcases List.mem_cons.mp h with rfl | h
    · exact z_int
    cases h
  · match k, h1, h2 with
    | 0, h1, h2 => cases h1; cases h2; exact g__law_draw.mono (by decide)
    | n + 1, h1, h2 => exact absurd h1 (by simp [G__law_acts])
  · exact absurd h1 (by simp [G__law_acts])
theorem cl__law_acts {a : Addr} {fd : FuncData} (F : Fun K "_law_acts" "_law_acts" s__law_acts a fd) (gf : mg "_law_acts" = some (.ref a)) (c : Ctx P w K mg base 1 x__law_acts G__law_acts) : Cl P w K mg base 2 "_law_acts" ["source", "firms", "many", "falls"] [] F__law_acts :=
  ⟨⟨a, fd, gf, F.kp, bd__law_acts F, def_G F sc__law_acts c rfl ck__law_acts⟩, rfl⟩
theorem bd_law {a : Addr} {fd : FuncData} (F : Fun K "law" "law" s_law a fd) : BindsAll fd ["script"] [] := by
  obtain ⟨_, _, _, _, _, _, _, _, _, rfl, _, _⟩ := F.ex
  refine ⟨fun us hl => match us, hl with | [_], _ => rfl, fun q hq => ?_⟩
  cases hq
theorem ctx_law (g__law_source : Cl P w K mg base 1 "_law_source" ["cell", "k"] [] F__law_source) (g__law_draw : Cl P w K mg base 1 "_law_draw" ["source", "count"] [] F__law_draw) (g__law_right : Cl P w K mg base 6 "_law_right" ["source", "firms", "acts"] [] F__law_right) (g_deeds_of : Cl P w K mg base 5 "deeds_of" ["houses", "weaving"] [(["weaving", "houses"], [1, 0])] F_deeds_of) (g_without_house : Cl P w K mg base 5 "without_house" ["houses", "weaving", "house"] [(["house", "weaving", "houses"], [2, 1, 0])] F_without_house) (g__law_acts : Cl P w K mg base 2 "_law_acts" ["source", "firms", "many", "falls"] [] F__law_acts) (z_enumerate : mg "enumerate" = none) (z_max : mg "max" = none) (z_min : mg "min" = none) (z_len : mg "len" = none) (z_int : mg "int" = none)  : Ctx P w K mg base 6 x_law G_law := by
  refine ⟨fun nm h => ?_, fun k f nm ps kb h1 h2 => ?_, fun g d nm h1 h2 => ?_⟩
  · have h : nm ∈ [("enumerate" : Str), ("max" : Str), ("min" : Str), ("len" : Str), ("int" : Str)] := h
    rcases List.mem_cons.mp h with rfl | h
    · exact z_enumerate
    rcases List.mem_cons.mp h with rfl | h
    · exact z_max
    rcases List.mem_cons.mp h with rfl | h
    · exact z_min
    rcases List.mem_cons.mp h with rfl | h
    · exact z_len
    rcases List.mem_cons.mp h with rfl | h
    · exact z_int
    cases h
  · match k, h1, h2 with
    | 0, h1, h2 => cases h1; cases h2; exact g__law_source.mono (by decide)
    | 1, h1, h2 => cases h1; cases h2; exact g__law_draw.mono (by decide)
    | 2, h1, h2 => cases h1; cases h2; exact g__law_right.mono (by decide)
    | 3, h1, h2 => cases h1; cases h2; exact g_deeds_of.mono (by decide)
    | 4, h1, h2 => cases h1; cases h2; exact g_without_house.mono (by decide)
    | 5, h1, h2 => cases h1; cases h2; exact g__law_acts.mono (by decide)
    | n + 6, h1, h2 => exact absurd h1 (by simp [G_law])
  · exact absurd h1 (by simp [G_law])
end
theorem all_mk {l : PySem.W.OpenLaw} {w : World} {K : PySem.W.Frag} {h : Heap} {mg : Str → Option Value} {fa f0 f1 f2 f3 f4 f5 f6 f7 f8 f9 f10 f11 f12 f13 f14 : Addr} (X : K.In h) (G : h.Ns mainGlobals mg) (hfa : mg "law" = some (.ref fa))
    {od0 an0 od1 an1 od2 an2 od3 an3 od4 an4 od5 an5 od6 an6 od7 an7 od8 an8 od9 an9 od10 an10 od11 an11 od12 an12 od13 an13 od14 an14 : Option Addr} {sl0 sl1 sl2 sl3 sl4 sl5 sl6 sl7 sl8 sl9 sl10 sl11 sl12 sl13 sl14 : Array (Option Value)} {oc0 kV0 dc0 pm0 cd0 ct0 oc1 kV1 dc1 pm1 cd1 ct1 oc2 kV2 dc2 pm2 cd2 ct2 oc3 kV3 dc3 pm3 cd3 ct3 oc4 kV4 dc4 pm4 cd4 ct4 oc5 kV5 dc5 pm5 cd5 ct5 oc6 kV6 dc6 pm6 cd6 ct6 oc7 kV7 dc7 pm7 cd7 ct7 oc8 kV8 dc8 pm8 cd8 ct8 oc9 kV9 dc9 pm9 cd9 ct9 oc10 kV10 dc10 pm10 cd10 ct10 oc11 kV11 dc11 pm11 cd11 ct11 oc12 kV12 dc12 pm12 cd12 ct12 oc13 kV13 dc13 pm13 cd13 ct13 oc14 kV14 dc14 pm14 cd14 ct14 : Value} {tk0 : _} {w1 : Addr} {wd1 : Option Addr} {wn1 : Nat} {ws1 : Array (Option Value)} {tk1_0 tk1_1 tk1_2 tk1_3 : _} {tk2 : _} {tk3 : _} {tk4 : _}
    (a0 : PySem.W.nsIn K mainGlobals "_law_source" = some (some (.ref f0))) (l0 : K.lookup f0 = some ⟨oc0, od0, .func (PySem.W.fnOf "_law_source" "_law_source" (defArgs s__law_source) (defBody s__law_source) (defScope s__law_source) .none kV0 dc0 pm0 an0 cd0 ct0), sl0⟩) (c0 : PySem.W.codeIn K cd0 "_law_source" = true) (k0 : PySem.W.keepIn K (.ref f0) = true)
    (a1 : PySem.W.nsIn K mainGlobals "_law_draw" = some (some (.ref f1))) (l1 : K.lookup f1 = some ⟨oc1, od1, .func (PySem.W.fnOf "_law_draw" "_law_draw" (defArgs s__law_draw) (defBody s__law_draw) (defScope s__law_draw) .none kV1 dc1 pm1 an1 cd1 ct1), sl1⟩) (c1 : PySem.W.codeIn K cd1 "_law_draw" = true) (k1 : PySem.W.keepIn K (.ref f1) = true)
    (a2 : PySem.W.nsIn K mainGlobals "_law_deeds" = some (some (.ref f2))) (l2 : K.lookup f2 = some ⟨oc2, od2, .func (PySem.W.fnOf "_law_deeds" "_law_deeds" (defArgs s__law_deeds) (defBody s__law_deeds) (defScope s__law_deeds) .none kV2 dc2 pm2 an2 cd2 ct2), sl2⟩) (c2 : PySem.W.codeIn K cd2 "_law_deeds" = true) (k2 : PySem.W.keepIn K (.ref f2) = true)
    (a3 : PySem.W.nsIn K mainGlobals "is_integer" = some (some (.ref f3))) (l3 : K.lookup f3 = some ⟨oc3, od3, .func (PySem.W.fnOf "is_integer" "is_integer" (defArgs s_is_integer) (defBody s_is_integer) (defScope s_is_integer) .none kV3 dc3 pm3 an3 cd3 ct3), sl3⟩) (c3 : PySem.W.codeIn K cd3 "is_integer" = true) (k3 : PySem.W.keepIn K (.ref f3) = true)
    (a4 : PySem.W.nsIn K mainGlobals "need_houses" = some (some (.ref f4))) (l4 : K.lookup f4 = some ⟨oc4, od4, .func (PySem.W.fnOf "need_houses" "need_houses" (defArgs s_need_houses) (defBody s_need_houses) (defScope s_need_houses) .none kV4 dc4 pm4 an4 cd4 ct4), sl4⟩) (c4 : PySem.W.codeIn K cd4 "need_houses" = true) (k4 : PySem.W.keepIn K (.ref f4) = true)
    (a5 : PySem.W.nsIn K mainGlobals "is_event" = some (some (.ref f5))) (l5 : K.lookup f5 = some ⟨oc5, od5, .func (PySem.W.fnOf "is_event" "is_event" (defArgs s_is_event) (defBody s_is_event) (defScope s_is_event) .none kV5 dc5 pm5 an5 cd5 ct5), sl5⟩) (c5 : PySem.W.codeIn K cd5 "is_event" = true) (k5 : PySem.W.keepIn K (.ref f5) = true)
    (a6 : PySem.W.nsIn K mainGlobals "wrong_event" = some (some (.ref f6))) (l6 : K.lookup f6 = some ⟨oc6, od6, .func (PySem.W.fnOf "wrong_event" "wrong_event" (defArgs s_wrong_event) (defBody s_wrong_event) (defScope s_wrong_event) .none kV6 dc6 pm6 an6 cd6 ct6), sl6⟩) (c6 : PySem.W.codeIn K cd6 "wrong_event" = true) (k6 : PySem.W.keepIn K (.ref f6) = true)
    (a7 : PySem.W.nsIn K mainGlobals "need_weaving" = some (some (.ref f7))) (l7 : K.lookup f7 = some ⟨oc7, od7, .func (PySem.W.fnOf "need_weaving" "need_weaving" (defArgs s_need_weaving) (defBody s_need_weaving) (defScope s_need_weaving) .none kV7 dc7 pm7 an7 cd7 ct7), sl7⟩) (c7 : PySem.W.codeIn K cd7 "need_weaving" = true) (k7 : PySem.W.keepIn K (.ref f7) = true)
    (a8 : PySem.W.nsIn K mainGlobals "deeds_of" = some (some (.ref f8))) (l8 : K.lookup f8 = some ⟨oc8, od8, .func (PySem.W.fnOf "deeds_of" "deeds_of" (defArgs s_deeds_of) (defBody s_deeds_of) (defScope s_deeds_of) .none kV8 dc8 pm8 an8 cd8 ct8), sl8⟩) (c8 : PySem.W.codeIn K cd8 "deeds_of" = true) (k8 : PySem.W.keepIn K (.ref f8) = true)
    (a9 : PySem.W.nsIn K mainGlobals "need_number" = some (some (.ref f9))) (l9 : K.lookup f9 = some ⟨oc9, od9, .func (PySem.W.fnOf "need_number" "need_number" (defArgs s_need_number) (defBody s_need_number) (defScope s_need_number) .none kV9 dc9 pm9 an9 cd9 ct9), sl9⟩) (c9 : PySem.W.codeIn K cd9 "need_number" = true) (k9 : PySem.W.keepIn K (.ref f9) = true)
    (a10 : PySem.W.nsIn K mainGlobals "without_house" = some (some (.ref f10))) (l10 : K.lookup f10 = some ⟨oc10, od10, .func (PySem.W.fnOf "without_house" "without_house" (defArgs s_without_house) (defBody s_without_house) (defScope s_without_house) .none kV10 dc10 pm10 an10 cd10 ct10), sl10⟩) (c10 : PySem.W.codeIn K cd10 "without_house" = true) (k10 : PySem.W.keepIn K (.ref f10) = true)
    (a11 : PySem.W.nsIn K mainGlobals "is_weaving" = some (some (.ref f11))) (l11 : K.lookup f11 = some ⟨oc11, od11, .func (PySem.W.fnOf "is_weaving" "is_weaving" (defArgs s_is_weaving) (defBody s_is_weaving) (defScope s_is_weaving) .none kV11 dc11 pm11 an11 cd11 ct11), sl11⟩) (c11 : PySem.W.codeIn K cd11 "is_weaving" = true) (k11 : PySem.W.keepIn K (.ref f11) = true)
    (a12 : PySem.W.nsIn K mainGlobals "_law_right" = some (some (.ref f12))) (l12 : K.lookup f12 = some ⟨oc12, od12, .func (PySem.W.fnOf "_law_right" "_law_right" (defArgs s__law_right) (defBody s__law_right) (defScope s__law_right) .none kV12 dc12 pm12 an12 cd12 ct12), sl12⟩) (c12 : PySem.W.codeIn K cd12 "_law_right" = true) (k12 : PySem.W.keepIn K (.ref f12) = true)
    (a13 : PySem.W.nsIn K mainGlobals "_law_acts" = some (some (.ref f13))) (l13 : K.lookup f13 = some ⟨oc13, od13, .func (PySem.W.fnOf "_law_acts" "_law_acts" (defArgs s__law_acts) (defBody s__law_acts) (defScope s__law_acts) .none kV13 dc13 pm13 an13 cd13 ct13), sl13⟩) (c13 : PySem.W.codeIn K cd13 "_law_acts" = true) (k13 : PySem.W.keepIn K (.ref f13) = true)
    (a14 : PySem.W.nsIn K mainGlobals "law" = some (some (.ref f14))) (l14 : K.lookup f14 = some ⟨oc14, od14, .func (PySem.W.fnOf "law" "law" (defArgs s_law) (defBody s_law) (defScope s_law) .none kV14 dc14 pm14 an14 cd14 ct14), sl14⟩) (c14 : PySem.W.codeIn K cd14 "law" = true) (k14 : PySem.W.keepIn K (.ref f14) = true)
    (z0 : PySem.W.nsIn K mainGlobals "abs" = some none)
    (z1 : PySem.W.nsIn K mainGlobals "max" = some none)
    (z2 : PySem.W.nsIn K mainGlobals "int" = some none)
    (z3 : PySem.W.nsIn K mainGlobals "enumerate" = some none)
    (z4 : PySem.W.nsIn K mainGlobals "range" = some none)
    (z5 : PySem.W.nsIn K mainGlobals "len" = some none)
    (z6 : PySem.W.nsIn K mainGlobals "isinstance" = some none)
    (z7 : PySem.W.nsIn K mainGlobals "bool" = some none)
    (z8 : PySem.W.nsIn K mainGlobals "tuple" = some none)
    (z9 : PySem.W.nsIn K mainGlobals "str" = some none)
    (z10 : PySem.W.nsIn K mainGlobals "list" = some none)
    (z11 : PySem.W.nsIn K mainGlobals "repr" = some none)
    (z12 : PySem.W.nsIn K mainGlobals "min" = some none)
    (v0 : PySem.W.nsIn K mainGlobals "MOST_HOUSES" = some (some (.int 20 tk0)))
    (v1 : PySem.W.nsIn K mainGlobals "WORDS" = some (some (.ref w1))) (u1 : K.lookup w1 = some ⟨.type "tuple", wd1, .seq #[.str (Str.ofString "take") tk1_0, .str (Str.ofString "end") tk1_1, .str (Str.ofString "fail") tk1_2, .str (Str.ofString "fall") tk1_3] wn1, ws1⟩)
    (v2 : PySem.W.nsIn K mainGlobals "FALL" = some (some (.str (Str.ofString "fall") tk2)))
    (v3 : PySem.W.nsIn K mainGlobals "TAKE" = some (some (.str (Str.ofString "take") tk3)))
    (v4 : PySem.W.nsIn K mainGlobals "MOST_EVENTS" = some (some (.int 800 tk4)))
    : ∃ fd : FuncData, (∀ (s : Shared) (v : Value), BindsTo s fd ⟨[v], []⟩ [("script", v)]) ∧ ∀ base : Heap, K.In base → base.Ns mainGlobals mg → FnG l.prog w K mg base 7 fa fd ["script"] (spF K F_law) := by
  have e := hfa.symm.trans (PySem.W.mg_of X G a14)
  cases e
  have H0 := fun_mk (st := s__law_source) l0 c0 k0
  have H1 := fun_mk (st := s__law_draw) l1 c1 k1
  have H2 := fun_mk (st := s__law_deeds) l2 c2 k2
  have H3 := fun_mk (st := s_is_integer) l3 c3 k3
  have H4 := fun_mk (st := s_need_houses) l4 c4 k4
  have H5 := fun_mk (st := s_is_event) l5 c5 k5
  have H6 := fun_mk (st := s_wrong_event) l6 c6 k6
  have H7 := fun_mk (st := s_need_weaving) l7 c7 k7
  have H8 := fun_mk (st := s_deeds_of) l8 c8 k8
  have H9 := fun_mk (st := s_need_number) l9 c9 k9
  have H10 := fun_mk (st := s_without_house) l10 c10 k10
  have H11 := fun_mk (st := s_is_weaving) l11 c11 k11
  have H12 := fun_mk (st := s__law_right) l12 c12 k12
  have H13 := fun_mk (st := s__law_acts) l13 c13 k13
  have H14 := fun_mk (st := s_law) l14 c14 k14
  refine ⟨PySem.W.fnOf "law" "law" (defArgs s_law) (defBody s_law) (defScope s_law) .none kV14 dc14 pm14 an14 cd14 ct14, fun s v => .of_eq ((bd_law H14).1 [v] rfl), fun base _ _ => ?_⟩
  have y0 := PySem.W.mg_none_of X G z0
  have y1 := PySem.W.mg_none_of X G z1
  have y2 := PySem.W.mg_none_of X G z2
  have y3 := PySem.W.mg_none_of X G z3
  have y4 := PySem.W.mg_none_of X G z4
  have y5 := PySem.W.mg_none_of X G z5
  have y6 := PySem.W.mg_none_of X G z6
  have y7 := PySem.W.mg_none_of X G z7
  have y8 := PySem.W.mg_none_of X G z8
  have y9 := PySem.W.mg_none_of X G z9
  have y10 := PySem.W.mg_none_of X G z10
  have y11 := PySem.W.mg_none_of X G z11
  have y12 := PySem.W.mg_none_of X G z12
  have g0 : GlK K mg "MOST_HOUSES" (.int 20) := ⟨_, .int 20, PySem.W.mg_of X G v0, ⟨_, rfl⟩, by simp only [RepD]⟩
  have g1 : GlK K mg "WORDS" (.tup [.str (Str.ofString "take"), .str (Str.ofString "end"), .str (Str.ofString "fail"), .str (Str.ofString "fall")]) := ⟨_, .ref w1, PySem.W.mg_of X G v1, rfl, by simp only [RepD]; exact ⟨w1, [.str (Str.ofString "take"), .str (Str.ofString "end"), .str (Str.ofString "fail"), .str (Str.ofString "fall")], rfl, .inr ⟨_, _, _, u1, rfl, fun z => absurd z (by decide), rfl, by show 4 ≤ sizeLine; decide, .cons ⟨_, rfl⟩ (.cons ⟨_, rfl⟩ (.cons ⟨_, rfl⟩ (.cons ⟨_, rfl⟩ (.nil))))⟩, by simp [RepDs, RepD]⟩⟩
  have g2 : GlK K mg "FALL" (.str (Str.ofString "fall")) := ⟨_, .str (Str.ofString "fall"), PySem.W.mg_of X G v2, ⟨_, rfl⟩, by simp only [RepD]⟩
  have g3 : GlK K mg "TAKE" (.str (Str.ofString "take")) := ⟨_, .str (Str.ofString "take"), PySem.W.mg_of X G v3, ⟨_, rfl⟩, by simp only [RepD]⟩
  have g4 : GlK K mg "MOST_EVENTS" (.int 800) := ⟨_, .int 800, PySem.W.mg_of X G v4, ⟨_, rfl⟩, by simp only [RepD]⟩
  have D0 := ctx__law_source (P := l.prog) (w := w) (K := K) (mg := mg) (base := base)  y0 y1 y2 
  have C0 := cl__law_source H0 (PySem.W.mg_of X G a0) D0
  have D1 := ctx__law_draw (P := l.prog) (w := w) (K := K) (mg := mg) (base := base)  y2 
  have C1 := cl__law_draw H1 (PySem.W.mg_of X G a1) D1
  have D2 := ctx__law_deeds (P := l.prog) (w := w) (K := K) (mg := mg) (base := base)  y3 y4 y5 
  have C2 := cl__law_deeds H2 (PySem.W.mg_of X G a2) D2
  have D3 := ctx_is_integer (P := l.prog) (w := w) (K := K) (mg := mg) (base := base)  y6 y2 y7 
  have C3 := cl_is_integer H3 (PySem.W.mg_of X G a3) D3
  have D4 := ctx_need_houses (P := l.prog) (w := w) (K := K) (mg := mg) (base := base) C3  g0
  have C4 := cl_need_houses H4 (PySem.W.mg_of X G a4) D4
  have D5 := ctx_is_event (P := l.prog) (w := w) (K := K) (mg := mg) (base := base) C3 y6 y8 y5 y9 g1
  have C5 := cl_is_event H5 (PySem.W.mg_of X G a5) D5
  have D6 := ctx_wrong_event (P := l.prog) (w := w) (K := K) (mg := mg) (base := base) C5 y3 g2 g3
  have C6 := cl_wrong_event H6 (PySem.W.mg_of X G a6) D6
  have D7 := ctx_need_weaving (P := l.prog) (w := w) (K := K) (mg := mg) (base := base) C6 y6 y10 y5 g4
  have C7 := cl_need_weaving H7 (PySem.W.mg_of X G a7) D7
  have D8 := ctx_deeds_of (P := l.prog) (w := w) (K := K) (mg := mg) (base := base) C4 C7 y3 y5 g3
  have C8 := cl_deeds_of H8 (PySem.W.mg_of X G a8) D8
  have D9 := ctx_need_number (P := l.prog) (w := w) (K := K) (mg := mg) (base := base) C3  
  have C9 := cl_need_number H9 (PySem.W.mg_of X G a9) D9
  have D10 := ctx_without_house (P := l.prog) (w := w) (K := K) (mg := mg) (base := base) C4 C7 C9  
  have C10 := cl_without_house H10 (PySem.W.mg_of X G a10) D10
  have D11 := ctx_is_weaving (P := l.prog) (w := w) (K := K) (mg := mg) (base := base) C4 C6 y6 y10 y5 g4
  have C11 := cl_is_weaving H11 (PySem.W.mg_of X G a11) D11
  have D12 := ctx__law_right (P := l.prog) (w := w) (K := K) (mg := mg) (base := base) C1 C2 C8 C10 C11 y11 
  have C12 := cl__law_right H12 (PySem.W.mg_of X G a12) D12
  have D13 := ctx__law_acts (P := l.prog) (w := w) (K := K) (mg := mg) (base := base) C1 y4 y2 
  have C13 := cl__law_acts H13 (PySem.W.mg_of X G a13) D13
  have D14 := ctx_law (P := l.prog) (w := w) (K := K) (mg := mg) (base := base) C0 C1 C12 C8 C10 C13 y3 y1 y12 y5 y2 
  exact def_G H14 sc_law D14 rfl ck_law
end LW

end
section
set_option maxRecDepth 100000
set_option exponentiation.threshold 9000
namespace LW
open PySem PySem.Spec PyProof.Rows L2 Mv
def p__law_source (v_cell : Int) (v_k : Int) : Option (List Int) :=
  (mulG ((absI v_cell) % (((10 : Int) ^ 39) + 3)) 97).bind fun x1 =>
  (mulG 2 v_k).bind fun x2 =>
  some ([(mx2 0 ((absI v_cell) - ((10 : Int) ^ 18))), ((x1 + x2) + (if (decide (v_cell < 0)) = true then 1 else 0)), 0])
theorem m__law_source {v_cell : Int} {v_k : Int} {r : List Int} (h : p__law_source v_cell v_k = some r) : F__law_source.run [(T.fz (D.int v_cell)), (T.fz (D.int v_k))] = some ((T.fl (r.map D.int)), []) := by
  unfold p__law_source at h
  rw [R__law_source]
  refine run_g (ρ := [.ow (T.fz (D.int v_cell)), .ow (T.fz (D.int v_k)), .no]) rfl rfl ?_
  refine ss_cons ?_
  refine wp_set ?_
  refine w_blt ?_
  refine ws_cons ?_
  refine w_var (oQ_in rfl ?_)
  refine ws_nil ?_
  refine ⟨rfl, ?_⟩
  refine oQ_in rfl ?_
  refine wl_abs ?_
  refine set_in (ρ2 := [.ow (T.fz (D.int v_cell)), .ow (T.fz (D.int v_k)), .ow (T.fz (D.int (absI v_cell)))]) (.ow <| .ow <| .no <| .nil) rfl Free.no rfl ?_
  refine nxe (ρ2 := [.ow (T.fz (D.int v_cell)), .ow (T.fz (D.int v_k)), .ow (T.fz (D.int (absI v_cell)))]) rfl ?_
  refine ss_cons ?_
  refine wp_ret ?_
  refine w_list ?_
  refine ws_cons ?_
  refine w_blt ?_
  refine ws_cons ?_
  refine w_kst ?_
  refine ws_cons ?_
  refine w_bin ?_
  refine w_var (oQ_in rfl ?_)
  refine w_bin ?_
  refine w_kst ?_
  refine w_kst ?_
  refine ⟨rfl, oQ_in rfl (oQ_in rfl ?_)⟩
  refine wb_pow (n := 18) (by decide) (by decide) (by decide +kernel) rfl ?_
  refine ⟨rfl, oQ_in rfl (oQ_in rfl ?_)⟩
  refine wb_sub ?_
  refine ws_nil ?_
  refine ⟨rfl, rfl, ?_⟩
  refine oQ_in rfl ?_
  refine wl_max ?_
  refine ws_cons ?_
  refine w_bin ?_
  refine w_bin ?_
  refine w_bin ?_
  refine w_bin ?_
  refine w_blt ?_
  refine ws_cons ?_
  refine w_var (oQ_in rfl ?_)
  refine ws_nil ?_
  refine ⟨rfl, ?_⟩
  refine oQ_in rfl ?_
  refine wl_int ?_
  refine w_bin ?_
  refine w_bin ?_
  refine w_kst ?_
  refine w_kst ?_
  refine ⟨rfl, oQ_in rfl (oQ_in rfl ?_)⟩
  refine wb_pow (n := 39) (by decide) (by decide) (by decide +kernel) rfl ?_
  refine w_kst ?_
  refine ⟨rfl, oQ_in rfl (oQ_in rfl ?_)⟩
  refine wb_add ?_
  refine ⟨rfl, oQ_in rfl (oQ_in rfl ?_)⟩
  refine wb_mod (by decide +kernel) ?_
  refine w_kst ?_
  refine ⟨rfl, oQ_in rfl (oQ_in rfl ?_)⟩
  obtain ⟨x1, g2, h⟩ := bnd h
  obtain ⟨k3, k4, rfl⟩ := mulG_some g2
  refine wb_mul k3 k4 ?_
  refine w_bin ?_
  refine w_kst ?_
  refine w_var (oQ_in rfl ?_)
  refine ⟨rfl, oQ_in rfl (oQ_in rfl ?_)⟩
  obtain ⟨x5, g6, h⟩ := bnd h
  obtain ⟨k7, k8, rfl⟩ := mulG_some g6
  refine wb_mul k7 k8 ?_
  refine ⟨rfl, oQ_in rfl (oQ_in rfl ?_)⟩
  refine wb_add ?_
  refine w_blt ?_
  refine ws_cons ?_
  refine w_cmp ?_
  refine w_var (oQ_in rfl ?_)
  refine w_kst ?_
  refine ⟨rfl, oQ_in rfl (oQ_in rfl ?_)⟩
  refine wc_lt ?_
  refine ws_nil ?_
  refine ⟨rfl, ?_⟩
  refine oQ_in rfl ?_
  refine wl_intb ?_
  refine ⟨rfl, oQ_in rfl (oQ_in rfl ?_)⟩
  refine wb_add ?_
  refine ws_cons ?_
  refine w_kst ?_
  refine ws_nil ?_
  refine ⟨rfl, rfl, rfl, ?_⟩
  refine oQ_in rfl ?_
  refine oQ_in rfl ?_
  obtain rfl := Option.some.inj h
  refine seqK_rt ?_
  exact ret_in rfl rfl
def p__law_draw (v_source : List Int) (v_count : Int) : Option ((Int × List Int)) :=
  (ixG v_source 0).bind fun x1 =>
  if 0 < x1 then
    (
    (ixG v_source 0).bind fun x2 =>
    (modG x2 v_count).bind fun x3 =>
    (ixG v_source 0).bind fun x4 =>
    (divG x4 v_count).bind fun x5 =>
    (stoG v_source 0 x5).bind fun x6 =>
    some (x3, x6)
    )
  else
    (
    (ixG v_source 2).bind fun x7 =>
    (stoG v_source 2 (x7 + 1)).bind fun x8 =>
    (ixG x8 1).bind fun x9 =>
    (ixG x8 2).bind fun x10 =>
    (mulG 600011 x10).bind fun x11 =>
    (powG (x9 + x11) 3).bind fun x12 =>
    (ixG x8 2).bind fun x13 =>
    (mulG (x12 % (((10 : Int) ^ 36) + 67)) x13).bind fun x14 =>
    (powG (x14 + 77773) 3).bind fun x15 =>
    (modG ((x15 % (((10 : Int) ^ 38) + 133)) / 32749) v_count).bind fun x16 =>
    some (x16, x8)
    )
theorem m__law_draw {v_source : List Int} {v_count : Int} {r : (Int × List Int)} (h : p__law_draw v_source v_count = some r) : F__law_draw.run [(T.fl (v_source.map D.int)), (T.fz (D.int v_count))] = some ((T.fz (D.int r.1)), [(T.fl (r.2.map D.int))]) := by
  unfold p__law_draw at h
  rw [R__law_draw]
  refine run_g (ρ := [.io (T.fl (v_source.map D.int)), .ow (T.fz (D.int v_count)), .no, .no]) rfl rfl ?_
  refine ss_cons ?_
  refine wp_ite ?_
  refine wt_cmp ?_
  refine w_ix ?_
  refine w_var (oQ_in rfl ?_)
  refine w_kst ?_
  refine vT_in rfl ⟨rfl, oQ_in rfl ?_⟩
  obtain ⟨x1, g2, h⟩ := bnd h
  refine wIx_2 rfl (ixVal_fl (e := D.int) (l := v_source) (x := x1) g2 rfl) ?_
  refine w_kst ?_
  refine ⟨rfl, oQ_in rfl (oQ_in rfl ?_)⟩
  by_cases c3 : 0 < x1
  · replace h := ift c3 h
    refine wc_gt_t c3 ?_
    refine ⟨fun _ => ?_, fun z => absurd z (by decide)⟩
    refine ss_cons ?_
    refine wp_set ?_
    refine w_bin ?_
    refine w_blt ?_
    refine ws_cons ?_
    refine w_ix ?_
    refine w_var (oQ_in rfl ?_)
    refine w_kst ?_
    refine vT_in rfl ⟨rfl, oQ_in rfl ?_⟩
    obtain ⟨x4, g5, h⟩ := bnd h
    refine wIx_2 rfl (ixVal_fl (e := D.int) (l := v_source) (x := x4) g5 rfl) ?_
    refine ws_nil ?_
    refine ⟨rfl, ?_⟩
    refine oQ_in rfl ?_
    refine wl_int ?_
    refine w_var (oQ_in rfl ?_)
    refine ⟨rfl, oQ_in rfl (oQ_in rfl ?_)⟩
    obtain ⟨x6, g7, h⟩ := bnd h
    obtain ⟨k8, rfl⟩ := modG_some g7
    refine wb_mod k8 ?_
    refine set_in (ρ2 := [.io (T.fl (v_source.map D.int)), .ow (T.fz (D.int v_count)), .ow (T.fz (D.int (x4 % v_count))), .no]) (.io <| .ow <| .no <| .no <| .nil) rfl Free.no rfl ?_
    refine nxe (ρ2 := [.io (T.fl (v_source.map D.int)), .ow (T.fz (D.int v_count)), .ow (T.fz (D.int (x4 % v_count))), .no]) rfl ?_
    refine ss_cons ?_
    refine wp_sto ?_
    refine w_bin ?_
    refine w_ix ?_
    refine w_var (oQ_in rfl ?_)
    refine w_kst ?_
    refine vT_in rfl ⟨rfl, oQ_in rfl ?_⟩
    obtain ⟨x9, g10, h⟩ := bnd h
    refine wIx_2 rfl (ixVal_fl (e := D.int) (l := v_source) (x := x9) g10 rfl) ?_
    refine w_var (oQ_in rfl ?_)
    refine ⟨rfl, oQ_in rfl (oQ_in rfl ?_)⟩
    obtain ⟨x11, g12, h⟩ := bnd h
    obtain ⟨k13, k14, rfl⟩ := divG_some g12
    refine wb_div k13 k14 ?_
    refine oQ_in rfl ?_
    refine w_var (oQ_in rfl ?_)
    refine w_kst ?_
    refine vPt_in rfl (vT_in rfl ⟨rfl, oQ_in rfl ?_⟩)
    obtain ⟨x15, g16, h⟩ := bnd h
    refine ⟨_, setIx_fl (e := D.int) (l := v_source) (x := (x9 / v_count)) g16, oQ_in (kix_set (.io <| .ow <| .ow <| .no <| .nil) rfl) ?_⟩
    refine nxe (ρ2 := [.io (T.fl (x15.map D.int)), .ow (T.fz (D.int v_count)), .ow (T.fz (D.int (x4 % v_count))), .no]) rfl ?_
    refine ss_cons ?_
    refine wp_ret ?_
    refine w_fzvK ?_
    refine w_var (oQ_in rfl ?_)
    refine fzk_fz (d := (D.int (x4 % v_count))) ?_
    refine oQ_in rfl ?_
    obtain rfl := Option.some.inj h
    refine seqK_rt ?_
    refine seqK_rt ?_
    exact ret_in rfl rfl
  · replace h := iff_ c3 h
    refine wc_gt_f c3 ?_
    refine ⟨fun z => absurd z (by decide), fun _ => ?_⟩
    refine ss_nil ?_
    refine nxe (ρ2 := [.io (T.fl (v_source.map D.int)), .ow (T.fz (D.int v_count)), .no, .no]) rfl ?_
    refine ss_cons ?_
    refine wp_sto ?_
    refine w_bin ?_
    refine w_ix ?_
    refine w_var (oQ_in rfl ?_)
    refine w_kst ?_
    refine vT_in rfl ⟨rfl, oQ_in rfl ?_⟩
    obtain ⟨x17, g18, h⟩ := bnd h
    refine wIx_2 rfl (ixVal_fl (e := D.int) (l := v_source) (x := x17) g18 rfl) ?_
    refine w_kst ?_
    refine ⟨rfl, oQ_in rfl (oQ_in rfl ?_)⟩
    refine wb_add ?_
    refine oQ_in rfl ?_
    refine w_var (oQ_in rfl ?_)
    refine w_kst ?_
    refine vPt_in rfl (vT_in rfl ⟨rfl, oQ_in rfl ?_⟩)
    obtain ⟨x19, g20, h⟩ := bnd h
    refine ⟨_, setIx_fl (e := D.int) (l := v_source) (x := (x17 + 1)) g20, oQ_in (kix_set (.io <| .ow <| .no <| .no <| .nil) rfl) ?_⟩
    refine nxe (ρ2 := [.io (T.fl (x19.map D.int)), .ow (T.fz (D.int v_count)), .no, .no]) rfl ?_
    refine ss_cons ?_
    refine wp_set ?_
    refine w_bin ?_
    refine w_blt ?_
    refine ws_cons ?_
    refine w_bin ?_
    refine w_bin ?_
    refine w_ix ?_
    refine w_var (oQ_in rfl ?_)
    refine w_kst ?_
    refine vT_in rfl ⟨rfl, oQ_in rfl ?_⟩
    obtain ⟨x21, g22, h⟩ := bnd h
    refine wIx_2 rfl (ixVal_fl (e := D.int) (l := x19) (x := x21) g22 rfl) ?_
    refine w_bin ?_
    refine w_kst ?_
    refine w_ix ?_
    refine w_var (oQ_in rfl ?_)
    refine w_kst ?_
    refine vT_in rfl ⟨rfl, oQ_in rfl ?_⟩
    obtain ⟨x23, g24, h⟩ := bnd h
    refine wIx_2 rfl (ixVal_fl (e := D.int) (l := x19) (x := x23) g24 rfl) ?_
    refine ⟨rfl, oQ_in rfl (oQ_in rfl ?_)⟩
    obtain ⟨x25, g26, h⟩ := bnd h
    obtain ⟨k27, k28, rfl⟩ := mulG_some g26
    refine wb_mul k27 k28 ?_
    refine ⟨rfl, oQ_in rfl (oQ_in rfl ?_)⟩
    refine wb_add ?_
    refine w_kst ?_
    refine ⟨rfl, oQ_in rfl (oQ_in rfl ?_)⟩
    obtain ⟨x29, g30, h⟩ := bnd h
    obtain ⟨k31, rfl⟩ := powG_some g30
    refine wb_pow (n := 3) (by decide) (by decide) k31 rfl ?_
    refine ws_nil ?_
    refine ⟨rfl, ?_⟩
    refine oQ_in rfl ?_
    refine wl_int ?_
    refine w_bin ?_
    refine w_bin ?_
    refine w_kst ?_
    refine w_kst ?_
    refine ⟨rfl, oQ_in rfl (oQ_in rfl ?_)⟩
    refine wb_pow (n := 36) (by decide) (by decide) (by decide +kernel) rfl ?_
    refine w_kst ?_
    refine ⟨rfl, oQ_in rfl (oQ_in rfl ?_)⟩
    refine wb_add ?_
    refine ⟨rfl, oQ_in rfl (oQ_in rfl ?_)⟩
    refine wb_mod (by decide +kernel) ?_
    refine set_in (ρ2 := [.io (T.fl (x19.map D.int)), .ow (T.fz (D.int v_count)), .no, .ow (T.fz (D.int ((((x21 + (600011 * x23)) : Int) ^ 3) % (((10 : Int) ^ 36) + 67))))]) (.io <| .ow <| .no <| .no <| .nil) rfl Free.no rfl ?_
    refine nxe (ρ2 := [.io (T.fl (x19.map D.int)), .ow (T.fz (D.int v_count)), .no, .ow (T.fz (D.int ((((x21 + (600011 * x23)) : Int) ^ 3) % (((10 : Int) ^ 36) + 67))))]) rfl ?_
    refine ss_cons ?_
    refine wp_set ?_
    refine w_bin ?_
    refine w_blt ?_
    refine ws_cons ?_
    refine w_bin ?_
    refine w_bin ?_
    refine w_bin ?_
    refine w_var (oQ_in rfl ?_)
    refine w_ix ?_
    refine w_var (oQ_in rfl ?_)
    refine w_kst ?_
    refine vT_in rfl ⟨rfl, oQ_in rfl ?_⟩
    obtain ⟨x32, g33, h⟩ := bnd h
    refine wIx_2 rfl (ixVal_fl (e := D.int) (l := x19) (x := x32) g33 rfl) ?_
    refine ⟨rfl, oQ_in rfl (oQ_in rfl ?_)⟩
    obtain ⟨x34, g35, h⟩ := bnd h
    obtain ⟨k36, k37, rfl⟩ := mulG_some g35
    refine wb_mul k36 k37 ?_
    refine w_kst ?_
    refine ⟨rfl, oQ_in rfl (oQ_in rfl ?_)⟩
    refine wb_add ?_
    refine w_kst ?_
    refine ⟨rfl, oQ_in rfl (oQ_in rfl ?_)⟩
    obtain ⟨x38, g39, h⟩ := bnd h
    obtain ⟨k40, rfl⟩ := powG_some g39
    refine wb_pow (n := 3) (by decide) (by decide) k40 rfl ?_
    refine ws_nil ?_
    refine ⟨rfl, ?_⟩
    refine oQ_in rfl ?_
    refine wl_int ?_
    refine w_bin ?_
    refine w_bin ?_
    refine w_kst ?_
    refine w_kst ?_
    refine ⟨rfl, oQ_in rfl (oQ_in rfl ?_)⟩
    refine wb_pow (n := 38) (by decide) (by decide) (by decide +kernel) rfl ?_
    refine w_kst ?_
    refine ⟨rfl, oQ_in rfl (oQ_in rfl ?_)⟩
    refine wb_add ?_
    refine ⟨rfl, oQ_in rfl (oQ_in rfl ?_)⟩
    refine wb_mod (by decide +kernel) ?_
    refine set_in (ρ2 := [.io (T.fl (x19.map D.int)), .ow (T.fz (D.int v_count)), .no, .ow (T.fz (D.int (((((((((x21 + (600011 * x23)) : Int) ^ 3) % (((10 : Int) ^ 36) + 67)) * x32) + 77773) : Int) ^ 3) % (((10 : Int) ^ 38) + 133))))]) (.io <| .ow <| .no <| .ow <| .nil) rfl Free.ow rfl ?_
    refine nxe (ρ2 := [.io (T.fl (x19.map D.int)), .ow (T.fz (D.int v_count)), .no, .ow (T.fz (D.int (((((((((x21 + (600011 * x23)) : Int) ^ 3) % (((10 : Int) ^ 36) + 67)) * x32) + 77773) : Int) ^ 3) % (((10 : Int) ^ 38) + 133))))]) rfl ?_
    refine ss_cons ?_
    refine wp_ret ?_
    refine w_bin ?_
    refine w_blt ?_
    refine ws_cons ?_
    refine w_bin ?_
    refine w_var (oQ_in rfl ?_)
    refine w_kst ?_
    refine ⟨rfl, oQ_in rfl (oQ_in rfl ?_)⟩
    refine wb_div (by decide +kernel) (by decide +kernel) ?_
    refine ws_nil ?_
    refine ⟨rfl, ?_⟩
    refine oQ_in rfl ?_
    refine wl_int ?_
    refine w_var (oQ_in rfl ?_)
    refine ⟨rfl, oQ_in rfl (oQ_in rfl ?_)⟩
    obtain ⟨x41, g42, h⟩ := bnd h
    obtain ⟨k43, rfl⟩ := modG_some g42
    refine wb_mod k43 ?_
    refine oQ_in rfl ?_
    obtain rfl := Option.some.inj h
    refine seqK_rt ?_
    exact ret_in rfl rfl
def p__law_acts (v_source : List Int) (v_firms : Int) (v_many : Int) (v_falls : Bool) : Option ((List ((Str × Int)) × List Int)) :=
  (repG ([false]) v_firms).bind fun x1 =>
  (rngG 0 v_many).bind fun x2 =>
  (forP (fun (s_3 : (List Int × List Bool × List ((Str × Int)))) (y4 : Int) =>
    (p__law_draw s_3.1 v_firms).bind fun r8 =>
    (p__law_draw r8.2 6).bind fun r9 =>
    (
      if v_falls = true then
        (
        if r9.1 = 5 then
          (
          (appG s_3.2.2 ((Str.ofString "fall"), ((), r8.1).2)).bind fun x10 =>
          (stoG s_3.2.1 r8.1 false).bind fun x11 =>
          some (x11, x10)
          )
        else
          (
          (
            (ixG s_3.2.1 r8.1).bind fun x12 =>
            if x12 = true then
              (
              (ixG ([(Str.ofString "end"), (Str.ofString "end"), (Str.ofString "fail")]) (r9.1 % 3)).bind fun x13 =>
              (appG s_3.2.2 (x13, r8.1)).bind fun x14 =>
              (stoG s_3.2.1 r8.1 false).bind fun x15 =>
              some (x15, x14)
              )
            else
              (
              (appG s_3.2.2 ((Str.ofString "take"), ((), r8.1).2)).bind fun x16 =>
              (stoG s_3.2.1 r8.1 true).bind fun x17 =>
              some (x17, x16)
              )
          ).bind fun j18 =>
          some (j18.1, j18.2)
          )
        )
      else
        (
        (
          (ixG s_3.2.1 r8.1).bind fun x19 =>
          if x19 = true then
            (
            (ixG ([(Str.ofString "end"), (Str.ofString "end"), (Str.ofString "fail")]) (r9.1 % 3)).bind fun x20 =>
            (appG s_3.2.2 (x20, r8.1)).bind fun x21 =>
            (stoG s_3.2.1 r8.1 false).bind fun x22 =>
            some (x22, x21)
            )
          else
            (
            (appG s_3.2.2 ((Str.ofString "take"), ((), r8.1).2)).bind fun x23 =>
            (stoG s_3.2.1 r8.1 true).bind fun x24 =>
            some (x24, x23)
            )
        ).bind fun j25 =>
        some (j25.1, j25.2)
        )
    ).bind fun j26 =>
    some (r9.2, j26.1, j26.2)
  ) x2 (v_source, x1, [])).bind fun r27 =>
  some (r27.2.2, r27.1)
theorem m__law_acts {v_source : List Int} {v_firms : Int} {v_many : Int} {v_falls : Bool} {r : (List ((Str × Int)) × List Int)} (h : p__law_acts v_source v_firms v_many v_falls = some r) : F__law_acts.run [(T.fl (v_source.map D.int)), (T.fz (D.int v_firms)), (T.fz (D.int v_many)), (T.fz (D.bool v_falls))] = some ((T.fz (D.list (r.1.map (fun p : (Str × Int) => D.tup [(D.str p.1), (D.int p.2)])))), [(T.fl (r.2.map D.int))]) := by
  unfold p__law_acts at h
  rw [R__law_acts]
  refine run_g (ρ := [.io (T.fl (v_source.map D.int)), .ow (T.fz (D.int v_firms)), .ow (T.fz (D.int v_many)), .ow (T.fz (D.bool v_falls)), .no, .no, .no, .no, .no]) rfl rfl ?_
  refine ss_cons ?_
  refine wp_par ?_
  refine ws_cons ?_
  refine w_bin ?_
  refine w_list ?_
  refine ws_cons ?_
  refine w_kst ?_
  refine ws_nil ?_
  refine ⟨rfl, ?_⟩
  refine oQ_in rfl ?_
  refine w_var (oQ_in rfl ?_)
  refine ⟨rfl, oQ_in rfl (oQ_in rfl ?_)⟩
  obtain ⟨x1, g2, h⟩ := bnd h
  obtain ⟨k3, rfl⟩ := repG_some g2
  refine wb_mulT (mulT_g (e := D.bool) (l := [false]) k3) ?_
  refine ws_cons ?_
  refine w_list ?_
  refine ws_nil ?_
  skip
  refine oQ_in rfl ?_
  refine ws_nil ?_
  refine ⟨rfl, rfl, ?_⟩
  refine ⟨rfl, ?_⟩
  refine bvs_cons (ρ2 := [.io (T.fl (v_source.map D.int)), .ow (T.fz (D.int v_firms)), .ow (T.fz (D.int v_many)), .ow (T.fz (D.bool v_falls)), .ow (T.fl (((List.replicate (v_firms).toNat ([false])).flatten).map D.bool)), .no, .no, .no, .no]) (.io <| .ow <| .ow <| .ow <| .no <| .no <| .no <| .no <| .no <| .nil) rfl Free.no rfl ?_
  refine bvs_cons (ρ2 := [.io (T.fl (v_source.map D.int)), .ow (T.fz (D.int v_firms)), .ow (T.fz (D.int v_many)), .ow (T.fz (D.bool v_falls)), .ow (T.fl (((List.replicate (v_firms).toNat ([false])).flatten).map D.bool)), .ow (T.fl (([]).map (fun p : (Str × Int) => D.tup [(D.str p.1), (D.int p.2)]))), .no, .no, .no]) (.io <| .ow <| .ow <| .ow <| .ow <| .no <| .no <| .no <| .no <| .nil) rfl Free.no rfl ?_
  refine bvs_nil ?_
  refine nxe (ρ2 := [.io (T.fl (v_source.map D.int)), .ow (T.fz (D.int v_firms)), .ow (T.fz (D.int v_many)), .ow (T.fz (D.bool v_falls)), .ow (T.fl (((List.replicate (v_firms).toNat ([false])).flatten).map D.bool)), .ow (T.fl (([]).map (fun p : (Str × Int) => D.tup [(D.str p.1), (D.int p.2)]))), .no, .no, .no]) rfl ?_
  refine ss_cons ?_
  refine wp_for ?_
  refine wi_rng1 ?_
  refine w_var (oQ_in rfl ?_)
  refine vInt_in rfl ?_
  obtain ⟨x4, g5, h⟩ := bnd h
  obtain ⟨k6, k7, rfl⟩ := rngG_some g5
  refine ⟨k7, ?_⟩
  obtain ⟨r10, g11, h⟩ := bnd h
  refine loop_cast (rangeD_map 0 v_many) ?_
  refine for_sim (e := D.int) (fun (s_8 : (List Int × List Bool × List ((Str × Int)))) ρ => ∃ (s12 : Slot) (s13 : Slot) (s14 : Slot), ρ = [.io (T.fl (s_8.1.map D.int)), .ow (T.fz (D.int v_firms)), .ow (T.fz (D.int v_many)), .ow (T.fz (D.bool v_falls)), .ow (T.fl (s_8.2.1.map D.bool)), .ow (T.fl (s_8.2.2.map (fun p : (Str × Int) => D.tup [(D.str p.1), (D.int p.2)]))), s12, s13, s14] ∧ Free s12 ∧ Free s13 ∧ Free s14) g11 ⟨_, _, _, rfl, Free.no, Free.no, Free.no⟩ ?_ ?_
  · rintro y9 s_8 z16 _ _ h15 ⟨s12, s13, s14, rfl, q12, q13, q14⟩
    refine bd_nm (ρ2 := [.io (T.fl (s_8.1.map D.int)), .ow (T.fz (D.int v_firms)), .ow (T.fz (D.int v_many)), .ow (T.fz (D.bool v_falls)), .ow (T.fl (s_8.2.1.map D.bool)), .ow (T.fl (s_8.2.2.map (fun p : (Str × Int) => D.tup [(D.str p.1), (D.int p.2)]))), .ow (T.fz (D.int y9)), s13, s14]) (.io <| .ow <| .ow <| .ow <| .ow <| .ow <| .fr q12 <| .fr q13 <| .fr q14 <| .nil) rfl q12 rfl ?_
    refine ss_cons ?_
    refine wp_set ?_
    refine w_fzvK ?_
    refine w_call ?_
    refine ws_cons ?_
    refine w_var (oQ_in rfl ?_)
    refine ws_cons ?_
    refine w_fzvK ?_
    refine w_var (oQ_in rfl ?_)
    refine fzk_fz (d := (D.int v_firms)) ?_
    refine ws_nil ?_
    refine ⟨rfl, rfl, ?_⟩
    refine oQ_in rfl ?_
    obtain ⟨r17, g18, h15⟩ := bnd h15
    refine call_g (ρ2 := [.io (T.fl (r17.2.map D.int)), .ow (T.fz (D.int v_firms)), .ow (T.fz (D.int v_many)), .ow (T.fz (D.bool v_falls)), .ow (T.fl (s_8.2.1.map D.bool)), .ow (T.fl (s_8.2.2.map (fun p : (Str × Int) => D.tup [(D.str p.1), (D.int p.2)]))), .ow (T.fz (D.int y9)), s13, s14]) (.io <| .ow <| .ow <| .ow <| .ow <| .ow <| .ow <| .fr q13 <| .fr q14 <| .nil) rfl (argT_io rfl (argT_fz argT_nil)) (m__law_draw g18) rfl rfl rfl ?_
    refine fzk_fz (d := (D.int r17.1)) ?_
    refine set_in (ρ2 := [.io (T.fl (r17.2.map D.int)), .ow (T.fz (D.int v_firms)), .ow (T.fz (D.int v_many)), .ow (T.fz (D.bool v_falls)), .ow (T.fl (s_8.2.1.map D.bool)), .ow (T.fl (s_8.2.2.map (fun p : (Str × Int) => D.tup [(D.str p.1), (D.int p.2)]))), .ow (T.fz (D.int y9)), .ow (T.fz (D.int r17.1)), s14]) (.io <| .ow <| .ow <| .ow <| .ow <| .ow <| .ow <| .fr q13 <| .fr q14 <| .nil) rfl q13 rfl ?_
    refine nxe (ρ2 := [.io (T.fl (r17.2.map D.int)), .ow (T.fz (D.int v_firms)), .ow (T.fz (D.int v_many)), .ow (T.fz (D.bool v_falls)), .ow (T.fl (s_8.2.1.map D.bool)), .ow (T.fl (s_8.2.2.map (fun p : (Str × Int) => D.tup [(D.str p.1), (D.int p.2)]))), .ow (T.fz (D.int y9)), .ow (T.fz (D.int r17.1)), s14]) rfl ?_
    refine ss_cons ?_
    refine wp_set ?_
    refine w_fzvK ?_
    refine w_call ?_
    refine ws_cons ?_
    refine w_var (oQ_in rfl ?_)
    refine ws_cons ?_
    refine w_kst ?_
    refine ws_nil ?_
    refine ⟨rfl, rfl, ?_⟩
    refine oQ_in rfl ?_
    obtain ⟨r19, g20, h15⟩ := bnd h15
    refine call_g (ρ2 := [.io (T.fl (r19.2.map D.int)), .ow (T.fz (D.int v_firms)), .ow (T.fz (D.int v_many)), .ow (T.fz (D.bool v_falls)), .ow (T.fl (s_8.2.1.map D.bool)), .ow (T.fl (s_8.2.2.map (fun p : (Str × Int) => D.tup [(D.str p.1), (D.int p.2)]))), .ow (T.fz (D.int y9)), .ow (T.fz (D.int r17.1)), s14]) (.io <| .ow <| .ow <| .ow <| .ow <| .ow <| .ow <| .ow <| .fr q14 <| .nil) rfl (argT_io rfl (argT_fz argT_nil)) (m__law_draw g20) rfl rfl rfl ?_
    refine fzk_fz (d := (D.int r19.1)) ?_
    refine set_in (ρ2 := [.io (T.fl (r19.2.map D.int)), .ow (T.fz (D.int v_firms)), .ow (T.fz (D.int v_many)), .ow (T.fz (D.bool v_falls)), .ow (T.fl (s_8.2.1.map D.bool)), .ow (T.fl (s_8.2.2.map (fun p : (Str × Int) => D.tup [(D.str p.1), (D.int p.2)]))), .ow (T.fz (D.int y9)), .ow (T.fz (D.int r17.1)), .ow (T.fz (D.int r19.1))]) (.io <| .ow <| .ow <| .ow <| .ow <| .ow <| .ow <| .ow <| .fr q14 <| .nil) rfl q14 rfl ?_
    refine nxe (ρ2 := [.io (T.fl (r19.2.map D.int)), .ow (T.fz (D.int v_firms)), .ow (T.fz (D.int v_many)), .ow (T.fz (D.bool v_falls)), .ow (T.fl (s_8.2.1.map D.bool)), .ow (T.fl (s_8.2.2.map (fun p : (Str × Int) => D.tup [(D.str p.1), (D.int p.2)]))), .ow (T.fz (D.int y9)), .ow (T.fz (D.int r17.1)), .ow (T.fz (D.int r19.1))]) rfl ?_
    refine ss_cons ?_
    refine wp_ite ?_
    obtain ⟨j21, e22, h15⟩ := bnd h15
    refine wt_bool ?_
    refine wb_cons ?_
    refine wt_val ?_
    refine w_var (oQ_in rfl ?_)
    refine oQ_in rfl ?_
    by_cases c23 : v_falls = true
    · replace e22 := ift c23 e22
      refine tru_t rfl c23 ?_
      refine ⟨fun _ => ?_, fun z => absurd z (by decide)⟩
      refine wb_one ?_
      refine wt_cmp ?_
      refine w_var (oQ_in rfl ?_)
      refine w_kst ?_
      refine ⟨rfl, oQ_in rfl (oQ_in rfl ?_)⟩
      by_cases c24 : r19.1 = 5
      · replace e22 := ift c24 e22
        refine wc_eq_t c24 ?_
        refine ⟨fun _ => ?_, fun z => absurd z (by decide)⟩
        refine ss_cons ?_
        refine wp_app ?_
        refine w_var (oQ_in rfl ?_)
        refine vPt_in rfl ⟨⟨_, rfl⟩, ?_⟩
        refine w_fzvK ?_
        refine w_tup ?_
        refine ws_cons ?_
        refine w_kst ?_
        refine ws_cons ?_
        refine w_fzvK ?_
        refine w_var (oQ_in rfl ?_)
        refine fzk_fz (d := (D.int r17.1)) ?_
        refine ws_nil ?_
        refine ⟨rfl, rfl, ?_⟩
        refine oQ_in rfl ?_
        refine fzk_fz (d := (D.tup [(D.str (Str.ofString "fall")), (D.int (((), r17.1).2))])) ?_
        obtain ⟨x25, g26, e22⟩ := bnd e22
        obtain ⟨k27, rfl⟩ := appG_some g26
        refine oQ_in rfl ⟨rfl, oQ_in rfl ⟨_, appT_fl (e := (fun p : (Str × Int) => D.tup [(D.str p.1), (D.int p.2)])) (l := s_8.2.2) (x := ((Str.ofString "fall"), ((), r17.1).2)) k27, oQ_in rfl ?_⟩⟩
        refine nxe (ρ2 := [.io (T.fl (r19.2.map D.int)), .ow (T.fz (D.int v_firms)), .ow (T.fz (D.int v_many)), .ow (T.fz (D.bool v_falls)), .ow (T.fl (s_8.2.1.map D.bool)), .ow (T.fl ((s_8.2.2 ++ [((Str.ofString "fall"), ((), r17.1).2)]).map (fun p : (Str × Int) => D.tup [(D.str p.1), (D.int p.2)]))), .ow (T.fz (D.int y9)), .ow (T.fz (D.int r17.1)), .ow (T.fz (D.int r19.1))]) rfl ?_
        refine ss_cons ?_
        refine wp_sto ?_
        refine w_kst ?_
        refine oQ_in rfl ?_
        refine w_var (oQ_in rfl ?_)
        refine w_var (oQ_in rfl ?_)
        refine vPt_in rfl (vT_in rfl ⟨rfl, oQ_in rfl ?_⟩)
        obtain ⟨x28, g29, e22⟩ := bnd e22
        refine ⟨_, setIx_fl (e := D.bool) (l := s_8.2.1) (x := false) g29, oQ_in (kix_set (.io <| .ow <| .ow <| .ow <| .ow <| .ow <| .ow <| .ow <| .ow <| .nil) rfl) ?_⟩
        refine nxe (ρ2 := [.io (T.fl (r19.2.map D.int)), .ow (T.fz (D.int v_firms)), .ow (T.fz (D.int v_many)), .ow (T.fz (D.bool v_falls)), .ow (T.fl (x28.map D.bool)), .ow (T.fl ((s_8.2.2 ++ [((Str.ofString "fall"), ((), r17.1).2)]).map (fun p : (Str × Int) => D.tup [(D.str p.1), (D.int p.2)]))), .ow (T.fz (D.int y9)), .ow (T.fz (D.int r17.1)), .ow (T.fz (D.int r19.1))]) rfl ?_
        refine ss_nil ?_
        obtain rfl := Option.some.inj e22
        refine nxe (ρ2 := [.io (T.fl (r19.2.map D.int)), .ow (T.fz (D.int v_firms)), .ow (T.fz (D.int v_many)), .ow (T.fz (D.bool v_falls)), .ow (T.fl (x28.map D.bool)), .ow (T.fl ((s_8.2.2 ++ [((Str.ofString "fall"), ((), r17.1).2)]).map (fun p : (Str × Int) => D.tup [(D.str p.1), (D.int p.2)]))), .ow (T.fz (D.int y9)), .ow (T.fz (D.int r17.1)), .ow (T.fz (D.int r19.1))]) rfl ?_
        refine ss_nil ?_
        obtain rfl := Option.some.inj h15
        exact lpN_nx ⟨_, _, _, rfl, Free.ow, Free.ow, Free.ow⟩
      · replace e22 := iff_ c24 e22
        refine wc_eq_f c24 ?_
        refine ⟨fun z => absurd z (by decide), fun _ => ?_⟩
        refine ss_cons ?_
        refine wp_ite ?_
        obtain ⟨j30, e31, e22⟩ := bnd e22
        refine wt_not ?_
        refine wt_val ?_
        refine w_ix ?_
        refine w_var (oQ_in rfl ?_)
        refine w_var (oQ_in rfl ?_)
        refine vT_in rfl ⟨rfl, oQ_in rfl ?_⟩
        obtain ⟨x32, g33, e31⟩ := bnd e31
        refine wIx_2 rfl (ixVal_fl (e := D.bool) (l := s_8.2.1) (x := x32) g33 rfl) ?_
        refine oQ_in rfl ?_
        by_cases c34 : x32 = true
        · replace e31 := ift c34 e31
          refine tru_t rfl c34 ?_
          refine ⟨fun z => absurd z (by decide), fun _ => ?_⟩
          refine ss_cons ?_
          refine wp_app ?_
          refine w_var (oQ_in rfl ?_)
          refine vPt_in rfl ⟨⟨_, rfl⟩, ?_⟩
          refine w_fzvK ?_
          refine w_tup ?_
          refine ws_cons ?_
          refine w_fzvK ?_
          refine w_ix ?_
          refine w_list ?_
          refine ws_cons ?_
          refine w_kst ?_
          refine ws_cons ?_
          refine w_kst ?_
          refine ws_cons ?_
          refine w_kst ?_
          refine ws_nil ?_
          refine ⟨rfl, rfl, rfl, ?_⟩
          refine oQ_in rfl ?_
          refine w_bin ?_
          refine w_blt ?_
          refine ws_cons ?_
          refine w_var (oQ_in rfl ?_)
          refine ws_nil ?_
          refine ⟨rfl, ?_⟩
          refine oQ_in rfl ?_
          refine wl_int ?_
          refine w_kst ?_
          refine ⟨rfl, oQ_in rfl (oQ_in rfl ?_)⟩
          refine wb_mod (by decide +kernel) ?_
          refine vT_in rfl ⟨rfl, oQ_in rfl ?_⟩
          obtain ⟨x35, g36, e31⟩ := bnd e31
          refine wIx_2 rfl (ixVal_flT (e := D.str) (l := [(Str.ofString "end"), (Str.ofString "end"), (Str.ofString "fail")]) (x := x35) g36) ?_
          refine fzk_fz (d := (D.str x35)) ?_
          refine ws_cons ?_
          refine w_fzvK ?_
          refine w_var (oQ_in rfl ?_)
          refine fzk_fz (d := (D.int r17.1)) ?_
          refine ws_nil ?_
          refine ⟨rfl, rfl, ?_⟩
          refine oQ_in rfl ?_
          refine fzk_fz (d := (D.tup [(D.str ((x35, r17.1).1)), (D.int ((x35, r17.1).2))])) ?_
          obtain ⟨x37, g38, e31⟩ := bnd e31
          obtain ⟨k39, rfl⟩ := appG_some g38
          refine oQ_in rfl ⟨rfl, oQ_in rfl ⟨_, appT_fl (e := (fun p : (Str × Int) => D.tup [(D.str p.1), (D.int p.2)])) (l := s_8.2.2) (x := (x35, r17.1)) k39, oQ_in rfl ?_⟩⟩
          refine nxe (ρ2 := [.io (T.fl (r19.2.map D.int)), .ow (T.fz (D.int v_firms)), .ow (T.fz (D.int v_many)), .ow (T.fz (D.bool v_falls)), .ow (T.fl (s_8.2.1.map D.bool)), .ow (T.fl ((s_8.2.2 ++ [(x35, r17.1)]).map (fun p : (Str × Int) => D.tup [(D.str p.1), (D.int p.2)]))), .ow (T.fz (D.int y9)), .ow (T.fz (D.int r17.1)), .ow (T.fz (D.int r19.1))]) rfl ?_
          refine ss_cons ?_
          refine wp_sto ?_
          refine w_kst ?_
          refine oQ_in rfl ?_
          refine w_var (oQ_in rfl ?_)
          refine w_var (oQ_in rfl ?_)
          refine vPt_in rfl (vT_in rfl ⟨rfl, oQ_in rfl ?_⟩)
          obtain ⟨x40, g41, e31⟩ := bnd e31
          refine ⟨_, setIx_fl (e := D.bool) (l := s_8.2.1) (x := false) g41, oQ_in (kix_set (.io <| .ow <| .ow <| .ow <| .ow <| .ow <| .ow <| .ow <| .ow <| .nil) rfl) ?_⟩
          refine nxe (ρ2 := [.io (T.fl (r19.2.map D.int)), .ow (T.fz (D.int v_firms)), .ow (T.fz (D.int v_many)), .ow (T.fz (D.bool v_falls)), .ow (T.fl (x40.map D.bool)), .ow (T.fl ((s_8.2.2 ++ [(x35, r17.1)]).map (fun p : (Str × Int) => D.tup [(D.str p.1), (D.int p.2)]))), .ow (T.fz (D.int y9)), .ow (T.fz (D.int r17.1)), .ow (T.fz (D.int r19.1))]) rfl ?_
          refine ss_nil ?_
          obtain rfl := Option.some.inj e31
          refine nxe (ρ2 := [.io (T.fl (r19.2.map D.int)), .ow (T.fz (D.int v_firms)), .ow (T.fz (D.int v_many)), .ow (T.fz (D.bool v_falls)), .ow (T.fl (x40.map D.bool)), .ow (T.fl ((s_8.2.2 ++ [(x35, r17.1)]).map (fun p : (Str × Int) => D.tup [(D.str p.1), (D.int p.2)]))), .ow (T.fz (D.int y9)), .ow (T.fz (D.int r17.1)), .ow (T.fz (D.int r19.1))]) rfl ?_
          refine ss_nil ?_
          obtain rfl := Option.some.inj e22
          refine nxe (ρ2 := [.io (T.fl (r19.2.map D.int)), .ow (T.fz (D.int v_firms)), .ow (T.fz (D.int v_many)), .ow (T.fz (D.bool v_falls)), .ow (T.fl (x40.map D.bool)), .ow (T.fl ((s_8.2.2 ++ [(x35, r17.1)]).map (fun p : (Str × Int) => D.tup [(D.str p.1), (D.int p.2)]))), .ow (T.fz (D.int y9)), .ow (T.fz (D.int r17.1)), .ow (T.fz (D.int r19.1))]) rfl ?_
          refine ss_nil ?_
          obtain rfl := Option.some.inj h15
          exact lpN_nx ⟨_, _, _, rfl, Free.ow, Free.ow, Free.ow⟩
        · replace e31 := iff_ c34 e31
          refine tru_f rfl c34 ?_
          refine ⟨fun _ => ?_, fun z => absurd z (by decide)⟩
          refine ss_cons ?_
          refine wp_app ?_
          refine w_var (oQ_in rfl ?_)
          refine vPt_in rfl ⟨⟨_, rfl⟩, ?_⟩
          refine w_fzvK ?_
          refine w_tup ?_
          refine ws_cons ?_
          refine w_kst ?_
          refine ws_cons ?_
          refine w_fzvK ?_
          refine w_var (oQ_in rfl ?_)
          refine fzk_fz (d := (D.int r17.1)) ?_
          refine ws_nil ?_
          refine ⟨rfl, rfl, ?_⟩
          refine oQ_in rfl ?_
          refine fzk_fz (d := (D.tup [(D.str (Str.ofString "take")), (D.int (((), r17.1).2))])) ?_
          obtain ⟨x42, g43, e31⟩ := bnd e31
          obtain ⟨k44, rfl⟩ := appG_some g43
          refine oQ_in rfl ⟨rfl, oQ_in rfl ⟨_, appT_fl (e := (fun p : (Str × Int) => D.tup [(D.str p.1), (D.int p.2)])) (l := s_8.2.2) (x := ((Str.ofString "take"), ((), r17.1).2)) k44, oQ_in rfl ?_⟩⟩
          refine nxe (ρ2 := [.io (T.fl (r19.2.map D.int)), .ow (T.fz (D.int v_firms)), .ow (T.fz (D.int v_many)), .ow (T.fz (D.bool v_falls)), .ow (T.fl (s_8.2.1.map D.bool)), .ow (T.fl ((s_8.2.2 ++ [((Str.ofString "take"), ((), r17.1).2)]).map (fun p : (Str × Int) => D.tup [(D.str p.1), (D.int p.2)]))), .ow (T.fz (D.int y9)), .ow (T.fz (D.int r17.1)), .ow (T.fz (D.int r19.1))]) rfl ?_
          refine ss_cons ?_
          refine wp_sto ?_
          refine w_kst ?_
          refine oQ_in rfl ?_
          refine w_var (oQ_in rfl ?_)
          refine w_var (oQ_in rfl ?_)
          refine vPt_in rfl (vT_in rfl ⟨rfl, oQ_in rfl ?_⟩)
          obtain ⟨x45, g46, e31⟩ := bnd e31
          refine ⟨_, setIx_fl (e := D.bool) (l := s_8.2.1) (x := true) g46, oQ_in (kix_set (.io <| .ow <| .ow <| .ow <| .ow <| .ow <| .ow <| .ow <| .ow <| .nil) rfl) ?_⟩
          refine nxe (ρ2 := [.io (T.fl (r19.2.map D.int)), .ow (T.fz (D.int v_firms)), .ow (T.fz (D.int v_many)), .ow (T.fz (D.bool v_falls)), .ow (T.fl (x45.map D.bool)), .ow (T.fl ((s_8.2.2 ++ [((Str.ofString "take"), ((), r17.1).2)]).map (fun p : (Str × Int) => D.tup [(D.str p.1), (D.int p.2)]))), .ow (T.fz (D.int y9)), .ow (T.fz (D.int r17.1)), .ow (T.fz (D.int r19.1))]) rfl ?_
          refine ss_nil ?_
          obtain rfl := Option.some.inj e31
          refine nxe (ρ2 := [.io (T.fl (r19.2.map D.int)), .ow (T.fz (D.int v_firms)), .ow (T.fz (D.int v_many)), .ow (T.fz (D.bool v_falls)), .ow (T.fl (x45.map D.bool)), .ow (T.fl ((s_8.2.2 ++ [((Str.ofString "take"), ((), r17.1).2)]).map (fun p : (Str × Int) => D.tup [(D.str p.1), (D.int p.2)]))), .ow (T.fz (D.int y9)), .ow (T.fz (D.int r17.1)), .ow (T.fz (D.int r19.1))]) rfl ?_
          refine ss_nil ?_
          obtain rfl := Option.some.inj e22
          refine nxe (ρ2 := [.io (T.fl (r19.2.map D.int)), .ow (T.fz (D.int v_firms)), .ow (T.fz (D.int v_many)), .ow (T.fz (D.bool v_falls)), .ow (T.fl (x45.map D.bool)), .ow (T.fl ((s_8.2.2 ++ [((Str.ofString "take"), ((), r17.1).2)]).map (fun p : (Str × Int) => D.tup [(D.str p.1), (D.int p.2)]))), .ow (T.fz (D.int y9)), .ow (T.fz (D.int r17.1)), .ow (T.fz (D.int r19.1))]) rfl ?_
          refine ss_nil ?_
          obtain rfl := Option.some.inj h15
          exact lpN_nx ⟨_, _, _, rfl, Free.ow, Free.ow, Free.ow⟩
    · replace e22 := iff_ c23 e22
      refine tru_f rfl c23 ?_
      refine ⟨fun z => absurd z (by decide), fun _ => ?_⟩
      refine ⟨fun z => absurd z (by decide), fun _ => ?_⟩
      refine ss_cons ?_
      refine wp_ite ?_
      obtain ⟨j47, e48, e22⟩ := bnd e22
      refine wt_not ?_
      refine wt_val ?_
      refine w_ix ?_
      refine w_var (oQ_in rfl ?_)
      refine w_var (oQ_in rfl ?_)
      refine vT_in rfl ⟨rfl, oQ_in rfl ?_⟩
      obtain ⟨x49, g50, e48⟩ := bnd e48
      refine wIx_2 rfl (ixVal_fl (e := D.bool) (l := s_8.2.1) (x := x49) g50 rfl) ?_
      refine oQ_in rfl ?_
      by_cases c51 : x49 = true
      · replace e48 := ift c51 e48
        refine tru_t rfl c51 ?_
        refine ⟨fun z => absurd z (by decide), fun _ => ?_⟩
        refine ss_cons ?_
        refine wp_app ?_
        refine w_var (oQ_in rfl ?_)
        refine vPt_in rfl ⟨⟨_, rfl⟩, ?_⟩
        refine w_fzvK ?_
        refine w_tup ?_
        refine ws_cons ?_
        refine w_fzvK ?_
        refine w_ix ?_
        refine w_list ?_
        refine ws_cons ?_
        refine w_kst ?_
        refine ws_cons ?_
        refine w_kst ?_
        refine ws_cons ?_
        refine w_kst ?_
        refine ws_nil ?_
        refine ⟨rfl, rfl, rfl, ?_⟩
        refine oQ_in rfl ?_
        refine w_bin ?_
        refine w_blt ?_
        refine ws_cons ?_
        refine w_var (oQ_in rfl ?_)
        refine ws_nil ?_
        refine ⟨rfl, ?_⟩
        refine oQ_in rfl ?_
        refine wl_int ?_
        refine w_kst ?_
        refine ⟨rfl, oQ_in rfl (oQ_in rfl ?_)⟩
        refine wb_mod (by decide +kernel) ?_
        refine vT_in rfl ⟨rfl, oQ_in rfl ?_⟩
        obtain ⟨x52, g53, e48⟩ := bnd e48
        refine wIx_2 rfl (ixVal_flT (e := D.str) (l := [(Str.ofString "end"), (Str.ofString "end"), (Str.ofString "fail")]) (x := x52) g53) ?_
        refine fzk_fz (d := (D.str x52)) ?_
        refine ws_cons ?_
        refine w_fzvK ?_
        refine w_var (oQ_in rfl ?_)
        refine fzk_fz (d := (D.int r17.1)) ?_
        refine ws_nil ?_
        refine ⟨rfl, rfl, ?_⟩
        refine oQ_in rfl ?_
        refine fzk_fz (d := (D.tup [(D.str ((x52, r17.1).1)), (D.int ((x52, r17.1).2))])) ?_
        obtain ⟨x54, g55, e48⟩ := bnd e48
        obtain ⟨k56, rfl⟩ := appG_some g55
        refine oQ_in rfl ⟨rfl, oQ_in rfl ⟨_, appT_fl (e := (fun p : (Str × Int) => D.tup [(D.str p.1), (D.int p.2)])) (l := s_8.2.2) (x := (x52, r17.1)) k56, oQ_in rfl ?_⟩⟩
        refine nxe (ρ2 := [.io (T.fl (r19.2.map D.int)), .ow (T.fz (D.int v_firms)), .ow (T.fz (D.int v_many)), .ow (T.fz (D.bool v_falls)), .ow (T.fl (s_8.2.1.map D.bool)), .ow (T.fl ((s_8.2.2 ++ [(x52, r17.1)]).map (fun p : (Str × Int) => D.tup [(D.str p.1), (D.int p.2)]))), .ow (T.fz (D.int y9)), .ow (T.fz (D.int r17.1)), .ow (T.fz (D.int r19.1))]) rfl ?_
        refine ss_cons ?_
        refine wp_sto ?_
        refine w_kst ?_
        refine oQ_in rfl ?_
        refine w_var (oQ_in rfl ?_)
        refine w_var (oQ_in rfl ?_)
        refine vPt_in rfl (vT_in rfl ⟨rfl, oQ_in rfl ?_⟩)
        obtain ⟨x57, g58, e48⟩ := bnd e48
        refine ⟨_, setIx_fl (e := D.bool) (l := s_8.2.1) (x := false) g58, oQ_in (kix_set (.io <| .ow <| .ow <| .ow <| .ow <| .ow <| .ow <| .ow <| .ow <| .nil) rfl) ?_⟩
        refine nxe (ρ2 := [.io (T.fl (r19.2.map D.int)), .ow (T.fz (D.int v_firms)), .ow (T.fz (D.int v_many)), .ow (T.fz (D.bool v_falls)), .ow (T.fl (x57.map D.bool)), .ow (T.fl ((s_8.2.2 ++ [(x52, r17.1)]).map (fun p : (Str × Int) => D.tup [(D.str p.1), (D.int p.2)]))), .ow (T.fz (D.int y9)), .ow (T.fz (D.int r17.1)), .ow (T.fz (D.int r19.1))]) rfl ?_
        refine ss_nil ?_
        obtain rfl := Option.some.inj e48
        refine nxe (ρ2 := [.io (T.fl (r19.2.map D.int)), .ow (T.fz (D.int v_firms)), .ow (T.fz (D.int v_many)), .ow (T.fz (D.bool v_falls)), .ow (T.fl (x57.map D.bool)), .ow (T.fl ((s_8.2.2 ++ [(x52, r17.1)]).map (fun p : (Str × Int) => D.tup [(D.str p.1), (D.int p.2)]))), .ow (T.fz (D.int y9)), .ow (T.fz (D.int r17.1)), .ow (T.fz (D.int r19.1))]) rfl ?_
        refine ss_nil ?_
        obtain rfl := Option.some.inj e22
        refine nxe (ρ2 := [.io (T.fl (r19.2.map D.int)), .ow (T.fz (D.int v_firms)), .ow (T.fz (D.int v_many)), .ow (T.fz (D.bool v_falls)), .ow (T.fl (x57.map D.bool)), .ow (T.fl ((s_8.2.2 ++ [(x52, r17.1)]).map (fun p : (Str × Int) => D.tup [(D.str p.1), (D.int p.2)]))), .ow (T.fz (D.int y9)), .ow (T.fz (D.int r17.1)), .ow (T.fz (D.int r19.1))]) rfl ?_
        refine ss_nil ?_
        obtain rfl := Option.some.inj h15
        exact lpN_nx ⟨_, _, _, rfl, Free.ow, Free.ow, Free.ow⟩
      · replace e48 := iff_ c51 e48
        refine tru_f rfl c51 ?_
        refine ⟨fun _ => ?_, fun z => absurd z (by decide)⟩
        refine ss_cons ?_
        refine wp_app ?_
        refine w_var (oQ_in rfl ?_)
        refine vPt_in rfl ⟨⟨_, rfl⟩, ?_⟩
        refine w_fzvK ?_
        refine w_tup ?_
        refine ws_cons ?_
        refine w_kst ?_
        refine ws_cons ?_
        refine w_fzvK ?_
        refine w_var (oQ_in rfl ?_)
        refine fzk_fz (d := (D.int r17.1)) ?_
        refine ws_nil ?_
        refine ⟨rfl, rfl, ?_⟩
        refine oQ_in rfl ?_
        refine fzk_fz (d := (D.tup [(D.str (Str.ofString "take")), (D.int (((), r17.1).2))])) ?_
        obtain ⟨x59, g60, e48⟩ := bnd e48
        obtain ⟨k61, rfl⟩ := appG_some g60
        refine oQ_in rfl ⟨rfl, oQ_in rfl ⟨_, appT_fl (e := (fun p : (Str × Int) => D.tup [(D.str p.1), (D.int p.2)])) (l := s_8.2.2) (x := ((Str.ofString "take"), ((), r17.1).2)) k61, oQ_in rfl ?_⟩⟩
        refine nxe (ρ2 := [.io (T.fl (r19.2.map D.int)), .ow (T.fz (D.int v_firms)), .ow (T.fz (D.int v_many)), .ow (T.fz (D.bool v_falls)), .ow (T.fl (s_8.2.1.map D.bool)), .ow (T.fl ((s_8.2.2 ++ [((Str.ofString "take"), ((), r17.1).2)]).map (fun p : (Str × Int) => D.tup [(D.str p.1), (D.int p.2)]))), .ow (T.fz (D.int y9)), .ow (T.fz (D.int r17.1)), .ow (T.fz (D.int r19.1))]) rfl ?_
        refine ss_cons ?_
        refine wp_sto ?_
        refine w_kst ?_
        refine oQ_in rfl ?_
        refine w_var (oQ_in rfl ?_)
        refine w_var (oQ_in rfl ?_)
        refine vPt_in rfl (vT_in rfl ⟨rfl, oQ_in rfl ?_⟩)
        obtain ⟨x62, g63, e48⟩ := bnd e48
        refine ⟨_, setIx_fl (e := D.bool) (l := s_8.2.1) (x := true) g63, oQ_in (kix_set (.io <| .ow <| .ow <| .ow <| .ow <| .ow <| .ow <| .ow <| .ow <| .nil) rfl) ?_⟩
        refine nxe (ρ2 := [.io (T.fl (r19.2.map D.int)), .ow (T.fz (D.int v_firms)), .ow (T.fz (D.int v_many)), .ow (T.fz (D.bool v_falls)), .ow (T.fl (x62.map D.bool)), .ow (T.fl ((s_8.2.2 ++ [((Str.ofString "take"), ((), r17.1).2)]).map (fun p : (Str × Int) => D.tup [(D.str p.1), (D.int p.2)]))), .ow (T.fz (D.int y9)), .ow (T.fz (D.int r17.1)), .ow (T.fz (D.int r19.1))]) rfl ?_
        refine ss_nil ?_
        obtain rfl := Option.some.inj e48
        refine nxe (ρ2 := [.io (T.fl (r19.2.map D.int)), .ow (T.fz (D.int v_firms)), .ow (T.fz (D.int v_many)), .ow (T.fz (D.bool v_falls)), .ow (T.fl (x62.map D.bool)), .ow (T.fl ((s_8.2.2 ++ [((Str.ofString "take"), ((), r17.1).2)]).map (fun p : (Str × Int) => D.tup [(D.str p.1), (D.int p.2)]))), .ow (T.fz (D.int y9)), .ow (T.fz (D.int r17.1)), .ow (T.fz (D.int r19.1))]) rfl ?_
        refine ss_nil ?_
        obtain rfl := Option.some.inj e22
        refine nxe (ρ2 := [.io (T.fl (r19.2.map D.int)), .ow (T.fz (D.int v_firms)), .ow (T.fz (D.int v_many)), .ow (T.fz (D.bool v_falls)), .ow (T.fl (x62.map D.bool)), .ow (T.fl ((s_8.2.2 ++ [((Str.ofString "take"), ((), r17.1).2)]).map (fun p : (Str × Int) => D.tup [(D.str p.1), (D.int p.2)]))), .ow (T.fz (D.int y9)), .ow (T.fz (D.int r17.1)), .ow (T.fz (D.int r19.1))]) rfl ?_
        refine ss_nil ?_
        obtain rfl := Option.some.inj h15
        exact lpN_nx ⟨_, _, _, rfl, Free.ow, Free.ow, Free.ow⟩
  · rintro _ ⟨s64, s65, s66, rfl, q64, q65, q66⟩
    refine nxe (ρ2 := [.io (T.fl (r10.1.map D.int)), .ow (T.fz (D.int v_firms)), .ow (T.fz (D.int v_many)), .ow (T.fz (D.bool v_falls)), .ow (T.fl (r10.2.1.map D.bool)), .ow (T.fl (r10.2.2.map (fun p : (Str × Int) => D.tup [(D.str p.1), (D.int p.2)]))), s64, s65, s66]) rfl ?_
    refine ss_cons ?_
    refine wp_ret ?_
    refine w_fzvK ?_
    refine w_var (oQ_in rfl ?_)
    refine fzk_pt (e := (fun p : (Str × Int) => D.tup [(D.str p.1), (D.int p.2)])) (l := r10.2.2) (ρ2 := [.io (T.fl (r10.1.map D.int)), .ow (T.fz (D.int v_firms)), .ow (T.fz (D.int v_many)), .ow (T.fz (D.bool v_falls)), .ow (T.fl (r10.2.1.map D.bool)), .ow (T.fz (D.list (r10.2.2.map (fun p : (Str × Int) => D.tup [(D.str p.1), (D.int p.2)])))), s64, s65, s66]) rfl rfl ?_
    refine oQ_in rfl ?_
    obtain rfl := Option.some.inj h
    refine seqK_rt ?_
    exact ret_in rfl rfl
def p__law_deeds (v_acts : List ((Str × Int))) : Option (List ((Int × Int × Option Int × Str))) :=
  (forP (fun (s_1 : List ((Int × Int × Option Int × Str))) (y2 : (Int × (Str × Int))) =>
    (
      (deqG (D.str y2.2.1) (D.str (Str.ofString "take"))).bind fun x6 =>
      if x6 = true then
        (
        (rngG (y2.1 + 1) (v_acts.length : Int)).bind fun x7 =>
        (lcG (fun y8 : Int =>
          (ixG v_acts y8).bind fun x9 =>
          if x9.2 = y2.2.2 then
            (
            some (some y8)
            )
          else
            (
            some none
            )
        ) x7).bind fun r10 =>
        (sliG r10 none (some 1)).bind fun x11 =>
        (
          (deqG (D.list (x11.map D.int)) (D.list (([]).map D.int))).bind fun x12 =>
          if x12 = true then
            (
            (appG s_1 ((y2.2.2, y2.1, (), ()).1, (y2.2.2, y2.1, (), ()).2.1, none, (Str.ofString "open"))).bind fun x13 =>
            some x13
            )
          else
            (
            (ixG x11 0).bind fun x14 =>
            (ixG x11 0).bind fun x15 =>
            (ixG v_acts x15).bind fun x16 =>
            (appG s_1 ((y2.2.2, y2.1, x14, x16.1).1, (y2.2.2, y2.1, x14, x16.1).2.1, (some ((y2.2.2, y2.1, x14, x16.1).2.2.1)), (y2.2.2, y2.1, x14, x16.1).2.2.2)).bind fun x17 =>
            some x17
            )
        ).bind fun j18 =>
        some j18
        )
      else
        (
        some s_1
        )
    ).bind fun j19 =>
    some j19
  ) (enumI 0 v_acts) []).bind fun r20 =>
  some r20
theorem m__law_deeds {v_acts : List ((Str × Int))} {r : List ((Int × Int × Option Int × Str))} (h : p__law_deeds v_acts = some r) : F__law_deeds.run [(T.fz (D.list (v_acts.map (fun p : (Str × Int) => D.tup [(D.str p.1), (D.int p.2)]))))] = some ((T.fz (D.list (r.map (fun p : (Int × Int × Option Int × Str) => D.tup [(D.int p.1), (D.int p.2.1), (eO p.2.2.1), (D.str p.2.2.2)])))), []) := by
  unfold p__law_deeds at h
  rw [R__law_deeds]
  refine run_g (ρ := [.ow (T.fz (D.list (v_acts.map (fun p : (Str × Int) => D.tup [(D.str p.1), (D.int p.2)])))), .no, .no, .no, .no, .no]) rfl rfl ?_
  refine ss_cons ?_
  refine wp_set ?_
  refine w_list ?_
  refine ws_nil ?_
  skip
  refine oQ_in rfl ?_
  refine set_in (ρ2 := [.ow (T.fz (D.list (v_acts.map (fun p : (Str × Int) => D.tup [(D.str p.1), (D.int p.2)])))), .ow (T.fl (([]).map (fun p : (Int × Int × Option Int × Str) => D.tup [(D.int p.1), (D.int p.2.1), (eO p.2.2.1), (D.str p.2.2.2)]))), .no, .no, .no, .no]) (.ow <| .no <| .no <| .no <| .no <| .no <| .nil) rfl Free.no rfl ?_
  refine nxe (ρ2 := [.ow (T.fz (D.list (v_acts.map (fun p : (Str × Int) => D.tup [(D.str p.1), (D.int p.2)])))), .ow (T.fl (([]).map (fun p : (Int × Int × Option Int × Str) => D.tup [(D.int p.1), (D.int p.2.1), (eO p.2.2.1), (D.str p.2.2.2)]))), .no, .no, .no, .no]) rfl ?_
  refine ss_cons ?_
  refine wp_for ?_
  refine wi_enum ?_
  refine w_var (oQ_in rfl ?_)
  refine oQ_in rfl (dList_1 rfl ?_)
  obtain ⟨r3, g4, h⟩ := bnd h
  refine loop_cast (enumD_map (e := (fun p : (Str × Int) => D.tup [(D.str p.1), (D.int p.2)])) v_acts 0) ?_
  refine for_sim (e := (fun p => D.tup [D.int p.1, (D.tup [(D.str p.2.1), (D.int p.2.2)])])) (fun (s_1 : List ((Int × Int × Option Int × Str))) ρ => ∃ (s5 : Slot) (s6 : Slot) (s7 : Slot), ρ = [.ow (T.fz (D.list (v_acts.map (fun p : (Str × Int) => D.tup [(D.str p.1), (D.int p.2)])))), .ow (T.fl (s_1.map (fun p : (Int × Int × Option Int × Str) => D.tup [(D.int p.1), (D.int p.2.1), (eO p.2.2.1), (D.str p.2.2.2)]))), s5, s6, s7, .no] ∧ Free s5 ∧ Free s6 ∧ Free s7) g4 ⟨_, _, _, rfl, Free.no, Free.no, Free.no⟩ ?_ ?_
  · rintro y2 s_1 z9 _ _ h8 ⟨s5, s6, s7, rfl, q5, q6, q7⟩
    refine bd_tp rfl ?_
    refine bd_go_cons (ρ2 := [.ow (T.fz (D.list (v_acts.map (fun p : (Str × Int) => D.tup [(D.str p.1), (D.int p.2)])))), .ow (T.fl (s_1.map (fun p : (Int × Int × Option Int × Str) => D.tup [(D.int p.1), (D.int p.2.1), (eO p.2.2.1), (D.str p.2.2.2)]))), .ow (T.fz (D.int y2.1)), s6, s7, .no]) (.ow <| .ow <| .fr q5 <| .fr q6 <| .fr q7 <| .no <| .nil) rfl q5 rfl ?_
    refine bd_go_cons (ρ2 := [.ow (T.fz (D.list (v_acts.map (fun p : (Str × Int) => D.tup [(D.str p.1), (D.int p.2)])))), .ow (T.fl (s_1.map (fun p : (Int × Int × Option Int × Str) => D.tup [(D.int p.1), (D.int p.2.1), (eO p.2.2.1), (D.str p.2.2.2)]))), .ow (T.fz (D.int y2.1)), .ow (T.fz (D.tup [(D.str y2.2.1), (D.int y2.2.2)])), s7, .no]) (.ow <| .ow <| .ow <| .fr q6 <| .fr q7 <| .no <| .nil) rfl q6 rfl ?_
    refine bd_go_nil ?_
    refine ss_cons ?_
    refine wp_ite ?_
    obtain ⟨j10, e11, h8⟩ := bnd h8
    refine wt_cmp ?_
    refine w_ix ?_
    refine w_var (oQ_in rfl ?_)
    refine w_kst ?_
    refine vT_in rfl ⟨rfl, oQ_in rfl ?_⟩
    refine wIx_2 rfl (v := .t (.fz (D.str y2.2.1))) rfl ?_
    refine w_kst ?_
    refine ⟨rfl, oQ_in rfl (oQ_in rfl ?_)⟩
    obtain ⟨x12, g13, e11⟩ := bnd e11
    by_cases c14 : x12 = true
    · replace e11 := ift c14 e11
      refine wCmp_in_t (cmp_eq rfl rfl g13) c14 ?_
      refine ⟨fun _ => ?_, fun z => absurd z (by decide)⟩
      refine ss_cons ?_
      refine wp_set ?_
      refine w_fzvK ?_
      refine w_sl ?_
      refine w_lc ?_
      refine wi_rng2 ?_
      refine w_bin ?_
      refine w_var (oQ_in rfl ?_)
      refine w_kst ?_
      refine ⟨rfl, oQ_in rfl (oQ_in rfl ?_)⟩
      refine wb_add ?_
      refine w_blt ?_
      refine ws_cons ?_
      refine w_var (oQ_in rfl ?_)
      refine ws_nil ?_
      refine ⟨rfl, ?_⟩
      refine oQ_in rfl ?_
      refine len_list (e := (fun p : (Str × Int) => D.tup [(D.str p.1), (D.int p.2)])) (l := v_acts) ?_
      refine vInt_in rfl (vInt_in rfl ?_)
      obtain ⟨x15, g16, e11⟩ := bnd e11
      obtain ⟨k17, k18, rfl⟩ := rngG_some g16
      refine ⟨k17, k18, ?_⟩
      obtain ⟨r20, g21, e11⟩ := bnd e11
      obtain ⟨g21, k22⟩ := lcG_some g21
      refine ⟨rfl, loopC_cast (rangeD_map (y2.1 + 1) (v_acts.length : Int)) ?_⟩
      refine lc_sim (e := D.int) (e2 := D.int) (l := (rngI (y2.1 + 1) (v_acts.length : Int))) (r := r20) (fun ρ => ρ = [.ow (T.fz (D.list (v_acts.map (fun p : (Str × Int) => D.tup [(D.str p.1), (D.int p.2)])))), .ow (T.fl (s_1.map (fun p : (Int × Int × Option Int × Str) => D.tup [(D.int p.1), (D.int p.2.1), (eO p.2.2.1), (D.str p.2.2.2)]))), .ow (T.fz (D.int y2.1)), .ow (T.fz (D.tup [(D.str y2.2.1), (D.int y2.2.2)])), s7, .no]) g21 (wipe_1 (.ow <| .ow <| .ow <| .ow <| .fr q7 <| .no <| .nil) rfl) ?_ ?_
      · rintro y19 o24 _ _ h23 rfl
        refine bd_nm (ρ2 := [.ow (T.fz (D.list (v_acts.map (fun p : (Str × Int) => D.tup [(D.str p.1), (D.int p.2)])))), .ow (T.fl (s_1.map (fun p : (Int × Int × Option Int × Str) => D.tup [(D.int p.1), (D.int p.2.1), (eO p.2.2.1), (D.str p.2.2.2)]))), .ow (T.fz (D.int y2.1)), .ow (T.fz (D.tup [(D.str y2.2.1), (D.int y2.2.2)])), s7, .ow (T.fz (D.int y19))]) (.ow <| .ow <| .ow <| .ow <| .fr q7 <| .no <| .nil) rfl Free.no rfl ?_
        refine lcB_some ?_
        refine wt_cmp ?_
        refine w_ix ?_
        refine w_ix ?_
        refine w_var (oQ_in rfl ?_)
        refine w_var (oQ_in rfl ?_)
        refine vT_in rfl ⟨rfl, oQ_in rfl ?_⟩
        obtain ⟨x25, g26, h23⟩ := bnd h23
        refine wIx_2 rfl (ixVal_list (e := (fun p : (Str × Int) => D.tup [(D.str p.1), (D.int p.2)])) (l := v_acts) (x := x25) g26) ?_
        refine w_kst ?_
        refine vT_in rfl ⟨rfl, oQ_in rfl ?_⟩
        refine wIx_2 rfl (v := .t (.fz (D.int x25.2))) rfl ?_
        refine w_ix ?_
        refine w_var (oQ_in rfl ?_)
        refine w_kst ?_
        refine vT_in rfl ⟨rfl, oQ_in rfl ?_⟩
        refine wIx_2 rfl (v := .t (.fz (D.int y2.2.2))) rfl ?_
        refine ⟨rfl, oQ_in rfl (oQ_in rfl ?_)⟩
        by_cases c27 : x25.2 = y2.2.2
        · replace h23 := ift c27 h23
          refine wc_eq_t c27 ?_
          refine ⟨fun _ => ?_, fun z => absurd z (by decide)⟩
          refine w_fzvK ?_
          refine w_var (oQ_in rfl ?_)
          refine fzk_fz (d := (D.int y19)) ?_
          refine oQ_in rfl ⟨⟨y19, (Option.some.inj h23).symm, rfl⟩, (wipe_1 (.ow <| .ow <| .ow <| .ow <| .fr q7 <| .ow <| .nil) rfl)⟩
        · replace h23 := iff_ c27 h23
          refine wc_eq_f c27 ?_
          exact ⟨fun z => absurd z (by decide), fun _ => ⟨(Option.some.inj h23).symm, (wipe_1 (.ow <| .ow <| .ow <| .ow <| .fr q7 <| .ow <| .nil) rfl)⟩⟩
      · rintro _ rfl
        refine ⟨fzs_len k22, ?_⟩
        refine wo_none ?_
        refine wo_some ?_
        refine w_kst ?_
        refine vInt_in rfl ?_
        obtain ⟨x28, g29, e11⟩ := bnd e11
        obtain ⟨k30, k31, rfl⟩ := sliG_some g29
        refine ⟨rfl, k30, k31, oQ_in rfl ⟨_, slT_fl (e := D.int) (l := r20) rfl, ?_⟩⟩
        refine fzk_fl (ds := ((r20.drop (HT.sIx r20.length 0 none)).take (HT.sIx r20.length r20.length (some 1) - HT.sIx r20.length 0 none)).map D.int) ?_
        refine set_in (ρ2 := [.ow (T.fz (D.list (v_acts.map (fun p : (Str × Int) => D.tup [(D.str p.1), (D.int p.2)])))), .ow (T.fl (s_1.map (fun p : (Int × Int × Option Int × Str) => D.tup [(D.int p.1), (D.int p.2.1), (eO p.2.2.1), (D.str p.2.2.2)]))), .ow (T.fz (D.int y2.1)), .ow (T.fz (D.tup [(D.str y2.2.1), (D.int y2.2.2)])), .ow (T.fz (D.list (((r20.drop (HT.sIx r20.length 0 none)).take (HT.sIx r20.length r20.length (some 1) - HT.sIx r20.length 0 none)).map D.int))), .no]) (.ow <| .ow <| .ow <| .ow <| .fr q7 <| .no <| .nil) rfl q7 rfl ?_
        refine nxe (ρ2 := [.ow (T.fz (D.list (v_acts.map (fun p : (Str × Int) => D.tup [(D.str p.1), (D.int p.2)])))), .ow (T.fl (s_1.map (fun p : (Int × Int × Option Int × Str) => D.tup [(D.int p.1), (D.int p.2.1), (eO p.2.2.1), (D.str p.2.2.2)]))), .ow (T.fz (D.int y2.1)), .ow (T.fz (D.tup [(D.str y2.2.1), (D.int y2.2.2)])), .ow (T.fz (D.list (((r20.drop (HT.sIx r20.length 0 none)).take (HT.sIx r20.length r20.length (some 1) - HT.sIx r20.length 0 none)).map D.int))), .no]) rfl ?_
        refine ss_cons ?_
        refine wp_ite ?_
        obtain ⟨j32, e33, e11⟩ := bnd e11
        refine wt_cmp ?_
        refine w_var (oQ_in rfl ?_)
        refine w_list ?_
        refine ws_nil ?_
        skip
        refine oQ_in rfl ?_
        refine ⟨rfl, oQ_in rfl (oQ_in rfl ?_)⟩
        obtain ⟨x34, g35, e33⟩ := bnd e33
        by_cases c36 : x34 = true
        · replace e33 := ift c36 e33
          refine wCmp_in_t (cmp_eq rfl (fl_toD (([]).map D.int)) g35) c36 ?_
          refine ⟨fun _ => ?_, fun z => absurd z (by decide)⟩
          refine ss_cons ?_
          refine wp_app ?_
          refine w_var (oQ_in rfl ?_)
          refine vPt_in rfl ⟨⟨_, rfl⟩, ?_⟩
          refine w_fzvK ?_
          refine w_tup ?_
          refine ws_cons ?_
          refine w_fzvK ?_
          refine w_ix ?_
          refine w_var (oQ_in rfl ?_)
          refine w_kst ?_
          refine vT_in rfl ⟨rfl, oQ_in rfl ?_⟩
          refine wIx_2 rfl (v := .t (.fz (D.int y2.2.2))) rfl ?_
          refine fzk_fz (d := (D.int y2.2.2)) ?_
          refine ws_cons ?_
          refine w_fzvK ?_
          refine w_var (oQ_in rfl ?_)
          refine fzk_fz (d := (D.int y2.1)) ?_
          refine ws_cons ?_
          refine w_kst ?_
          refine ws_cons ?_
          refine w_kst ?_
          refine ws_nil ?_
          refine ⟨rfl, rfl, rfl, rfl, ?_⟩
          refine oQ_in rfl ?_
          refine fzk_fz (d := (D.tup [(D.int ((y2.2.2, y2.1, (), ()).1)), (D.int ((y2.2.2, y2.1, (), ()).2.1)), D.none, (D.str (Str.ofString "open"))])) ?_
          obtain ⟨x37, g38, e33⟩ := bnd e33
          obtain ⟨k39, rfl⟩ := appG_some g38
          refine oQ_in rfl ⟨rfl, oQ_in rfl ⟨_, appT_fl (e := (fun p : (Int × Int × Option Int × Str) => D.tup [(D.int p.1), (D.int p.2.1), (eO p.2.2.1), (D.str p.2.2.2)])) (l := s_1) (x := ((y2.2.2, y2.1, (), ()).1, (y2.2.2, y2.1, (), ()).2.1, none, (Str.ofString "open"))) k39, oQ_in rfl ?_⟩⟩
          refine nxe (ρ2 := [.ow (T.fz (D.list (v_acts.map (fun p : (Str × Int) => D.tup [(D.str p.1), (D.int p.2)])))), .ow (T.fl ((s_1 ++ [((y2.2.2, y2.1, (), ()).1, (y2.2.2, y2.1, (), ()).2.1, none, (Str.ofString "open"))]).map (fun p : (Int × Int × Option Int × Str) => D.tup [(D.int p.1), (D.int p.2.1), (eO p.2.2.1), (D.str p.2.2.2)]))), .ow (T.fz (D.int y2.1)), .ow (T.fz (D.tup [(D.str y2.2.1), (D.int y2.2.2)])), .ow (T.fz (D.list (((r20.drop (HT.sIx r20.length 0 none)).take (HT.sIx r20.length r20.length (some 1) - HT.sIx r20.length 0 none)).map D.int))), .no]) rfl ?_
          refine ss_nil ?_
          obtain rfl := Option.some.inj e33
          refine nxe (ρ2 := [.ow (T.fz (D.list (v_acts.map (fun p : (Str × Int) => D.tup [(D.str p.1), (D.int p.2)])))), .ow (T.fl ((s_1 ++ [((y2.2.2, y2.1, (), ()).1, (y2.2.2, y2.1, (), ()).2.1, none, (Str.ofString "open"))]).map (fun p : (Int × Int × Option Int × Str) => D.tup [(D.int p.1), (D.int p.2.1), (eO p.2.2.1), (D.str p.2.2.2)]))), .ow (T.fz (D.int y2.1)), .ow (T.fz (D.tup [(D.str y2.2.1), (D.int y2.2.2)])), .ow (T.fz (D.list (((r20.drop (HT.sIx r20.length 0 none)).take (HT.sIx r20.length r20.length (some 1) - HT.sIx r20.length 0 none)).map D.int))), .no]) rfl ?_
          refine ss_nil ?_
          obtain rfl := Option.some.inj e11
          refine nxe (ρ2 := [.ow (T.fz (D.list (v_acts.map (fun p : (Str × Int) => D.tup [(D.str p.1), (D.int p.2)])))), .ow (T.fl ((s_1 ++ [((y2.2.2, y2.1, (), ()).1, (y2.2.2, y2.1, (), ()).2.1, none, (Str.ofString "open"))]).map (fun p : (Int × Int × Option Int × Str) => D.tup [(D.int p.1), (D.int p.2.1), (eO p.2.2.1), (D.str p.2.2.2)]))), .ow (T.fz (D.int y2.1)), .ow (T.fz (D.tup [(D.str y2.2.1), (D.int y2.2.2)])), .ow (T.fz (D.list (((r20.drop (HT.sIx r20.length 0 none)).take (HT.sIx r20.length r20.length (some 1) - HT.sIx r20.length 0 none)).map D.int))), .no]) rfl ?_
          refine ss_nil ?_
          obtain rfl := Option.some.inj h8
          exact lpN_nx ⟨_, _, _, rfl, Free.ow, Free.ow, Free.ow⟩
        · replace e33 := iff_ c36 e33
          refine wCmp_in_f (cmp_eq rfl (fl_toD (([]).map D.int)) g35) c36 ?_
          refine ⟨fun z => absurd z (by decide), fun _ => ?_⟩
          refine ss_cons ?_
          refine wp_app ?_
          refine w_var (oQ_in rfl ?_)
          refine vPt_in rfl ⟨⟨_, rfl⟩, ?_⟩
          refine w_fzvK ?_
          refine w_tup ?_
          refine ws_cons ?_
          refine w_fzvK ?_
          refine w_ix ?_
          refine w_var (oQ_in rfl ?_)
          refine w_kst ?_
          refine vT_in rfl ⟨rfl, oQ_in rfl ?_⟩
          refine wIx_2 rfl (v := .t (.fz (D.int y2.2.2))) rfl ?_
          refine fzk_fz (d := (D.int y2.2.2)) ?_
          refine ws_cons ?_
          refine w_fzvK ?_
          refine w_var (oQ_in rfl ?_)
          refine fzk_fz (d := (D.int y2.1)) ?_
          refine ws_cons ?_
          refine w_fzvK ?_
          refine w_ix ?_
          refine w_var (oQ_in rfl ?_)
          refine w_kst ?_
          refine vT_in rfl ⟨rfl, oQ_in rfl ?_⟩
          obtain ⟨x40, g41, e33⟩ := bnd e33
          refine wIx_2 rfl (ixVal_list (e := D.int) (l := ((r20.drop (HT.sIx r20.length 0 none)).take (HT.sIx r20.length r20.length (some 1) - HT.sIx r20.length 0 none))) (x := x40) g41) ?_
          refine fzk_fz (d := (D.int x40)) ?_
          refine ws_cons ?_
          refine w_fzvK ?_
          refine w_ix ?_
          refine w_ix ?_
          refine w_var (oQ_in rfl ?_)
          refine w_ix ?_
          refine w_var (oQ_in rfl ?_)
          refine w_kst ?_
          refine vT_in rfl ⟨rfl, oQ_in rfl ?_⟩
          obtain ⟨x42, g43, e33⟩ := bnd e33
          refine wIx_2 rfl (ixVal_list (e := D.int) (l := ((r20.drop (HT.sIx r20.length 0 none)).take (HT.sIx r20.length r20.length (some 1) - HT.sIx r20.length 0 none))) (x := x42) g43) ?_
          refine vT_in rfl ⟨rfl, oQ_in rfl ?_⟩
          obtain ⟨x44, g45, e33⟩ := bnd e33
          refine wIx_2 rfl (ixVal_list (e := (fun p : (Str × Int) => D.tup [(D.str p.1), (D.int p.2)])) (l := v_acts) (x := x44) g45) ?_
          refine w_kst ?_
          refine vT_in rfl ⟨rfl, oQ_in rfl ?_⟩
          refine wIx_2 rfl (v := .t (.fz (D.str x44.1))) rfl ?_
          refine fzk_fz (d := (D.str x44.1)) ?_
          refine ws_nil ?_
          refine ⟨rfl, rfl, rfl, rfl, ?_⟩
          refine oQ_in rfl ?_
          refine fzk_fz (d := (D.tup [(D.int ((y2.2.2, y2.1, x40, x44.1).1)), (D.int ((y2.2.2, y2.1, x40, x44.1).2.1)), (D.int ((y2.2.2, y2.1, x40, x44.1).2.2.1)), (D.str ((y2.2.2, y2.1, x40, x44.1).2.2.2))])) ?_
          obtain ⟨x46, g47, e33⟩ := bnd e33
          obtain ⟨k48, rfl⟩ := appG_some g47
          refine oQ_in rfl ⟨rfl, oQ_in rfl ⟨_, appT_fl (e := (fun p : (Int × Int × Option Int × Str) => D.tup [(D.int p.1), (D.int p.2.1), (eO p.2.2.1), (D.str p.2.2.2)])) (l := s_1) (x := ((y2.2.2, y2.1, x40, x44.1).1, (y2.2.2, y2.1, x40, x44.1).2.1, (some ((y2.2.2, y2.1, x40, x44.1).2.2.1)), (y2.2.2, y2.1, x40, x44.1).2.2.2)) k48, oQ_in rfl ?_⟩⟩
          refine nxe (ρ2 := [.ow (T.fz (D.list (v_acts.map (fun p : (Str × Int) => D.tup [(D.str p.1), (D.int p.2)])))), .ow (T.fl ((s_1 ++ [((y2.2.2, y2.1, x40, x44.1).1, (y2.2.2, y2.1, x40, x44.1).2.1, (some ((y2.2.2, y2.1, x40, x44.1).2.2.1)), (y2.2.2, y2.1, x40, x44.1).2.2.2)]).map (fun p : (Int × Int × Option Int × Str) => D.tup [(D.int p.1), (D.int p.2.1), (eO p.2.2.1), (D.str p.2.2.2)]))), .ow (T.fz (D.int y2.1)), .ow (T.fz (D.tup [(D.str y2.2.1), (D.int y2.2.2)])), .ow (T.fz (D.list (((r20.drop (HT.sIx r20.length 0 none)).take (HT.sIx r20.length r20.length (some 1) - HT.sIx r20.length 0 none)).map D.int))), .no]) rfl ?_
          refine ss_nil ?_
          obtain rfl := Option.some.inj e33
          refine nxe (ρ2 := [.ow (T.fz (D.list (v_acts.map (fun p : (Str × Int) => D.tup [(D.str p.1), (D.int p.2)])))), .ow (T.fl ((s_1 ++ [((y2.2.2, y2.1, x40, x44.1).1, (y2.2.2, y2.1, x40, x44.1).2.1, (some ((y2.2.2, y2.1, x40, x44.1).2.2.1)), (y2.2.2, y2.1, x40, x44.1).2.2.2)]).map (fun p : (Int × Int × Option Int × Str) => D.tup [(D.int p.1), (D.int p.2.1), (eO p.2.2.1), (D.str p.2.2.2)]))), .ow (T.fz (D.int y2.1)), .ow (T.fz (D.tup [(D.str y2.2.1), (D.int y2.2.2)])), .ow (T.fz (D.list (((r20.drop (HT.sIx r20.length 0 none)).take (HT.sIx r20.length r20.length (some 1) - HT.sIx r20.length 0 none)).map D.int))), .no]) rfl ?_
          refine ss_nil ?_
          obtain rfl := Option.some.inj e11
          refine nxe (ρ2 := [.ow (T.fz (D.list (v_acts.map (fun p : (Str × Int) => D.tup [(D.str p.1), (D.int p.2)])))), .ow (T.fl ((s_1 ++ [((y2.2.2, y2.1, x40, x44.1).1, (y2.2.2, y2.1, x40, x44.1).2.1, (some ((y2.2.2, y2.1, x40, x44.1).2.2.1)), (y2.2.2, y2.1, x40, x44.1).2.2.2)]).map (fun p : (Int × Int × Option Int × Str) => D.tup [(D.int p.1), (D.int p.2.1), (eO p.2.2.1), (D.str p.2.2.2)]))), .ow (T.fz (D.int y2.1)), .ow (T.fz (D.tup [(D.str y2.2.1), (D.int y2.2.2)])), .ow (T.fz (D.list (((r20.drop (HT.sIx r20.length 0 none)).take (HT.sIx r20.length r20.length (some 1) - HT.sIx r20.length 0 none)).map D.int))), .no]) rfl ?_
          refine ss_nil ?_
          obtain rfl := Option.some.inj h8
          exact lpN_nx ⟨_, _, _, rfl, Free.ow, Free.ow, Free.ow⟩
    · replace e11 := iff_ c14 e11
      refine wCmp_in_f (cmp_eq rfl rfl g13) c14 ?_
      refine ⟨fun z => absurd z (by decide), fun _ => ?_⟩
      refine ss_nil ?_
      obtain rfl := Option.some.inj e11
      refine nxe (ρ2 := [.ow (T.fz (D.list (v_acts.map (fun p : (Str × Int) => D.tup [(D.str p.1), (D.int p.2)])))), .ow (T.fl (s_1.map (fun p : (Int × Int × Option Int × Str) => D.tup [(D.int p.1), (D.int p.2.1), (eO p.2.2.1), (D.str p.2.2.2)]))), .ow (T.fz (D.int y2.1)), .ow (T.fz (D.tup [(D.str y2.2.1), (D.int y2.2.2)])), s7, .no]) rfl ?_
      refine ss_nil ?_
      obtain rfl := Option.some.inj h8
      exact lpN_nx ⟨_, _, _, rfl, Free.ow, Free.ow, q7⟩
  · rintro _ ⟨s49, s50, s51, rfl, q49, q50, q51⟩
    refine nxe (ρ2 := [.ow (T.fz (D.list (v_acts.map (fun p : (Str × Int) => D.tup [(D.str p.1), (D.int p.2)])))), .ow (T.fl (r3.map (fun p : (Int × Int × Option Int × Str) => D.tup [(D.int p.1), (D.int p.2.1), (eO p.2.2.1), (D.str p.2.2.2)]))), s49, s50, s51, .no]) rfl ?_
    refine ss_cons ?_
    refine wp_ret ?_
    refine w_fzvK ?_
    refine w_var (oQ_in rfl ?_)
    refine fzk_pt (e := (fun p : (Int × Int × Option Int × Str) => D.tup [(D.int p.1), (D.int p.2.1), (eO p.2.2.1), (D.str p.2.2.2)])) (l := r3) (ρ2 := [.ow (T.fz (D.list (v_acts.map (fun p : (Str × Int) => D.tup [(D.str p.1), (D.int p.2)])))), .ow (T.fz (D.list (r3.map (fun p : (Int × Int × Option Int × Str) => D.tup [(D.int p.1), (D.int p.2.1), (eO p.2.2.1), (D.str p.2.2.2)])))), s49, s50, s51, .no]) rfl rfl ?_
    refine oQ_in rfl ?_
    obtain rfl := Option.some.inj h
    refine seqK_rt ?_
    exact ret_in rfl rfl
def p_is_integer (v_value : Int) (v_least : Int) (v_most : Int) : Option (Bool) :=
  (
    if v_least ≤ v_value then
      (
      (
        some ((decide (v_value ≤ v_most)))
      ).bind fun x1 =>
      some x1
      )
    else
      (
      some false
      )
  ).bind fun x2 =>
  some x2
theorem m_is_integer {v_value : Int} {v_least : Int} {v_most : Int} {r : Bool} (h : p_is_integer v_value v_least v_most = some r) : F_is_integer.run [(T.fz (D.int v_value)), (T.fz (D.int v_least)), (T.fz (D.int v_most))] = some ((T.fz (D.bool r)), []) := by
  unfold p_is_integer at h
  rw [R_is_integer]
  refine run_g (ρ := [.ow (T.fz (D.int v_value)), .ow (T.fz (D.int v_least)), .ow (T.fz (D.int v_most))]) rfl rfl ?_
  refine ss_cons ?_
  refine wp_ite ?_
  refine wt_bool ?_
  refine wb_cons ?_
  refine wt_not ?_
  refine wt_val ?_
  refine w_blt ?_
  refine ws_cons ?_
  refine w_var (oQ_in rfl ?_)
  refine ws_nil ?_
  refine ⟨rfl, ?_⟩
  refine oQ_in rfl ?_
  refine wl_any (t := T.fz (D.bool true)) rfl ?_
  refine oQ_in rfl ?_
  refine oQ_in rfl ?_
  refine ⟨fun _ => ?_, fun z => absurd z (by decide)⟩
  refine wb_one ?_
  refine wt_val ?_
  refine w_blt ?_
  refine ws_cons ?_
  refine w_var (oQ_in rfl ?_)
  refine ws_nil ?_
  refine ⟨rfl, ?_⟩
  refine oQ_in rfl ?_
  refine wl_any (t := T.fz (D.bool false)) rfl ?_
  refine oQ_in rfl ?_
  refine oQ_in rfl ?_
  refine ⟨fun z => absurd z (by decide), fun _ => ?_⟩
  refine ss_nil ?_
  refine nxe (ρ2 := [.ow (T.fz (D.int v_value)), .ow (T.fz (D.int v_least)), .ow (T.fz (D.int v_most))]) rfl ?_
  refine ss_cons ?_
  refine wp_ret ?_
  refine w_boolop ?_
  refine w_cmp ?_
  refine w_var (oQ_in rfl ?_)
  refine w_var (oQ_in rfl ?_)
  refine ⟨rfl, oQ_in rfl (oQ_in rfl ?_)⟩
  refine wc_ge ?_
  refine vBool_in rfl ?_
  obtain ⟨x1, e2, h⟩ := bnd h
  by_cases c3 : v_least ≤ v_value
  · replace e2 := ift c3 e2
    refine ⟨fun _ => ?_, fun z => absurd z (by simp [c3])⟩
    refine w_boolop ?_
    refine w_cmp ?_
    refine w_var (oQ_in rfl ?_)
    refine w_kst ?_
    refine ⟨rfl, oQ_in rfl (oQ_in rfl ?_)⟩
    refine wc_is (b := false) rfl ?_
    refine vBool_in rfl ?_
    obtain ⟨x4, e5, e2⟩ := bnd e2
    refine ⟨fun _ => ?_, fun z => absurd z (by simp [])⟩
    refine w_cmp ?_
    refine w_var (oQ_in rfl ?_)
    refine w_var (oQ_in rfl ?_)
    refine ⟨rfl, oQ_in rfl (oQ_in rfl ?_)⟩
    refine wc_le ?_
    obtain rfl := Option.some.inj e5
    obtain rfl := Option.some.inj e2
    refine oQ_in rfl ?_
    obtain rfl := Option.some.inj h
    refine seqK_rt ?_
    exact ret_in rfl rfl
  · replace e2 := iff_ c3 e2
    refine ⟨fun z => absurd z (by simp [c3]), fun _ => ?_⟩
    obtain rfl := Option.some.inj e2
    refine oQ_in rfl ?_
    obtain rfl := Option.some.inj h
    refine seqK_rt ?_
    exact ret_in rfl rfl
def p_need_houses (v_value : Int) : Option (Unit) :=
  (p_is_integer v_value 1 20).bind fun r1 =>
  if r1 = true then
    (
    some ()
    )
  else
    (
    none
    )
theorem m_need_houses {v_value : Int} {r : Unit} (h : p_need_houses v_value = some r) : F_need_houses.run [(T.fz (D.int v_value))] = some ((T.fz D.none), []) := by
  unfold p_need_houses at h
  rw [R_need_houses]
  refine run_g (ρ := [.ow (T.fz (D.int v_value))]) rfl rfl ?_
  refine ss_cons ?_
  refine wp_ite ?_
  refine wt_not ?_
  refine wt_val ?_
  refine w_call ?_
  refine ws_cons ?_
  refine w_fzvK ?_
  refine w_var (oQ_in rfl ?_)
  refine fzk_fz (d := (D.int v_value)) ?_
  refine ws_cons ?_
  refine w_kst ?_
  refine ws_cons ?_
  refine w_gl (oQ_in rfl ?_)
  refine ws_nil ?_
  refine ⟨rfl, rfl, rfl, ?_⟩
  refine oQ_in rfl ?_
  obtain ⟨r1, g2, h⟩ := bnd h
  refine call_g (ρ2 := [.ow (T.fz (D.int v_value))]) (.ow <| .nil) rfl (argT_fz (argT_fz (argT_fz argT_nil))) (m_is_integer g2) rfl rfl rfl ?_
  refine oQ_in rfl ?_
  by_cases c3 : r1 = true
  · replace h := ift c3 h
    refine tru_t rfl c3 ?_
    refine ⟨fun z => absurd z (by decide), fun _ => ?_⟩
    refine ss_nil ?_
    refine nxe (ρ2 := [.ow (T.fz (D.int v_value))]) rfl ?_
    refine ss_nil ?_
    obtain rfl := Option.some.inj h
    exact end_in rfl rfl
  · replace h := iff_ c3 h
    refine tru_f rfl c3 ?_
    refine ⟨fun _ => ?_, fun z => absurd z (by decide)⟩
    refine ss_cons ?_
    cases h
def p_is_event (v_houses : Int) (v_value : (Str × Int)) : Option (Bool) :=
  (
    if v_value.1 ∈ [Str.ofString "take", Str.ofString "end", Str.ofString "fail", Str.ofString "fall"] then
      (
      (p_is_integer v_value.2 0 (v_houses - 1)).bind fun r1 =>
      some r1
      )
    else
      (
      some false
      )
  ).bind fun x2 =>
  some x2
theorem m_is_event {v_houses : Int} {v_value : (Str × Int)} {r : Bool} (h : p_is_event v_houses v_value = some r) : F_is_event.run [(T.fz (D.int v_houses)), (T.fz (D.tup [(D.str v_value.1), (D.int v_value.2)]))] = some ((T.fz (D.bool r)), []) := by
  unfold p_is_event at h
  rw [R_is_event]
  refine run_g (ρ := [.ow (T.fz (D.int v_houses)), .ow (T.fz (D.tup [(D.str v_value.1), (D.int v_value.2)]))]) rfl rfl ?_
  refine ss_cons ?_
  refine wp_ite ?_
  refine wt_bool ?_
  refine wb_cons ?_
  refine wt_not ?_
  refine wt_val ?_
  refine w_blt ?_
  refine ws_cons ?_
  refine w_var (oQ_in rfl ?_)
  refine ws_nil ?_
  refine ⟨rfl, ?_⟩
  refine oQ_in rfl ?_
  refine wl_any (t := T.fz (D.bool true)) rfl ?_
  refine oQ_in rfl ?_
  refine oQ_in rfl ?_
  refine ⟨fun _ => ?_, fun z => absurd z (by decide)⟩
  refine wb_cons ?_
  refine wt_cmp ?_
  refine w_blt ?_
  refine ws_cons ?_
  refine w_var (oQ_in rfl ?_)
  refine ws_nil ?_
  refine ⟨rfl, ?_⟩
  refine oQ_in rfl ?_
  refine wl_any (t := T.fz (D.int 2)) rfl ?_
  refine w_kst ?_
  refine ⟨rfl, oQ_in rfl (oQ_in rfl ?_)⟩
  refine wCmp_in (b := false) (show cmpT .NotEq (T.fz (D.int 2)) (T.fz (D.int 2)) = some false by decide +kernel) ?_
  refine ⟨fun _ => ?_, fun z => absurd z (by decide)⟩
  refine wb_one ?_
  refine wt_not ?_
  refine wt_val ?_
  refine w_blt ?_
  refine ws_cons ?_
  refine w_ix ?_
  refine w_var (oQ_in rfl ?_)
  refine w_kst ?_
  refine vT_in rfl ⟨rfl, oQ_in rfl ?_⟩
  refine wIx_2 rfl (v := .t (.fz (D.str v_value.1))) rfl ?_
  refine ws_nil ?_
  refine ⟨rfl, ?_⟩
  refine oQ_in rfl ?_
  refine wl_any (t := T.fz (D.bool true)) rfl ?_
  refine oQ_in rfl ?_
  refine oQ_in rfl ?_
  refine ⟨fun z => absurd z (by decide), fun _ => ?_⟩
  refine ss_nil ?_
  refine nxe (ρ2 := [.ow (T.fz (D.int v_houses)), .ow (T.fz (D.tup [(D.str v_value.1), (D.int v_value.2)]))]) rfl ?_
  refine ss_cons ?_
  refine wp_ret ?_
  refine w_fzvK ?_
  refine w_boolop ?_
  refine w_cmp ?_
  refine w_ix ?_
  refine w_var (oQ_in rfl ?_)
  refine w_kst ?_
  refine vT_in rfl ⟨rfl, oQ_in rfl ?_⟩
  refine wIx_2 rfl (v := .t (.fz (D.str v_value.1))) rfl ?_
  refine w_gl (oQ_in rfl ?_)
  refine ⟨rfl, oQ_in rfl (oQ_in rfl ?_)⟩
  refine wCmp_in (cmp_inStr (l := [Str.ofString "take", Str.ofString "end", Str.ofString "fail", Str.ofString "fall"])) ?_
  refine vBool_in rfl ?_
  obtain ⟨x1, e2, h⟩ := bnd h
  by_cases c3 : v_value.1 ∈ [Str.ofString "take", Str.ofString "end", Str.ofString "fail", Str.ofString "fall"]
  · replace e2 := ift c3 e2
    refine ⟨fun _ => ?_, fun z => absurd z (by simp [c3])⟩
    refine w_call ?_
    refine ws_cons ?_
    refine w_fzvK ?_
    refine w_ix ?_
    refine w_var (oQ_in rfl ?_)
    refine w_kst ?_
    refine vT_in rfl ⟨rfl, oQ_in rfl ?_⟩
    refine wIx_2 rfl (v := .t (.fz (D.int v_value.2))) rfl ?_
    refine fzk_fz (d := (D.int v_value.2)) ?_
    refine ws_cons ?_
    refine w_kst ?_
    refine ws_cons ?_
    refine w_bin ?_
    refine w_var (oQ_in rfl ?_)
    refine w_kst ?_
    refine ⟨rfl, oQ_in rfl (oQ_in rfl ?_)⟩
    refine wb_sub ?_
    refine ws_nil ?_
    refine ⟨rfl, rfl, rfl, ?_⟩
    refine oQ_in rfl ?_
    obtain ⟨r4, g5, e2⟩ := bnd e2
    refine call_g (ρ2 := [.ow (T.fz (D.int v_houses)), .ow (T.fz (D.tup [(D.str v_value.1), (D.int v_value.2)]))]) (.ow <| .ow <| .nil) rfl (argT_fz (argT_fz (argT_fz argT_nil))) (m_is_integer g5) rfl rfl rfl ?_
    obtain rfl := Option.some.inj e2
    refine fzk_fz (d := (D.bool r4)) ?_
    refine oQ_in rfl ?_
    obtain rfl := Option.some.inj h
    refine seqK_rt ?_
    exact ret_in rfl rfl
  · replace e2 := iff_ c3 e2
    refine ⟨fun z => absurd z (by simp [c3]), fun _ => ?_⟩
    obtain rfl := Option.some.inj e2
    refine fzk_fz (d := (D.bool false)) ?_
    refine oQ_in rfl ?_
    obtain rfl := Option.some.inj h
    refine seqK_rt ?_
    exact ret_in rfl rfl
def p_wrong_event (v_houses : Int) (v_events : List ((Str × Int))) : Option (Option Int) :=
  (repG ([false]) v_houses).bind fun x1 =>
  (forR (fun (s_2 : List Bool) (y3 : (Int × (Str × Int))) =>
    (p_is_event v_houses y3.2).bind fun r8 =>
    if r8 = true then
      (
      (deqG (D.str y3.2.1) (D.str (Str.ofString "fall"))).bind fun x9 =>
      if ¬ x9 = true then
        (
        (ixG s_2 y3.2.2).bind fun x10 =>
        (deqG (D.str y3.2.1) (D.str (Str.ofString "take"))).bind fun x11 =>
        (deqG (D.bool x10) (D.bool x11)).bind fun x12 =>
        if x12 = true then
          (
          some (.inr ((some y3.1)))
          )
        else
          (
          (deqG (D.str y3.2.1) (D.str (Str.ofString "take"))).bind fun x13 =>
          (stoG s_2 y3.2.2 x13).bind fun x14 =>
          some (.inl x14)
          )
        )
      else
        (
        (deqG (D.str y3.2.1) (D.str (Str.ofString "take"))).bind fun x15 =>
        (stoG s_2 y3.2.2 x15).bind fun x16 =>
        some (.inl x16)
        )
      )
    else
      (
      some (.inr ((some y3.1)))
      )
  ) (enumI 0 v_events) x1).bind fun r17 =>
  match r17 with
  | .inr b18 => some b18
  | .inl r17 =>
  some none
theorem m_wrong_event {v_houses : Int} {v_events : List ((Str × Int))} {r : Option Int} (h : p_wrong_event v_houses v_events = some r) : F_wrong_event.run [(T.fz (D.int v_houses)), (T.fz (D.list (v_events.map (fun p : (Str × Int) => D.tup [(D.str p.1), (D.int p.2)]))))] = some ((T.fz (eO r)), []) := by
  unfold p_wrong_event at h
  rw [R_wrong_event]
  refine run_g (ρ := [.ow (T.fz (D.int v_houses)), .ow (T.fz (D.list (v_events.map (fun p : (Str × Int) => D.tup [(D.str p.1), (D.int p.2)])))), .no, .no, .no, .no, .no]) rfl rfl ?_
  refine ss_cons ?_
  refine wp_set ?_
  refine w_bin ?_
  refine w_list ?_
  refine ws_cons ?_
  refine w_kst ?_
  refine ws_nil ?_
  refine ⟨rfl, ?_⟩
  refine oQ_in rfl ?_
  refine w_var (oQ_in rfl ?_)
  refine ⟨rfl, oQ_in rfl (oQ_in rfl ?_)⟩
  obtain ⟨x1, g2, h⟩ := bnd h
  obtain ⟨k3, rfl⟩ := repG_some g2
  refine wb_mulT (mulT_g (e := D.bool) (l := [false]) k3) ?_
  refine set_in (ρ2 := [.ow (T.fz (D.int v_houses)), .ow (T.fz (D.list (v_events.map (fun p : (Str × Int) => D.tup [(D.str p.1), (D.int p.2)])))), .ow (T.fl (((List.replicate (v_houses).toNat ([false])).flatten).map D.bool)), .no, .no, .no, .no]) (.ow <| .ow <| .no <| .no <| .no <| .no <| .no <| .nil) rfl Free.no rfl ?_
  refine nxe (ρ2 := [.ow (T.fz (D.int v_houses)), .ow (T.fz (D.list (v_events.map (fun p : (Str × Int) => D.tup [(D.str p.1), (D.int p.2)])))), .ow (T.fl (((List.replicate (v_houses).toNat ([false])).flatten).map D.bool)), .no, .no, .no, .no]) rfl ?_
  refine ss_cons ?_
  refine wp_for ?_
  refine wi_enum ?_
  refine w_var (oQ_in rfl ?_)
  refine oQ_in rfl (dList_1 rfl ?_)
  obtain ⟨r6, g7, h⟩ := bnd h
  refine loop_cast (enumD_map (e := (fun p : (Str × Int) => D.tup [(D.str p.1), (D.int p.2)])) v_events 0) ?_
  refine for_simR (e := (fun p => D.tup [D.int p.1, (D.tup [(D.str p.2.1), (D.int p.2.2)])])) (fun (s_4 : List Bool) ρ => ∃ (s8 : Slot) (s9 : Slot) (s10 : Slot) (s11 : Slot), ρ = [.ow (T.fz (D.int v_houses)), .ow (T.fz (D.list (v_events.map (fun p : (Str × Int) => D.tup [(D.str p.1), (D.int p.2)])))), .ow (T.fl (s_4.map D.bool)), s8, s9, s10, s11] ∧ Free s8 ∧ Free s9 ∧ Free s10 ∧ Free s11) (fun b o => isRet [false, false] (T.fz (eO b)) [] o) g7 ⟨_, _, _, _, rfl, Free.no, Free.no, Free.no, Free.no⟩ ?_ ?_ ?_
  · rintro y5 s_4 z13 _ _ h12 ⟨s8, s9, s10, s11, rfl, q8, q9, q10, q11⟩
    refine bd_tp rfl ?_
    refine bd_go_cons (ρ2 := [.ow (T.fz (D.int v_houses)), .ow (T.fz (D.list (v_events.map (fun p : (Str × Int) => D.tup [(D.str p.1), (D.int p.2)])))), .ow (T.fl (s_4.map D.bool)), .ow (T.fz (D.int y5.1)), s9, s10, s11]) (.ow <| .ow <| .ow <| .fr q8 <| .fr q9 <| .fr q10 <| .fr q11 <| .nil) rfl q8 rfl ?_
    refine bd_go_cons (ρ2 := [.ow (T.fz (D.int v_houses)), .ow (T.fz (D.list (v_events.map (fun p : (Str × Int) => D.tup [(D.str p.1), (D.int p.2)])))), .ow (T.fl (s_4.map D.bool)), .ow (T.fz (D.int y5.1)), .ow (T.fz (D.tup [(D.str y5.2.1), (D.int y5.2.2)])), s10, s11]) (.ow <| .ow <| .ow <| .ow <| .fr q9 <| .fr q10 <| .fr q11 <| .nil) rfl q9 rfl ?_
    refine bd_go_nil ?_
    refine ss_cons ?_
    refine wp_ite ?_
    refine wt_not ?_
    refine wt_val ?_
    refine w_call ?_
    refine ws_cons ?_
    refine w_fzvK ?_
    refine w_var (oQ_in rfl ?_)
    refine fzk_fz (d := (D.int v_houses)) ?_
    refine ws_cons ?_
    refine w_fzvK ?_
    refine w_var (oQ_in rfl ?_)
    refine fzk_fz (d := (D.tup [(D.str y5.2.1), (D.int y5.2.2)])) ?_
    refine ws_nil ?_
    refine ⟨rfl, rfl, ?_⟩
    refine oQ_in rfl ?_
    obtain ⟨r14, g15, h12⟩ := bnd h12
    refine call_g (ρ2 := [.ow (T.fz (D.int v_houses)), .ow (T.fz (D.list (v_events.map (fun p : (Str × Int) => D.tup [(D.str p.1), (D.int p.2)])))), .ow (T.fl (s_4.map D.bool)), .ow (T.fz (D.int y5.1)), .ow (T.fz (D.tup [(D.str y5.2.1), (D.int y5.2.2)])), s10, s11]) (.ow <| .ow <| .ow <| .ow <| .ow <| .fr q10 <| .fr q11 <| .nil) rfl (argT_fz (argT_fz argT_nil)) (m_is_event g15) rfl rfl rfl ?_
    refine oQ_in rfl ?_
    by_cases c16 : r14 = true
    · replace h12 := ift c16 h12
      refine tru_t rfl c16 ?_
      refine ⟨fun z => absurd z (by decide), fun _ => ?_⟩
      refine ss_nil ?_
      refine nxe (ρ2 := [.ow (T.fz (D.int v_houses)), .ow (T.fz (D.list (v_events.map (fun p : (Str × Int) => D.tup [(D.str p.1), (D.int p.2)])))), .ow (T.fl (s_4.map D.bool)), .ow (T.fz (D.int y5.1)), .ow (T.fz (D.tup [(D.str y5.2.1), (D.int y5.2.2)])), s10, s11]) rfl ?_
      refine ss_cons ?_
      refine wp_setT ?_
      refine w_fzvK ?_
      refine w_var (oQ_in rfl ?_)
      refine fzk_fz (d := (D.tup [(D.str y5.2.1), (D.int y5.2.2)])) ?_
      refine vTup_1 rfl ?_
      refine bts_cons (ρ2 := [.ow (T.fz (D.int v_houses)), .ow (T.fz (D.list (v_events.map (fun p : (Str × Int) => D.tup [(D.str p.1), (D.int p.2)])))), .ow (T.fl (s_4.map D.bool)), .ow (T.fz (D.int y5.1)), .ow (T.fz (D.tup [(D.str y5.2.1), (D.int y5.2.2)])), .ow (T.fz (D.str y5.2.1)), s11]) (.ow <| .ow <| .ow <| .ow <| .ow <| .fr q10 <| .fr q11 <| .nil) rfl q10 rfl ?_
      refine bts_cons (ρ2 := [.ow (T.fz (D.int v_houses)), .ow (T.fz (D.list (v_events.map (fun p : (Str × Int) => D.tup [(D.str p.1), (D.int p.2)])))), .ow (T.fl (s_4.map D.bool)), .ow (T.fz (D.int y5.1)), .ow (T.fz (D.tup [(D.str y5.2.1), (D.int y5.2.2)])), .ow (T.fz (D.str y5.2.1)), .ow (T.fz (D.int y5.2.2))]) (.ow <| .ow <| .ow <| .ow <| .ow <| .ow <| .fr q11 <| .nil) rfl q11 rfl ?_
      refine bts_nil ?_
      refine nxe (ρ2 := [.ow (T.fz (D.int v_houses)), .ow (T.fz (D.list (v_events.map (fun p : (Str × Int) => D.tup [(D.str p.1), (D.int p.2)])))), .ow (T.fl (s_4.map D.bool)), .ow (T.fz (D.int y5.1)), .ow (T.fz (D.tup [(D.str y5.2.1), (D.int y5.2.2)])), .ow (T.fz (D.str y5.2.1)), .ow (T.fz (D.int y5.2.2))]) rfl ?_
      refine ss_cons ?_
      refine wp_ite ?_
      refine wt_bool ?_
      refine wb_cons ?_
      refine wt_cmp ?_
      refine w_var (oQ_in rfl ?_)
      refine w_gl (oQ_in rfl ?_)
      refine ⟨rfl, oQ_in rfl (oQ_in rfl ?_)⟩
      obtain ⟨x17, g18, h12⟩ := bnd h12
      by_cases c19 : ¬ x17 = true
      · replace h12 := ift c19 h12
        refine wCmp_inN_t (cmp_eq rfl rfl g18) c19 ?_
        refine ⟨fun _ => ?_, fun z => absurd z (by decide)⟩
        refine wb_one ?_
        refine wt_cmp ?_
        refine w_ix ?_
        refine w_var (oQ_in rfl ?_)
        refine w_var (oQ_in rfl ?_)
        refine vT_in rfl ⟨rfl, oQ_in rfl ?_⟩
        obtain ⟨x20, g21, h12⟩ := bnd h12
        refine wIx_2 rfl (ixVal_fl (e := D.bool) (l := s_4) (x := x20) g21 rfl) ?_
        refine w_cmp ?_
        refine w_var (oQ_in rfl ?_)
        refine w_gl (oQ_in rfl ?_)
        refine ⟨rfl, oQ_in rfl (oQ_in rfl ?_)⟩
        obtain ⟨x22, g23, h12⟩ := bnd h12
        refine wCmp_in (cmp_eq rfl rfl g23) ?_
        refine ⟨rfl, oQ_in rfl (oQ_in rfl ?_)⟩
        obtain ⟨x24, g25, h12⟩ := bnd h12
        by_cases c26 : x24 = true
        · replace h12 := ift c26 h12
          refine wCmp_in_t (cmp_eq rfl rfl g25) c26 ?_
          refine ⟨fun _ => ?_, fun z => absurd z (by decide)⟩
          refine ss_cons ?_
          refine wp_ret ?_
          refine w_fzvK ?_
          refine w_var (oQ_in rfl ?_)
          refine fzk_fz (d := (D.int y5.1)) ?_
          refine oQ_in rfl ?_
          obtain rfl := Option.some.inj h12
          refine seqK_rt ?_
          refine seqK_rt ?_
          exact lpR_rt (ret_in rfl rfl)
        · replace h12 := iff_ c26 h12
          refine wCmp_in_f (cmp_eq rfl rfl g25) c26 ?_
          refine ⟨fun z => absurd z (by decide), fun _ => ?_⟩
          refine ss_nil ?_
          refine nxe (ρ2 := [.ow (T.fz (D.int v_houses)), .ow (T.fz (D.list (v_events.map (fun p : (Str × Int) => D.tup [(D.str p.1), (D.int p.2)])))), .ow (T.fl (s_4.map D.bool)), .ow (T.fz (D.int y5.1)), .ow (T.fz (D.tup [(D.str y5.2.1), (D.int y5.2.2)])), .ow (T.fz (D.str y5.2.1)), .ow (T.fz (D.int y5.2.2))]) rfl ?_
          refine ss_cons ?_
          refine wp_sto ?_
          refine w_cmp ?_
          refine w_var (oQ_in rfl ?_)
          refine w_gl (oQ_in rfl ?_)
          refine ⟨rfl, oQ_in rfl (oQ_in rfl ?_)⟩
          obtain ⟨x27, g28, h12⟩ := bnd h12
          refine wCmp_in (cmp_eq rfl rfl g28) ?_
          refine oQ_in rfl ?_
          refine w_var (oQ_in rfl ?_)
          refine w_var (oQ_in rfl ?_)
          refine vPt_in rfl (vT_in rfl ⟨rfl, oQ_in rfl ?_⟩)
          obtain ⟨x29, g30, h12⟩ := bnd h12
          refine ⟨_, setIx_fl (e := D.bool) (l := s_4) (x := x27) g30, oQ_in (kix_set (.ow <| .ow <| .ow <| .ow <| .ow <| .ow <| .ow <| .nil) rfl) ?_⟩
          refine nxe (ρ2 := [.ow (T.fz (D.int v_houses)), .ow (T.fz (D.list (v_events.map (fun p : (Str × Int) => D.tup [(D.str p.1), (D.int p.2)])))), .ow (T.fl (x29.map D.bool)), .ow (T.fz (D.int y5.1)), .ow (T.fz (D.tup [(D.str y5.2.1), (D.int y5.2.2)])), .ow (T.fz (D.str y5.2.1)), .ow (T.fz (D.int y5.2.2))]) rfl ?_
          refine ss_nil ?_
          obtain rfl := Option.some.inj h12
          exact lpR_nx ⟨_, _, _, _, rfl, Free.ow, Free.ow, Free.ow, Free.ow⟩
      · replace h12 := iff_ c19 h12
        refine wCmp_inN_f (cmp_eq rfl rfl g18) c19 ?_
        refine ⟨fun z => absurd z (by decide), fun _ => ?_⟩
        refine ⟨fun z => absurd z (by decide), fun _ => ?_⟩
        refine ss_nil ?_
        refine nxe (ρ2 := [.ow (T.fz (D.int v_houses)), .ow (T.fz (D.list (v_events.map (fun p : (Str × Int) => D.tup [(D.str p.1), (D.int p.2)])))), .ow (T.fl (s_4.map D.bool)), .ow (T.fz (D.int y5.1)), .ow (T.fz (D.tup [(D.str y5.2.1), (D.int y5.2.2)])), .ow (T.fz (D.str y5.2.1)), .ow (T.fz (D.int y5.2.2))]) rfl ?_
        refine ss_cons ?_
        refine wp_sto ?_
        refine w_cmp ?_
        refine w_var (oQ_in rfl ?_)
        refine w_gl (oQ_in rfl ?_)
        refine ⟨rfl, oQ_in rfl (oQ_in rfl ?_)⟩
        obtain ⟨x31, g32, h12⟩ := bnd h12
        refine wCmp_in (cmp_eq rfl rfl g32) ?_
        refine oQ_in rfl ?_
        refine w_var (oQ_in rfl ?_)
        refine w_var (oQ_in rfl ?_)
        refine vPt_in rfl (vT_in rfl ⟨rfl, oQ_in rfl ?_⟩)
        obtain ⟨x33, g34, h12⟩ := bnd h12
        refine ⟨_, setIx_fl (e := D.bool) (l := s_4) (x := x31) g34, oQ_in (kix_set (.ow <| .ow <| .ow <| .ow <| .ow <| .ow <| .ow <| .nil) rfl) ?_⟩
        refine nxe (ρ2 := [.ow (T.fz (D.int v_houses)), .ow (T.fz (D.list (v_events.map (fun p : (Str × Int) => D.tup [(D.str p.1), (D.int p.2)])))), .ow (T.fl (x33.map D.bool)), .ow (T.fz (D.int y5.1)), .ow (T.fz (D.tup [(D.str y5.2.1), (D.int y5.2.2)])), .ow (T.fz (D.str y5.2.1)), .ow (T.fz (D.int y5.2.2))]) rfl ?_
        refine ss_nil ?_
        obtain rfl := Option.some.inj h12
        exact lpR_nx ⟨_, _, _, _, rfl, Free.ow, Free.ow, Free.ow, Free.ow⟩
    · replace h12 := iff_ c16 h12
      refine tru_f rfl c16 ?_
      refine ⟨fun _ => ?_, fun z => absurd z (by decide)⟩
      refine ss_cons ?_
      refine wp_ret ?_
      refine w_fzvK ?_
      refine w_var (oQ_in rfl ?_)
      refine fzk_fz (d := (D.int y5.1)) ?_
      refine oQ_in rfl ?_
      obtain rfl := Option.some.inj h12
      refine seqK_rt ?_
      refine seqK_rt ?_
      exact lpR_rt (ret_in rfl rfl)
  · rintro s_4 _ rfl ⟨s35, s36, s37, s38, rfl, q35, q36, q37, q38⟩
    refine nxe (ρ2 := [.ow (T.fz (D.int v_houses)), .ow (T.fz (D.list (v_events.map (fun p : (Str × Int) => D.tup [(D.str p.1), (D.int p.2)])))), .ow (T.fl (s_4.map D.bool)), s35, s36, s37, s38]) rfl ?_
    refine ss_cons ?_
    refine wp_ret ?_
    refine w_kst ?_
    refine oQ_in rfl ?_
    obtain rfl := Option.some.inj h
    refine seqK_rt ?_
    exact ret_in rfl rfl
  · rintro b39 t ρ rfl q
    obtain rfl := Option.some.inj h
    refine seqK_rt ?_
    exact q
def p_need_weaving (v_houses : Int) (v_value : List ((Str × Int))) : Option (Unit) :=
  if 800 < (v_value.length : Int) then
    (
    none
    )
  else
    (
    (p_wrong_event v_houses v_value).bind fun r1 =>
    if ¬ r1.isNone = true then
      (
      none
      )
    else
      (
      some ()
      )
    )
theorem m_need_weaving {v_houses : Int} {v_value : List ((Str × Int))} {r : Unit} (h : p_need_weaving v_houses v_value = some r) : F_need_weaving.run [(T.fz (D.int v_houses)), (T.fz (D.list (v_value.map (fun p : (Str × Int) => D.tup [(D.str p.1), (D.int p.2)]))))] = some ((T.fz D.none), []) := by
  unfold p_need_weaving at h
  rw [R_need_weaving]
  refine run_g (ρ := [.ow (T.fz (D.int v_houses)), .ow (T.fz (D.list (v_value.map (fun p : (Str × Int) => D.tup [(D.str p.1), (D.int p.2)])))), .no]) rfl rfl ?_
  refine ss_cons ?_
  refine wp_ite ?_
  refine wt_bool ?_
  refine wb_cons ?_
  refine wt_not ?_
  refine wt_val ?_
  refine w_blt ?_
  refine ws_cons ?_
  refine w_var (oQ_in rfl ?_)
  refine ws_nil ?_
  refine ⟨rfl, ?_⟩
  refine oQ_in rfl ?_
  refine wl_any (t := T.fz (D.bool true)) rfl ?_
  refine oQ_in rfl ?_
  refine oQ_in rfl ?_
  refine ⟨fun _ => ?_, fun z => absurd z (by decide)⟩
  refine wb_one ?_
  refine wt_cmp ?_
  refine w_blt ?_
  refine ws_cons ?_
  refine w_var (oQ_in rfl ?_)
  refine ws_nil ?_
  refine ⟨rfl, ?_⟩
  refine oQ_in rfl ?_
  refine len_list (e := (fun p : (Str × Int) => D.tup [(D.str p.1), (D.int p.2)])) (l := v_value) ?_
  refine w_gl (oQ_in rfl ?_)
  refine ⟨rfl, oQ_in rfl (oQ_in rfl ?_)⟩
  by_cases c1 : 800 < (v_value.length : Int)
  · replace h := ift c1 h
    refine wc_gt_t c1 ?_
    refine ⟨fun _ => ?_, fun z => absurd z (by decide)⟩
    refine ss_cons ?_
    cases h
  · replace h := iff_ c1 h
    refine wc_gt_f c1 ?_
    refine ⟨fun z => absurd z (by decide), fun _ => ?_⟩
    refine ss_nil ?_
    refine nxe (ρ2 := [.ow (T.fz (D.int v_houses)), .ow (T.fz (D.list (v_value.map (fun p : (Str × Int) => D.tup [(D.str p.1), (D.int p.2)])))), .no]) rfl ?_
    refine ss_cons ?_
    refine wp_set ?_
    refine w_fzvK ?_
    refine w_call ?_
    refine ws_cons ?_
    refine w_fzvK ?_
    refine w_var (oQ_in rfl ?_)
    refine fzk_fz (d := (D.int v_houses)) ?_
    refine ws_cons ?_
    refine w_fzvK ?_
    refine w_var (oQ_in rfl ?_)
    refine fzk_fz (d := (D.list (v_value.map (fun p : (Str × Int) => D.tup [(D.str p.1), (D.int p.2)])))) ?_
    refine ws_nil ?_
    refine ⟨rfl, rfl, ?_⟩
    refine oQ_in rfl ?_
    obtain ⟨r2, g3, h⟩ := bnd h
    refine call_g (ρ2 := [.ow (T.fz (D.int v_houses)), .ow (T.fz (D.list (v_value.map (fun p : (Str × Int) => D.tup [(D.str p.1), (D.int p.2)])))), .no]) (.ow <| .ow <| .no <| .nil) rfl (argT_fz (argT_fz argT_nil)) (m_wrong_event g3) rfl rfl rfl ?_
    refine fzk_fz (d := (eO r2)) ?_
    refine set_in (ρ2 := [.ow (T.fz (D.int v_houses)), .ow (T.fz (D.list (v_value.map (fun p : (Str × Int) => D.tup [(D.str p.1), (D.int p.2)])))), .ow (T.fz (eO r2))]) (.ow <| .ow <| .no <| .nil) rfl Free.no rfl ?_
    refine nxe (ρ2 := [.ow (T.fz (D.int v_houses)), .ow (T.fz (D.list (v_value.map (fun p : (Str × Int) => D.tup [(D.str p.1), (D.int p.2)])))), .ow (T.fz (eO r2))]) rfl ?_
    refine ss_cons ?_
    refine wp_ite ?_
    refine wt_cmp ?_
    refine w_var (oQ_in rfl ?_)
    refine w_kst ?_
    refine ⟨rfl, oQ_in rfl (oQ_in rfl ?_)⟩
    by_cases c4 : ¬ r2.isNone = true
    · replace h := ift c4 h
      refine wc_isnotO_t c4 ?_
      refine ⟨fun _ => ?_, fun z => absurd z (by decide)⟩
      refine ss_cons ?_
      cases h
    · replace h := iff_ c4 h
      refine wc_isnotO_f c4 ?_
      refine ⟨fun z => absurd z (by decide), fun _ => ?_⟩
      refine ss_nil ?_
      refine nxe (ρ2 := [.ow (T.fz (D.int v_houses)), .ow (T.fz (D.list (v_value.map (fun p : (Str × Int) => D.tup [(D.str p.1), (D.int p.2)])))), .ow (T.fz (eO r2))]) rfl ?_
      refine ss_nil ?_
      obtain rfl := Option.some.inj h
      exact end_in rfl rfl
def p_deeds_of (v_houses : Int) (v_weaving : List ((Str × Int))) : Option (List ((Int × Int × Option Int × Str))) :=
  (p_need_houses v_houses).bind fun r1 =>
  (p_need_weaving v_houses v_weaving).bind fun r2 =>
  (repG ([none]) v_houses).bind fun x3 =>
  (forP (fun (s_4 : (List ((Int × Int × Option Int × Str)) × List (Option Int))) (y5 : (Int × (Str × Int))) =>
    (
      (deqG (D.str y5.2.1) (D.str (Str.ofString "take"))).bind fun x11 =>
      if x11 = true then
        (
        (stoG s_4.2 y5.2.2 (some (s_4.1.length : Int))).bind fun x12 =>
        (appG s_4.1 ((y5.2.2, y5.1, (), ()).1, (y5.2.2, y5.1, (), ()).2.1, none, (Str.ofString "open"))).bind fun x13 =>
        some (x13, x12)
        )
      else
        (
        (
          (ixG s_4.2 y5.2.2).bind fun x14 =>
          if ¬ x14.isNone = true then
            (
            (ixG s_4.2 y5.2.2).bind fun x15 =>
            (x15).bind fun u16 =>
            (ixG s_4.1 u16).bind fun x17 =>
            (x15).bind fun u18 =>
            (stoG s_4.1 u18 ((y5.2.2, x17.2.1, y5.1, y5.2.1).1, (y5.2.2, x17.2.1, y5.1, y5.2.1).2.1, (some ((y5.2.2, x17.2.1, y5.1, y5.2.1).2.2.1)), (y5.2.2, x17.2.1, y5.1, y5.2.1).2.2.2)).bind fun x19 =>
            (stoG s_4.2 y5.2.2 none).bind fun x20 =>
            some (x19, x20)
            )
          else
            (
            some (s_4.1, s_4.2)
            )
        ).bind fun j21 =>
        some (j21.1, j21.2)
        )
    ).bind fun j22 =>
    some (j22.1, j22.2)
  ) (enumI 0 v_weaving) ([], x3)).bind fun r23 =>
  some r23.1
theorem m_deeds_of {v_houses : Int} {v_weaving : List ((Str × Int))} {r : List ((Int × Int × Option Int × Str))} (h : p_deeds_of v_houses v_weaving = some r) : F_deeds_of.run [(T.fz (D.int v_houses)), (T.fz (D.list (v_weaving.map (fun p : (Str × Int) => D.tup [(D.str p.1), (D.int p.2)]))))] = some ((T.fl (r.map (fun p : (Int × Int × Option Int × Str) => D.tup [(D.int p.1), (D.int p.2.1), (eO p.2.2.1), (D.str p.2.2.2)]))), []) := by
  unfold p_deeds_of at h
  rw [R_deeds_of]
  refine run_g (ρ := [.ow (T.fz (D.int v_houses)), .ow (T.fz (D.list (v_weaving.map (fun p : (Str × Int) => D.tup [(D.str p.1), (D.int p.2)])))), .no, .no, .no, .no, .no, .no, .no]) rfl rfl ?_
  refine ss_cons ?_
  refine wp_exp ?_
  refine w_call ?_
  refine ws_cons ?_
  refine w_fzvK ?_
  refine w_var (oQ_in rfl ?_)
  refine fzk_fz (d := (D.int v_houses)) ?_
  refine ws_nil ?_
  refine ⟨rfl, ?_⟩
  refine oQ_in rfl ?_
  obtain ⟨r1, g2, h⟩ := bnd h
  refine call_g (ρ2 := [.ow (T.fz (D.int v_houses)), .ow (T.fz (D.list (v_weaving.map (fun p : (Str × Int) => D.tup [(D.str p.1), (D.int p.2)])))), .no, .no, .no, .no, .no, .no, .no]) (.ow <| .ow <| .no <| .no <| .no <| .no <| .no <| .no <| .no <| .nil) rfl (argT_fz argT_nil) (m_need_houses g2) rfl rfl rfl ?_
  refine nxe (ρ2 := [.ow (T.fz (D.int v_houses)), .ow (T.fz (D.list (v_weaving.map (fun p : (Str × Int) => D.tup [(D.str p.1), (D.int p.2)])))), .no, .no, .no, .no, .no, .no, .no]) rfl ?_
  refine ss_cons ?_
  refine wp_exp ?_
  refine w_call ?_
  refine ws_cons ?_
  refine w_fzvK ?_
  refine w_var (oQ_in rfl ?_)
  refine fzk_fz (d := (D.int v_houses)) ?_
  refine ws_cons ?_
  refine w_fzvK ?_
  refine w_var (oQ_in rfl ?_)
  refine fzk_fz (d := (D.list (v_weaving.map (fun p : (Str × Int) => D.tup [(D.str p.1), (D.int p.2)])))) ?_
  refine ws_nil ?_
  refine ⟨rfl, rfl, ?_⟩
  refine oQ_in rfl ?_
  obtain ⟨r3, g4, h⟩ := bnd h
  refine call_g (ρ2 := [.ow (T.fz (D.int v_houses)), .ow (T.fz (D.list (v_weaving.map (fun p : (Str × Int) => D.tup [(D.str p.1), (D.int p.2)])))), .no, .no, .no, .no, .no, .no, .no]) (.ow <| .ow <| .no <| .no <| .no <| .no <| .no <| .no <| .no <| .nil) rfl (argT_fz (argT_fz argT_nil)) (m_need_weaving g4) rfl rfl rfl ?_
  refine nxe (ρ2 := [.ow (T.fz (D.int v_houses)), .ow (T.fz (D.list (v_weaving.map (fun p : (Str × Int) => D.tup [(D.str p.1), (D.int p.2)])))), .no, .no, .no, .no, .no, .no, .no]) rfl ?_
  refine ss_cons ?_
  refine wp_par ?_
  refine ws_cons ?_
  refine w_list ?_
  refine ws_nil ?_
  skip
  refine oQ_in rfl ?_
  refine ws_cons ?_
  refine w_bin ?_
  refine w_list ?_
  refine ws_cons ?_
  refine w_kst ?_
  refine ws_nil ?_
  refine ⟨rfl, ?_⟩
  refine oQ_in rfl ?_
  refine w_var (oQ_in rfl ?_)
  refine ⟨rfl, oQ_in rfl (oQ_in rfl ?_)⟩
  obtain ⟨x5, g6, h⟩ := bnd h
  obtain ⟨k7, rfl⟩ := repG_some g6
  refine wb_mulT (mulT_g (e := eO) (l := [none]) k7) ?_
  refine ws_nil ?_
  refine ⟨rfl, rfl, ?_⟩
  refine ⟨rfl, ?_⟩
  refine bvs_cons (ρ2 := [.ow (T.fz (D.int v_houses)), .ow (T.fz (D.list (v_weaving.map (fun p : (Str × Int) => D.tup [(D.str p.1), (D.int p.2)])))), .ow (T.fl (([]).map (fun p : (Int × Int × Option Int × Str) => D.tup [(D.int p.1), (D.int p.2.1), (eO p.2.2.1), (D.str p.2.2.2)]))), .no, .no, .no, .no, .no, .no]) (.ow <| .ow <| .no <| .no <| .no <| .no <| .no <| .no <| .no <| .nil) rfl Free.no rfl ?_
  refine bvs_cons (ρ2 := [.ow (T.fz (D.int v_houses)), .ow (T.fz (D.list (v_weaving.map (fun p : (Str × Int) => D.tup [(D.str p.1), (D.int p.2)])))), .ow (T.fl (([]).map (fun p : (Int × Int × Option Int × Str) => D.tup [(D.int p.1), (D.int p.2.1), (eO p.2.2.1), (D.str p.2.2.2)]))), .ow (T.fl (((List.replicate (v_houses).toNat ([none])).flatten).map eO)), .no, .no, .no, .no, .no]) (.ow <| .ow <| .ow <| .no <| .no <| .no <| .no <| .no <| .no <| .nil) rfl Free.no rfl ?_
  refine bvs_nil ?_
  refine nxe (ρ2 := [.ow (T.fz (D.int v_houses)), .ow (T.fz (D.list (v_weaving.map (fun p : (Str × Int) => D.tup [(D.str p.1), (D.int p.2)])))), .ow (T.fl (([]).map (fun p : (Int × Int × Option Int × Str) => D.tup [(D.int p.1), (D.int p.2.1), (eO p.2.2.1), (D.str p.2.2.2)]))), .ow (T.fl (((List.replicate (v_houses).toNat ([none])).flatten).map eO)), .no, .no, .no, .no, .no]) rfl ?_
  refine ss_cons ?_
  refine wp_for ?_
  refine wi_enum ?_
  refine w_var (oQ_in rfl ?_)
  refine oQ_in rfl (dList_1 rfl ?_)
  obtain ⟨r10, g11, h⟩ := bnd h
  refine loop_cast (enumD_map (e := (fun p : (Str × Int) => D.tup [(D.str p.1), (D.int p.2)])) v_weaving 0) ?_
  refine for_sim (e := (fun p => D.tup [D.int p.1, (D.tup [(D.str p.2.1), (D.int p.2.2)])])) (fun (s_8 : (List ((Int × Int × Option Int × Str)) × List (Option Int))) ρ => ∃ (s12 : Slot) (s13 : Slot) (s14 : Slot) (s15 : Slot) (s16 : Slot), ρ = [.ow (T.fz (D.int v_houses)), .ow (T.fz (D.list (v_weaving.map (fun p : (Str × Int) => D.tup [(D.str p.1), (D.int p.2)])))), .ow (T.fl (s_8.1.map (fun p : (Int × Int × Option Int × Str) => D.tup [(D.int p.1), (D.int p.2.1), (eO p.2.2.1), (D.str p.2.2.2)]))), .ow (T.fl (s_8.2.map eO)), s12, s13, s14, s15, s16] ∧ Free s12 ∧ Free s13 ∧ Free s14 ∧ Free s15 ∧ Free s16) g11 ⟨_, _, _, _, _, rfl, Free.no, Free.no, Free.no, Free.no, Free.no⟩ ?_ ?_
  · rintro y9 s_8 z18 _ _ h17 ⟨s12, s13, s14, s15, s16, rfl, q12, q13, q14, q15, q16⟩
    refine bd_tp rfl ?_
    refine bd_go_cons (ρ2 := [.ow (T.fz (D.int v_houses)), .ow (T.fz (D.list (v_weaving.map (fun p : (Str × Int) => D.tup [(D.str p.1), (D.int p.2)])))), .ow (T.fl (s_8.1.map (fun p : (Int × Int × Option Int × Str) => D.tup [(D.int p.1), (D.int p.2.1), (eO p.2.2.1), (D.str p.2.2.2)]))), .ow (T.fl (s_8.2.map eO)), .ow (T.fz (D.int y9.1)), s13, s14, s15, s16]) (.ow <| .ow <| .ow <| .ow <| .fr q12 <| .fr q13 <| .fr q14 <| .fr q15 <| .fr q16 <| .nil) rfl q12 rfl ?_
    refine bd_go_cons (ρ2 := [.ow (T.fz (D.int v_houses)), .ow (T.fz (D.list (v_weaving.map (fun p : (Str × Int) => D.tup [(D.str p.1), (D.int p.2)])))), .ow (T.fl (s_8.1.map (fun p : (Int × Int × Option Int × Str) => D.tup [(D.int p.1), (D.int p.2.1), (eO p.2.2.1), (D.str p.2.2.2)]))), .ow (T.fl (s_8.2.map eO)), .ow (T.fz (D.int y9.1)), .ow (T.fz (D.tup [(D.str y9.2.1), (D.int y9.2.2)])), s14, s15, s16]) (.ow <| .ow <| .ow <| .ow <| .ow <| .fr q13 <| .fr q14 <| .fr q15 <| .fr q16 <| .nil) rfl q13 rfl ?_
    refine bd_go_nil ?_
    refine ss_cons ?_
    refine wp_setT ?_
    refine w_fzvK ?_
    refine w_var (oQ_in rfl ?_)
    refine fzk_fz (d := (D.tup [(D.str y9.2.1), (D.int y9.2.2)])) ?_
    refine vTup_1 rfl ?_
    refine bts_cons (ρ2 := [.ow (T.fz (D.int v_houses)), .ow (T.fz (D.list (v_weaving.map (fun p : (Str × Int) => D.tup [(D.str p.1), (D.int p.2)])))), .ow (T.fl (s_8.1.map (fun p : (Int × Int × Option Int × Str) => D.tup [(D.int p.1), (D.int p.2.1), (eO p.2.2.1), (D.str p.2.2.2)]))), .ow (T.fl (s_8.2.map eO)), .ow (T.fz (D.int y9.1)), .ow (T.fz (D.tup [(D.str y9.2.1), (D.int y9.2.2)])), .ow (T.fz (D.str y9.2.1)), s15, s16]) (.ow <| .ow <| .ow <| .ow <| .ow <| .ow <| .fr q14 <| .fr q15 <| .fr q16 <| .nil) rfl q14 rfl ?_
    refine bts_cons (ρ2 := [.ow (T.fz (D.int v_houses)), .ow (T.fz (D.list (v_weaving.map (fun p : (Str × Int) => D.tup [(D.str p.1), (D.int p.2)])))), .ow (T.fl (s_8.1.map (fun p : (Int × Int × Option Int × Str) => D.tup [(D.int p.1), (D.int p.2.1), (eO p.2.2.1), (D.str p.2.2.2)]))), .ow (T.fl (s_8.2.map eO)), .ow (T.fz (D.int y9.1)), .ow (T.fz (D.tup [(D.str y9.2.1), (D.int y9.2.2)])), .ow (T.fz (D.str y9.2.1)), .ow (T.fz (D.int y9.2.2)), s16]) (.ow <| .ow <| .ow <| .ow <| .ow <| .ow <| .ow <| .fr q15 <| .fr q16 <| .nil) rfl q15 rfl ?_
    refine bts_nil ?_
    refine nxe (ρ2 := [.ow (T.fz (D.int v_houses)), .ow (T.fz (D.list (v_weaving.map (fun p : (Str × Int) => D.tup [(D.str p.1), (D.int p.2)])))), .ow (T.fl (s_8.1.map (fun p : (Int × Int × Option Int × Str) => D.tup [(D.int p.1), (D.int p.2.1), (eO p.2.2.1), (D.str p.2.2.2)]))), .ow (T.fl (s_8.2.map eO)), .ow (T.fz (D.int y9.1)), .ow (T.fz (D.tup [(D.str y9.2.1), (D.int y9.2.2)])), .ow (T.fz (D.str y9.2.1)), .ow (T.fz (D.int y9.2.2)), s16]) rfl ?_
    refine ss_cons ?_
    refine wp_ite ?_
    obtain ⟨j19, e20, h17⟩ := bnd h17
    refine wt_cmp ?_
    refine w_var (oQ_in rfl ?_)
    refine w_gl (oQ_in rfl ?_)
    refine ⟨rfl, oQ_in rfl (oQ_in rfl ?_)⟩
    obtain ⟨x21, g22, e20⟩ := bnd e20
    by_cases c23 : x21 = true
    · replace e20 := ift c23 e20
      refine wCmp_in_t (cmp_eq rfl rfl g22) c23 ?_
      refine ⟨fun _ => ?_, fun z => absurd z (by decide)⟩
      refine ss_cons ?_
      refine wp_sto ?_
      refine w_blt ?_
      refine ws_cons ?_
      refine w_var (oQ_in rfl ?_)
      refine ws_nil ?_
      refine ⟨rfl, ?_⟩
      refine oQ_in rfl ?_
      refine len_fl (e := (fun p : (Int × Int × Option Int × Str) => D.tup [(D.int p.1), (D.int p.2.1), (eO p.2.2.1), (D.str p.2.2.2)])) (l := s_8.1) ?_
      refine oQ_in rfl ?_
      refine w_var (oQ_in rfl ?_)
      refine w_var (oQ_in rfl ?_)
      refine vPt_in rfl (vT_in rfl ⟨rfl, oQ_in rfl ?_⟩)
      obtain ⟨x24, g25, e20⟩ := bnd e20
      refine ⟨_, setIx_fl (e := eO) (l := s_8.2) (x := (some (s_8.1.length : Int))) g25, oQ_in (kix_set (.ow <| .ow <| .ow <| .ow <| .ow <| .ow <| .ow <| .ow <| .fr q16 <| .nil) rfl) ?_⟩
      refine nxe (ρ2 := [.ow (T.fz (D.int v_houses)), .ow (T.fz (D.list (v_weaving.map (fun p : (Str × Int) => D.tup [(D.str p.1), (D.int p.2)])))), .ow (T.fl (s_8.1.map (fun p : (Int × Int × Option Int × Str) => D.tup [(D.int p.1), (D.int p.2.1), (eO p.2.2.1), (D.str p.2.2.2)]))), .ow (T.fl (x24.map eO)), .ow (T.fz (D.int y9.1)), .ow (T.fz (D.tup [(D.str y9.2.1), (D.int y9.2.2)])), .ow (T.fz (D.str y9.2.1)), .ow (T.fz (D.int y9.2.2)), s16]) rfl ?_
      refine ss_cons ?_
      refine wp_app ?_
      refine w_var (oQ_in rfl ?_)
      refine vPt_in rfl ⟨⟨_, rfl⟩, ?_⟩
      refine w_fzvK ?_
      refine w_tup ?_
      refine ws_cons ?_
      refine w_fzvK ?_
      refine w_var (oQ_in rfl ?_)
      refine fzk_fz (d := (D.int y9.2.2)) ?_
      refine ws_cons ?_
      refine w_fzvK ?_
      refine w_var (oQ_in rfl ?_)
      refine fzk_fz (d := (D.int y9.1)) ?_
      refine ws_cons ?_
      refine w_kst ?_
      refine ws_cons ?_
      refine w_kst ?_
      refine ws_nil ?_
      refine ⟨rfl, rfl, rfl, rfl, ?_⟩
      refine oQ_in rfl ?_
      refine fzk_fz (d := (D.tup [(D.int ((y9.2.2, y9.1, (), ()).1)), (D.int ((y9.2.2, y9.1, (), ()).2.1)), D.none, (D.str (Str.ofString "open"))])) ?_
      obtain ⟨x26, g27, e20⟩ := bnd e20
      obtain ⟨k28, rfl⟩ := appG_some g27
      refine oQ_in rfl ⟨rfl, oQ_in rfl ⟨_, appT_fl (e := (fun p : (Int × Int × Option Int × Str) => D.tup [(D.int p.1), (D.int p.2.1), (eO p.2.2.1), (D.str p.2.2.2)])) (l := s_8.1) (x := ((y9.2.2, y9.1, (), ()).1, (y9.2.2, y9.1, (), ()).2.1, none, (Str.ofString "open"))) k28, oQ_in rfl ?_⟩⟩
      refine nxe (ρ2 := [.ow (T.fz (D.int v_houses)), .ow (T.fz (D.list (v_weaving.map (fun p : (Str × Int) => D.tup [(D.str p.1), (D.int p.2)])))), .ow (T.fl ((s_8.1 ++ [((y9.2.2, y9.1, (), ()).1, (y9.2.2, y9.1, (), ()).2.1, none, (Str.ofString "open"))]).map (fun p : (Int × Int × Option Int × Str) => D.tup [(D.int p.1), (D.int p.2.1), (eO p.2.2.1), (D.str p.2.2.2)]))), .ow (T.fl (x24.map eO)), .ow (T.fz (D.int y9.1)), .ow (T.fz (D.tup [(D.str y9.2.1), (D.int y9.2.2)])), .ow (T.fz (D.str y9.2.1)), .ow (T.fz (D.int y9.2.2)), s16]) rfl ?_
      refine ss_nil ?_
      obtain rfl := Option.some.inj e20
      refine nxe (ρ2 := [.ow (T.fz (D.int v_houses)), .ow (T.fz (D.list (v_weaving.map (fun p : (Str × Int) => D.tup [(D.str p.1), (D.int p.2)])))), .ow (T.fl ((s_8.1 ++ [((y9.2.2, y9.1, (), ()).1, (y9.2.2, y9.1, (), ()).2.1, none, (Str.ofString "open"))]).map (fun p : (Int × Int × Option Int × Str) => D.tup [(D.int p.1), (D.int p.2.1), (eO p.2.2.1), (D.str p.2.2.2)]))), .ow (T.fl (x24.map eO)), .ow (T.fz (D.int y9.1)), .ow (T.fz (D.tup [(D.str y9.2.1), (D.int y9.2.2)])), .ow (T.fz (D.str y9.2.1)), .ow (T.fz (D.int y9.2.2)), s16]) rfl ?_
      refine ss_nil ?_
      obtain rfl := Option.some.inj h17
      exact lpN_nx ⟨_, _, _, _, _, rfl, Free.ow, Free.ow, Free.ow, Free.ow, q16⟩
    · replace e20 := iff_ c23 e20
      refine wCmp_in_f (cmp_eq rfl rfl g22) c23 ?_
      refine ⟨fun z => absurd z (by decide), fun _ => ?_⟩
      refine ss_cons ?_
      refine wp_ite ?_
      obtain ⟨j29, e30, e20⟩ := bnd e20
      refine wt_cmp ?_
      refine w_ix ?_
      refine w_var (oQ_in rfl ?_)
      refine w_var (oQ_in rfl ?_)
      refine vT_in rfl ⟨rfl, oQ_in rfl ?_⟩
      obtain ⟨x31, g32, e30⟩ := bnd e30
      refine wIx_2 rfl (ixVal_fl (e := eO) (l := s_8.2) (x := x31) g32 rfl) ?_
      refine w_kst ?_
      refine ⟨rfl, oQ_in rfl (oQ_in rfl ?_)⟩
      by_cases c33 : ¬ x31.isNone = true
      · replace e30 := ift c33 e30
        refine wc_isnotO_t c33 ?_
        refine ⟨fun _ => ?_, fun z => absurd z (by decide)⟩
        refine ss_cons ?_
        refine wp_set ?_
        refine w_fzvK ?_
        refine w_ix ?_
        refine w_var (oQ_in rfl ?_)
        refine w_var (oQ_in rfl ?_)
        refine vT_in rfl ⟨rfl, oQ_in rfl ?_⟩
        obtain ⟨x34, g35, e30⟩ := bnd e30
        refine wIx_2 rfl (ixVal_fl (e := eO) (l := s_8.2) (x := x34) g35 rfl) ?_
        refine fzk_fz (d := (eO x34)) ?_
        refine set_in (ρ2 := [.ow (T.fz (D.int v_houses)), .ow (T.fz (D.list (v_weaving.map (fun p : (Str × Int) => D.tup [(D.str p.1), (D.int p.2)])))), .ow (T.fl (s_8.1.map (fun p : (Int × Int × Option Int × Str) => D.tup [(D.int p.1), (D.int p.2.1), (eO p.2.2.1), (D.str p.2.2.2)]))), .ow (T.fl (s_8.2.map eO)), .ow (T.fz (D.int y9.1)), .ow (T.fz (D.tup [(D.str y9.2.1), (D.int y9.2.2)])), .ow (T.fz (D.str y9.2.1)), .ow (T.fz (D.int y9.2.2)), .ow (T.fz (eO x34))]) (.ow <| .ow <| .ow <| .ow <| .ow <| .ow <| .ow <| .ow <| .fr q16 <| .nil) rfl q16 rfl ?_
        refine nxe (ρ2 := [.ow (T.fz (D.int v_houses)), .ow (T.fz (D.list (v_weaving.map (fun p : (Str × Int) => D.tup [(D.str p.1), (D.int p.2)])))), .ow (T.fl (s_8.1.map (fun p : (Int × Int × Option Int × Str) => D.tup [(D.int p.1), (D.int p.2.1), (eO p.2.2.1), (D.str p.2.2.2)]))), .ow (T.fl (s_8.2.map eO)), .ow (T.fz (D.int y9.1)), .ow (T.fz (D.tup [(D.str y9.2.1), (D.int y9.2.2)])), .ow (T.fz (D.str y9.2.1)), .ow (T.fz (D.int y9.2.2)), .ow (T.fz (eO x34))]) rfl ?_
        refine ss_cons ?_
        refine wp_sto ?_
        refine w_fzvK ?_
        refine w_tup ?_
        refine ws_cons ?_
        refine w_fzvK ?_
        refine w_var (oQ_in rfl ?_)
        refine fzk_fz (d := (D.int y9.2.2)) ?_
        refine ws_cons ?_
        refine w_fzvK ?_
        refine w_ix ?_
        refine w_ix ?_
        refine w_var (oQ_in rfl ?_)
        refine w_var (oQ_in rfl ?_)
        obtain ⟨u36, g37, e30⟩ := bnd e30
        subst g37
        refine vT_in rfl ⟨rfl, oQ_in rfl ?_⟩
        obtain ⟨x38, g39, e30⟩ := bnd e30
        refine wIx_2 rfl (ixVal_fl (e := (fun p : (Int × Int × Option Int × Str) => D.tup [(D.int p.1), (D.int p.2.1), (eO p.2.2.1), (D.str p.2.2.2)])) (l := s_8.1) (x := x38) g39 rfl) ?_
        refine w_kst ?_
        refine vT_in rfl ⟨rfl, oQ_in rfl ?_⟩
        refine wIx_2 rfl (v := .t (.fz (D.int x38.2.1))) rfl ?_
        refine fzk_fz (d := (D.int x38.2.1)) ?_
        refine ws_cons ?_
        refine w_fzvK ?_
        refine w_var (oQ_in rfl ?_)
        refine fzk_fz (d := (D.int y9.1)) ?_
        refine ws_cons ?_
        refine w_fzvK ?_
        refine w_var (oQ_in rfl ?_)
        refine fzk_fz (d := (D.str y9.2.1)) ?_
        refine ws_nil ?_
        refine ⟨rfl, rfl, rfl, rfl, ?_⟩
        refine oQ_in rfl ?_
        refine fzk_fz (d := (D.tup [(D.int ((y9.2.2, x38.2.1, y9.1, y9.2.1).1)), (D.int ((y9.2.2, x38.2.1, y9.1, y9.2.1).2.1)), (D.int ((y9.2.2, x38.2.1, y9.1, y9.2.1).2.2.1)), (D.str ((y9.2.2, x38.2.1, y9.1, y9.2.1).2.2.2))])) ?_
        refine oQ_in rfl ?_
        refine w_var (oQ_in rfl ?_)
        refine w_var (oQ_in rfl ?_)
        obtain ⟨u40, g41, e30⟩ := bnd e30
        rw [g41]
        refine vPt_in rfl (vT_in rfl ⟨rfl, oQ_in rfl ?_⟩)
        obtain ⟨x42, g43, e30⟩ := bnd e30
        refine ⟨_, setIx_fl (e := (fun p : (Int × Int × Option Int × Str) => D.tup [(D.int p.1), (D.int p.2.1), (eO p.2.2.1), (D.str p.2.2.2)])) (l := s_8.1) (x := ((y9.2.2, x38.2.1, y9.1, y9.2.1).1, (y9.2.2, x38.2.1, y9.1, y9.2.1).2.1, (some ((y9.2.2, x38.2.1, y9.1, y9.2.1).2.2.1)), (y9.2.2, x38.2.1, y9.1, y9.2.1).2.2.2)) g43, oQ_in (kix_set (.ow <| .ow <| .ow <| .ow <| .ow <| .ow <| .ow <| .ow <| .ow <| .nil) rfl) ?_⟩
        refine nxe (ρ2 := [.ow (T.fz (D.int v_houses)), .ow (T.fz (D.list (v_weaving.map (fun p : (Str × Int) => D.tup [(D.str p.1), (D.int p.2)])))), .ow (T.fl (x42.map (fun p : (Int × Int × Option Int × Str) => D.tup [(D.int p.1), (D.int p.2.1), (eO p.2.2.1), (D.str p.2.2.2)]))), .ow (T.fl (s_8.2.map eO)), .ow (T.fz (D.int y9.1)), .ow (T.fz (D.tup [(D.str y9.2.1), (D.int y9.2.2)])), .ow (T.fz (D.str y9.2.1)), .ow (T.fz (D.int y9.2.2)), .ow (T.fz (eO (some u40)))]) rfl ?_
        refine ss_cons ?_
        refine wp_sto ?_
        refine w_kst ?_
        refine oQ_in rfl ?_
        refine w_var (oQ_in rfl ?_)
        refine w_var (oQ_in rfl ?_)
        refine vPt_in rfl (vT_in rfl ⟨rfl, oQ_in rfl ?_⟩)
        obtain ⟨x44, g45, e30⟩ := bnd e30
        refine ⟨_, setIx_fl (e := eO) (l := s_8.2) (x := none) g45, oQ_in (kix_set (.ow <| .ow <| .ow <| .ow <| .ow <| .ow <| .ow <| .ow <| .ow <| .nil) rfl) ?_⟩
        refine nxe (ρ2 := [.ow (T.fz (D.int v_houses)), .ow (T.fz (D.list (v_weaving.map (fun p : (Str × Int) => D.tup [(D.str p.1), (D.int p.2)])))), .ow (T.fl (x42.map (fun p : (Int × Int × Option Int × Str) => D.tup [(D.int p.1), (D.int p.2.1), (eO p.2.2.1), (D.str p.2.2.2)]))), .ow (T.fl (x44.map eO)), .ow (T.fz (D.int y9.1)), .ow (T.fz (D.tup [(D.str y9.2.1), (D.int y9.2.2)])), .ow (T.fz (D.str y9.2.1)), .ow (T.fz (D.int y9.2.2)), .ow (T.fz (eO (some u40)))]) rfl ?_
        refine ss_nil ?_
        obtain rfl := Option.some.inj e30
        refine nxe (ρ2 := [.ow (T.fz (D.int v_houses)), .ow (T.fz (D.list (v_weaving.map (fun p : (Str × Int) => D.tup [(D.str p.1), (D.int p.2)])))), .ow (T.fl (x42.map (fun p : (Int × Int × Option Int × Str) => D.tup [(D.int p.1), (D.int p.2.1), (eO p.2.2.1), (D.str p.2.2.2)]))), .ow (T.fl (x44.map eO)), .ow (T.fz (D.int y9.1)), .ow (T.fz (D.tup [(D.str y9.2.1), (D.int y9.2.2)])), .ow (T.fz (D.str y9.2.1)), .ow (T.fz (D.int y9.2.2)), .ow (T.fz (eO (some u40)))]) rfl ?_
        refine ss_nil ?_
        obtain rfl := Option.some.inj e20
        refine nxe (ρ2 := [.ow (T.fz (D.int v_houses)), .ow (T.fz (D.list (v_weaving.map (fun p : (Str × Int) => D.tup [(D.str p.1), (D.int p.2)])))), .ow (T.fl (x42.map (fun p : (Int × Int × Option Int × Str) => D.tup [(D.int p.1), (D.int p.2.1), (eO p.2.2.1), (D.str p.2.2.2)]))), .ow (T.fl (x44.map eO)), .ow (T.fz (D.int y9.1)), .ow (T.fz (D.tup [(D.str y9.2.1), (D.int y9.2.2)])), .ow (T.fz (D.str y9.2.1)), .ow (T.fz (D.int y9.2.2)), .ow (T.fz (eO (some u40)))]) rfl ?_
        refine ss_nil ?_
        obtain rfl := Option.some.inj h17
        exact lpN_nx ⟨_, _, _, _, _, rfl, Free.ow, Free.ow, Free.ow, Free.ow, Free.ow⟩
      · replace e30 := iff_ c33 e30
        refine wc_isnotO_f c33 ?_
        refine ⟨fun z => absurd z (by decide), fun _ => ?_⟩
        refine ss_nil ?_
        obtain rfl := Option.some.inj e30
        refine nxe (ρ2 := [.ow (T.fz (D.int v_houses)), .ow (T.fz (D.list (v_weaving.map (fun p : (Str × Int) => D.tup [(D.str p.1), (D.int p.2)])))), .ow (T.fl (s_8.1.map (fun p : (Int × Int × Option Int × Str) => D.tup [(D.int p.1), (D.int p.2.1), (eO p.2.2.1), (D.str p.2.2.2)]))), .ow (T.fl (s_8.2.map eO)), .ow (T.fz (D.int y9.1)), .ow (T.fz (D.tup [(D.str y9.2.1), (D.int y9.2.2)])), .ow (T.fz (D.str y9.2.1)), .ow (T.fz (D.int y9.2.2)), s16]) rfl ?_
        refine ss_nil ?_
        obtain rfl := Option.some.inj e20
        refine nxe (ρ2 := [.ow (T.fz (D.int v_houses)), .ow (T.fz (D.list (v_weaving.map (fun p : (Str × Int) => D.tup [(D.str p.1), (D.int p.2)])))), .ow (T.fl (s_8.1.map (fun p : (Int × Int × Option Int × Str) => D.tup [(D.int p.1), (D.int p.2.1), (eO p.2.2.1), (D.str p.2.2.2)]))), .ow (T.fl (s_8.2.map eO)), .ow (T.fz (D.int y9.1)), .ow (T.fz (D.tup [(D.str y9.2.1), (D.int y9.2.2)])), .ow (T.fz (D.str y9.2.1)), .ow (T.fz (D.int y9.2.2)), s16]) rfl ?_
        refine ss_nil ?_
        obtain rfl := Option.some.inj h17
        exact lpN_nx ⟨_, _, _, _, _, rfl, Free.ow, Free.ow, Free.ow, Free.ow, q16⟩
  · rintro _ ⟨s46, s47, s48, s49, s50, rfl, q46, q47, q48, q49, q50⟩
    refine nxe (ρ2 := [.ow (T.fz (D.int v_houses)), .ow (T.fz (D.list (v_weaving.map (fun p : (Str × Int) => D.tup [(D.str p.1), (D.int p.2)])))), .ow (T.fl (r10.1.map (fun p : (Int × Int × Option Int × Str) => D.tup [(D.int p.1), (D.int p.2.1), (eO p.2.2.1), (D.str p.2.2.2)]))), .ow (T.fl (r10.2.map eO)), s46, s47, s48, s49, s50]) rfl ?_
    refine ss_cons ?_
    refine wp_ret ?_
    refine w_mvK (ρ2 := [.ow (T.fz (D.int v_houses)), .ow (T.fz (D.list (v_weaving.map (fun p : (Str × Int) => D.tup [(D.str p.1), (D.int p.2)])))), .no, .ow (T.fl (r10.2.map eO)), s46, s47, s48, s49, s50]) (.ow <| .ow <| .ow <| .ow <| .fr q46 <| .fr q47 <| .fr q48 <| .fr q49 <| .fr q50 <| .nil) rfl rfl ?_
    refine oQ_in rfl ?_
    obtain rfl := Option.some.inj h
    refine seqK_rt ?_
    exact ret_in rfl rfl
def p_need_number (v_value : Int) (v_least : Int) (v_most : Int) : Option (Unit) :=
  (p_is_integer v_value v_least v_most).bind fun r1 =>
  if r1 = true then
    (
    some ()
    )
  else
    (
    none
    )
theorem m_need_number {v_value : Int} {v_least : Int} {v_most : Int} {r : Unit} (h : p_need_number v_value v_least v_most = some r) : F_need_number.run [(T.fz (D.int v_value)), (T.fz (D.int v_least)), (T.fz (D.int v_most))] = some ((T.fz D.none), []) := by
  unfold p_need_number at h
  rw [R_need_number]
  refine run_g (ρ := [.ow (T.fz (D.int v_value)), .ow (T.fz (D.int v_least)), .ow (T.fz (D.int v_most))]) rfl rfl ?_
  refine ss_cons ?_
  refine wp_ite ?_
  refine wt_not ?_
  refine wt_val ?_
  refine w_call ?_
  refine ws_cons ?_
  refine w_fzvK ?_
  refine w_var (oQ_in rfl ?_)
  refine fzk_fz (d := (D.int v_value)) ?_
  refine ws_cons ?_
  refine w_fzvK ?_
  refine w_var (oQ_in rfl ?_)
  refine fzk_fz (d := (D.int v_least)) ?_
  refine ws_cons ?_
  refine w_fzvK ?_
  refine w_var (oQ_in rfl ?_)
  refine fzk_fz (d := (D.int v_most)) ?_
  refine ws_nil ?_
  refine ⟨rfl, rfl, rfl, ?_⟩
  refine oQ_in rfl ?_
  obtain ⟨r1, g2, h⟩ := bnd h
  refine call_g (ρ2 := [.ow (T.fz (D.int v_value)), .ow (T.fz (D.int v_least)), .ow (T.fz (D.int v_most))]) (.ow <| .ow <| .ow <| .nil) rfl (argT_fz (argT_fz (argT_fz argT_nil))) (m_is_integer g2) rfl rfl rfl ?_
  refine oQ_in rfl ?_
  by_cases c3 : r1 = true
  · replace h := ift c3 h
    refine tru_t rfl c3 ?_
    refine ⟨fun z => absurd z (by decide), fun _ => ?_⟩
    refine ss_nil ?_
    refine nxe (ρ2 := [.ow (T.fz (D.int v_value)), .ow (T.fz (D.int v_least)), .ow (T.fz (D.int v_most))]) rfl ?_
    refine ss_nil ?_
    obtain rfl := Option.some.inj h
    exact end_in rfl rfl
  · replace h := iff_ c3 h
    refine tru_f rfl c3 ?_
    refine ⟨fun _ => ?_, fun z => absurd z (by decide)⟩
    refine ss_cons ?_
    cases h
def p_without_house (v_houses : Int) (v_weaving : List ((Str × Int))) (v_house : Int) : Option (List ((Str × Int))) :=
  (p_need_houses v_houses).bind fun r1 =>
  (p_need_weaving v_houses v_weaving).bind fun r2 =>
  (p_need_number v_house 0 (v_houses - 1)).bind fun r3 =>
  (lcG (fun y4 : (Str × Int) =>
    if ¬ y4.2 = v_house then
      (
      some (some y4)
      )
    else
      (
      some none
      )
  ) v_weaving).bind fun r5 =>
  some r5
theorem m_without_house {v_houses : Int} {v_weaving : List ((Str × Int))} {v_house : Int} {r : List ((Str × Int))} (h : p_without_house v_houses v_weaving v_house = some r) : F_without_house.run [(T.fz (D.int v_houses)), (T.fz (D.list (v_weaving.map (fun p : (Str × Int) => D.tup [(D.str p.1), (D.int p.2)])))), (T.fz (D.int v_house))] = some ((T.fl (r.map (fun p : (Str × Int) => D.tup [(D.str p.1), (D.int p.2)]))), []) := by
  unfold p_without_house at h
  rw [R_without_house]
  refine run_g (ρ := [.ow (T.fz (D.int v_houses)), .ow (T.fz (D.list (v_weaving.map (fun p : (Str × Int) => D.tup [(D.str p.1), (D.int p.2)])))), .ow (T.fz (D.int v_house)), .no]) rfl rfl ?_
  refine ss_cons ?_
  refine wp_exp ?_
  refine w_call ?_
  refine ws_cons ?_
  refine w_fzvK ?_
  refine w_var (oQ_in rfl ?_)
  refine fzk_fz (d := (D.int v_houses)) ?_
  refine ws_nil ?_
  refine ⟨rfl, ?_⟩
  refine oQ_in rfl ?_
  obtain ⟨r1, g2, h⟩ := bnd h
  refine call_g (ρ2 := [.ow (T.fz (D.int v_houses)), .ow (T.fz (D.list (v_weaving.map (fun p : (Str × Int) => D.tup [(D.str p.1), (D.int p.2)])))), .ow (T.fz (D.int v_house)), .no]) (.ow <| .ow <| .ow <| .no <| .nil) rfl (argT_fz argT_nil) (m_need_houses g2) rfl rfl rfl ?_
  refine nxe (ρ2 := [.ow (T.fz (D.int v_houses)), .ow (T.fz (D.list (v_weaving.map (fun p : (Str × Int) => D.tup [(D.str p.1), (D.int p.2)])))), .ow (T.fz (D.int v_house)), .no]) rfl ?_
  refine ss_cons ?_
  refine wp_exp ?_
  refine w_call ?_
  refine ws_cons ?_
  refine w_fzvK ?_
  refine w_var (oQ_in rfl ?_)
  refine fzk_fz (d := (D.int v_houses)) ?_
  refine ws_cons ?_
  refine w_fzvK ?_
  refine w_var (oQ_in rfl ?_)
  refine fzk_fz (d := (D.list (v_weaving.map (fun p : (Str × Int) => D.tup [(D.str p.1), (D.int p.2)])))) ?_
  refine ws_nil ?_
  refine ⟨rfl, rfl, ?_⟩
  refine oQ_in rfl ?_
  obtain ⟨r3, g4, h⟩ := bnd h
  refine call_g (ρ2 := [.ow (T.fz (D.int v_houses)), .ow (T.fz (D.list (v_weaving.map (fun p : (Str × Int) => D.tup [(D.str p.1), (D.int p.2)])))), .ow (T.fz (D.int v_house)), .no]) (.ow <| .ow <| .ow <| .no <| .nil) rfl (argT_fz (argT_fz argT_nil)) (m_need_weaving g4) rfl rfl rfl ?_
  refine nxe (ρ2 := [.ow (T.fz (D.int v_houses)), .ow (T.fz (D.list (v_weaving.map (fun p : (Str × Int) => D.tup [(D.str p.1), (D.int p.2)])))), .ow (T.fz (D.int v_house)), .no]) rfl ?_
  refine ss_cons ?_
  refine wp_exp ?_
  refine w_call ?_
  refine ws_cons ?_
  refine w_fzvK ?_
  refine w_var (oQ_in rfl ?_)
  refine fzk_fz (d := (D.int v_house)) ?_
  refine ws_cons ?_
  refine w_kst ?_
  refine ws_cons ?_
  refine w_bin ?_
  refine w_var (oQ_in rfl ?_)
  refine w_kst ?_
  refine ⟨rfl, oQ_in rfl (oQ_in rfl ?_)⟩
  refine wb_sub ?_
  refine ws_nil ?_
  refine ⟨rfl, rfl, rfl, ?_⟩
  refine oQ_in rfl ?_
  obtain ⟨r5, g6, h⟩ := bnd h
  refine call_g (ρ2 := [.ow (T.fz (D.int v_houses)), .ow (T.fz (D.list (v_weaving.map (fun p : (Str × Int) => D.tup [(D.str p.1), (D.int p.2)])))), .ow (T.fz (D.int v_house)), .no]) (.ow <| .ow <| .ow <| .no <| .nil) rfl (argT_fz (argT_fz (argT_fz argT_nil))) (m_need_number g6) rfl rfl rfl ?_
  refine nxe (ρ2 := [.ow (T.fz (D.int v_houses)), .ow (T.fz (D.list (v_weaving.map (fun p : (Str × Int) => D.tup [(D.str p.1), (D.int p.2)])))), .ow (T.fz (D.int v_house)), .no]) rfl ?_
  refine ss_cons ?_
  refine wp_ret ?_
  refine w_lc ?_
  refine wi_seq ?_
  refine w_var (oQ_in rfl ?_)
  refine oQ_in rfl (dSeq_1 rfl ?_)
  obtain ⟨r8, g9, h⟩ := bnd h
  obtain ⟨g9, k10⟩ := lcG_some g9
  refine ⟨rfl, loopC_cast rfl ?_⟩
  refine lc_sim (e := (fun p : (Str × Int) => D.tup [(D.str p.1), (D.int p.2)])) (e2 := (fun p : (Str × Int) => D.tup [(D.str p.1), (D.int p.2)])) (l := v_weaving) (r := r8) (fun ρ => ρ = [.ow (T.fz (D.int v_houses)), .ow (T.fz (D.list (v_weaving.map (fun p : (Str × Int) => D.tup [(D.str p.1), (D.int p.2)])))), .ow (T.fz (D.int v_house)), .no]) g9 (wipe_1 (.ow <| .ow <| .ow <| .no <| .nil) rfl) ?_ ?_
  · rintro y7 o12 _ _ h11 rfl
    refine bd_nm (ρ2 := [.ow (T.fz (D.int v_houses)), .ow (T.fz (D.list (v_weaving.map (fun p : (Str × Int) => D.tup [(D.str p.1), (D.int p.2)])))), .ow (T.fz (D.int v_house)), .ow (T.fz (D.tup [(D.str y7.1), (D.int y7.2)]))]) (.ow <| .ow <| .ow <| .no <| .nil) rfl Free.no rfl ?_
    refine lcB_some ?_
    refine wt_cmp ?_
    refine w_ix ?_
    refine w_var (oQ_in rfl ?_)
    refine w_kst ?_
    refine vT_in rfl ⟨rfl, oQ_in rfl ?_⟩
    refine wIx_2 rfl (v := .t (.fz (D.int y7.2))) rfl ?_
    refine w_var (oQ_in rfl ?_)
    refine ⟨rfl, oQ_in rfl (oQ_in rfl ?_)⟩
    by_cases c13 : ¬ y7.2 = v_house
    · replace h11 := ift c13 h11
      refine wc_ne_t c13 ?_
      refine ⟨fun _ => ?_, fun z => absurd z (by decide)⟩
      refine w_fzvK ?_
      refine w_var (oQ_in rfl ?_)
      refine fzk_fz (d := (D.tup [(D.str y7.1), (D.int y7.2)])) ?_
      refine oQ_in rfl ⟨⟨y7, (Option.some.inj h11).symm, rfl⟩, (wipe_1 (.ow <| .ow <| .ow <| .ow <| .nil) rfl)⟩
    · replace h11 := iff_ c13 h11
      refine wc_ne_f c13 ?_
      exact ⟨fun z => absurd z (by decide), fun _ => ⟨(Option.some.inj h11).symm, (wipe_1 (.ow <| .ow <| .ow <| .ow <| .nil) rfl)⟩⟩
  · rintro _ rfl
    refine ⟨fzs_len k10, ?_⟩
    refine oQ_in rfl ?_
    obtain rfl := Option.some.inj h
    refine seqK_rt ?_
    exact ret_in rfl rfl
def p_is_weaving (v_houses : Int) (v_value : List ((Str × Int))) : Option (Bool) :=
  (p_need_houses v_houses).bind fun r1 =>
  (
    (
      if (v_value.length : Int) ≤ 800 then
        (
        (p_wrong_event v_houses v_value).bind fun r2 =>
        some r2.isNone
        )
      else
        (
        some false
        )
    ).bind fun x3 =>
    some x3
  ).bind fun x4 =>
  some x4
theorem m_is_weaving {v_houses : Int} {v_value : List ((Str × Int))} {r : Bool} (h : p_is_weaving v_houses v_value = some r) : F_is_weaving.run [(T.fz (D.int v_houses)), (T.fz (D.list (v_value.map (fun p : (Str × Int) => D.tup [(D.str p.1), (D.int p.2)]))))] = some ((T.fz (D.bool r)), []) := by
  unfold p_is_weaving at h
  rw [R_is_weaving]
  refine run_g (ρ := [.ow (T.fz (D.int v_houses)), .ow (T.fz (D.list (v_value.map (fun p : (Str × Int) => D.tup [(D.str p.1), (D.int p.2)]))))]) rfl rfl ?_
  refine ss_cons ?_
  refine wp_exp ?_
  refine w_call ?_
  refine ws_cons ?_
  refine w_fzvK ?_
  refine w_var (oQ_in rfl ?_)
  refine fzk_fz (d := (D.int v_houses)) ?_
  refine ws_nil ?_
  refine ⟨rfl, ?_⟩
  refine oQ_in rfl ?_
  obtain ⟨r1, g2, h⟩ := bnd h
  refine call_g (ρ2 := [.ow (T.fz (D.int v_houses)), .ow (T.fz (D.list (v_value.map (fun p : (Str × Int) => D.tup [(D.str p.1), (D.int p.2)]))))]) (.ow <| .ow <| .nil) rfl (argT_fz argT_nil) (m_need_houses g2) rfl rfl rfl ?_
  refine nxe (ρ2 := [.ow (T.fz (D.int v_houses)), .ow (T.fz (D.list (v_value.map (fun p : (Str × Int) => D.tup [(D.str p.1), (D.int p.2)]))))]) rfl ?_
  refine ss_cons ?_
  refine wp_ret ?_
  refine w_boolop ?_
  refine w_blt ?_
  refine ws_cons ?_
  refine w_var (oQ_in rfl ?_)
  refine ws_nil ?_
  refine ⟨rfl, ?_⟩
  refine oQ_in rfl ?_
  refine wl_any (t := T.fz (D.bool true)) rfl ?_
  refine vBool_in rfl ?_
  obtain ⟨x3, e4, h⟩ := bnd h
  refine ⟨fun _ => ?_, fun z => absurd z (by simp [])⟩
  refine w_boolop ?_
  refine w_cmp ?_
  refine w_blt ?_
  refine ws_cons ?_
  refine w_var (oQ_in rfl ?_)
  refine ws_nil ?_
  refine ⟨rfl, ?_⟩
  refine oQ_in rfl ?_
  refine len_list (e := (fun p : (Str × Int) => D.tup [(D.str p.1), (D.int p.2)])) (l := v_value) ?_
  refine w_gl (oQ_in rfl ?_)
  refine ⟨rfl, oQ_in rfl (oQ_in rfl ?_)⟩
  refine wc_le ?_
  refine vBool_in rfl ?_
  obtain ⟨x5, e6, e4⟩ := bnd e4
  by_cases c7 : (v_value.length : Int) ≤ 800
  · replace e6 := ift c7 e6
    refine ⟨fun _ => ?_, fun z => absurd z (by simp [c7])⟩
    refine w_cmp ?_
    refine w_call ?_
    refine ws_cons ?_
    refine w_fzvK ?_
    refine w_var (oQ_in rfl ?_)
    refine fzk_fz (d := (D.int v_houses)) ?_
    refine ws_cons ?_
    refine w_fzvK ?_
    refine w_var (oQ_in rfl ?_)
    refine fzk_fz (d := (D.list (v_value.map (fun p : (Str × Int) => D.tup [(D.str p.1), (D.int p.2)])))) ?_
    refine ws_nil ?_
    refine ⟨rfl, rfl, ?_⟩
    refine oQ_in rfl ?_
    obtain ⟨r8, g9, e6⟩ := bnd e6
    refine call_g (ρ2 := [.ow (T.fz (D.int v_houses)), .ow (T.fz (D.list (v_value.map (fun p : (Str × Int) => D.tup [(D.str p.1), (D.int p.2)]))))]) (.ow <| .ow <| .nil) rfl (argT_fz (argT_fz argT_nil)) (m_wrong_event g9) rfl rfl rfl ?_
    refine w_kst ?_
    refine ⟨rfl, oQ_in rfl (oQ_in rfl ?_)⟩
    refine wc_is (b := r8.isNone) (isNone_eO _) ?_
    obtain rfl := Option.some.inj e6
    obtain rfl := Option.some.inj e4
    refine oQ_in rfl ?_
    obtain rfl := Option.some.inj h
    refine seqK_rt ?_
    exact ret_in rfl rfl
  · replace e6 := iff_ c7 e6
    refine ⟨fun z => absurd z (by simp [c7]), fun _ => ?_⟩
    obtain rfl := Option.some.inj e6
    obtain rfl := Option.some.inj e4
    refine oQ_in rfl ?_
    obtain rfl := Option.some.inj h
    refine seqK_rt ?_
    exact ret_in rfl rfl
def p__law_right (v_source : List Int) (v_firms : Int) (v_acts : List ((Str × Int))) : Option ((Bool × List Int)) :=
  (reprG (D.list (v_acts.map (fun p : (Str × Int) => D.tup [(D.str p.1), (D.int p.2)])))).bind fun x1 =>
  (p__law_deeds v_acts).bind fun r2 =>
  (p_deeds_of v_firms v_acts).bind fun r3 =>
  (p_deeds_of v_firms v_acts).bind fun r4 =>
  (reprG (D.list [(D.list (((r3, r4).1).map (fun p : (Int × Int × Option Int × Str) => D.tup [(D.int p.1), (D.int p.2.1), (eO p.2.2.1), (D.str p.2.2.2)]))), (D.list (((r3, r4).2).map (fun p : (Int × Int × Option Int × Str) => D.tup [(D.int p.1), (D.int p.2.1), (eO p.2.2.1), (D.str p.2.2.2)])))])).bind fun x5 =>
  (reprG (D.list (([r2, r2]).map (eL (fun p : (Int × Int × Option Int × Str) => D.tup [(D.int p.1), (D.int p.2.1), (eO p.2.2.1), (D.str p.2.2.2)]))))).bind fun x6 =>
  (deqG (D.str x5) (D.str x6)).bind fun x7 =>
  if ¬ x7 = true then
    (
    some (false, v_source)
    )
  else
    (
    (appG (((r3, r4).1).map (fun p : (Int × Int × Option Int × Str) => D.tup [(D.int p.1), (D.int p.2.1), (eO p.2.2.1), (D.str p.2.2.2)])) D.none).bind fun x8 =>
    (p_deeds_of v_firms v_acts).bind fun r9 =>
    (deqG (D.list (r9.map (fun p : (Int × Int × Option Int × Str) => D.tup [(D.int p.1), (D.int p.2.1), (eO p.2.2.1), (D.str p.2.2.2)]))) (D.list (r2.map (fun p : (Int × Int × Option Int × Str) => D.tup [(D.int p.1), (D.int p.2.1), (eO p.2.2.1), (D.str p.2.2.2)])))).bind fun x10 =>
    if ¬ x10 = true then
      (
      some (false, v_source)
      )
    else
      (
      (p__law_draw v_source v_firms).bind fun r11 =>
      (lcG (fun y12 : (Str × Int) =>
        if ¬ y12.2 = r11.1 then
          (
          some (some y12)
          )
        else
          (
          some none
          )
      ) v_acts).bind fun r13 =>
      (p_without_house v_firms v_acts r11.1).bind fun r14 =>
      (p_without_house v_firms v_acts r11.1).bind fun r15 =>
      (reprG (D.list [(D.list (((r14, r15).1).map (fun p : (Str × Int) => D.tup [(D.str p.1), (D.int p.2)]))), (D.list (((r14, r15).2).map (fun p : (Str × Int) => D.tup [(D.str p.1), (D.int p.2)])))])).bind fun x16 =>
      (reprG (D.list (([r13, r13]).map (eL (fun p : (Str × Int) => D.tup [(D.str p.1), (D.int p.2)]))))).bind fun x17 =>
      (deqG (D.str x16) (D.str x17)).bind fun x18 =>
      if ¬ x18 = true then
        (
        some (false, r11.2)
        )
      else
        (
        (p_is_weaving v_firms r13).bind fun r19 =>
        if r19 = true then
          (
          (reprG (D.list (v_acts.map (fun p : (Str × Int) => D.tup [(D.str p.1), (D.int p.2)])))).bind fun x20 =>
          (deqG (D.str x20) (D.str x1)).bind fun x21 =>
          if ¬ x21 = true then
            (
            some (false, r11.2)
            )
          else
            (
            (appG (((r14, r15).1).map (fun p : (Str × Int) => D.tup [(D.str p.1), (D.int p.2)])) D.none).bind fun x22 =>
            (p_without_house v_firms v_acts r11.1).bind fun r23 =>
            (deqG (D.list (r23.map (fun p : (Str × Int) => D.tup [(D.str p.1), (D.int p.2)]))) (D.list (r13.map (fun p : (Str × Int) => D.tup [(D.str p.1), (D.int p.2)])))).bind fun x24 =>
            if ¬ x24 = true then
              (
              some (false, r11.2)
              )
            else
              (
              (p_deeds_of v_firms r13).bind fun r25 =>
              (lcG (fun y26 : (Int × Int × Option Int × Str) =>
                some (some (y26.1, y26.2.2.2))
              ) r25).bind fun r27 =>
              (lcG (fun y28 : (Int × Int × Option Int × Str) =>
                if ¬ y28.1 = r11.1 then
                  (
                  some (some (y28.1, y28.2.2.2))
                  )
                else
                  (
                  some none
                  )
              ) r2).bind fun r29 =>
              (deqG (D.list (r27.map (fun p : (Int × Str) => D.tup [(D.int p.1), (D.str p.2)]))) (D.list (r29.map (fun p : (Int × Str) => D.tup [(D.int p.1), (D.str p.2)])))).bind fun x30 =>
              some (x30, r11.2)
              )
            )
          )
        else
          (
          some (false, r11.2)
          )
        )
      )
    )
theorem m__law_right {v_source : List Int} {v_firms : Int} {v_acts : List ((Str × Int))} {r : (Bool × List Int)} (h : p__law_right v_source v_firms v_acts = some r) : F__law_right.run [(T.fl (v_source.map D.int)), (T.fz (D.int v_firms)), (T.fz (D.list (v_acts.map (fun p : (Str × Int) => D.tup [(D.str p.1), (D.int p.2)]))))] = some ((T.fz (D.bool r.1)), [(T.fl (r.2.map D.int))]) := by
  unfold p__law_right at h
  rw [R__law_right]
  refine run_g (ρ := [.io (T.fl (v_source.map D.int)), .ow (T.fz (D.int v_firms)), .ow (T.fz (D.list (v_acts.map (fun p : (Str × Int) => D.tup [(D.str p.1), (D.int p.2)])))), .no, .no, .no, .no, .no, .no, .no, .no, .no, .no]) rfl rfl ?_
  refine ss_cons ?_
  refine wp_par ?_
  refine ws_cons ?_
  refine w_blt ?_
  refine ws_cons ?_
  refine w_var (oQ_in rfl ?_)
  refine ws_nil ?_
  refine ⟨rfl, ?_⟩
  refine oQ_in rfl ?_
  obtain ⟨x1, g2, h⟩ := bnd h
  obtain ⟨k3, rfl⟩ := reprG_some g2
  refine wl_any (repr_g (d := (D.list (v_acts.map (fun p : (Str × Int) => D.tup [(D.str p.1), (D.int p.2)])))) rfl k3) ?_
  refine ws_cons ?_
  refine w_fzvK ?_
  refine w_call ?_
  refine ws_cons ?_
  refine w_fzvK ?_
  refine w_var (oQ_in rfl ?_)
  refine fzk_fz (d := (D.list (v_acts.map (fun p : (Str × Int) => D.tup [(D.str p.1), (D.int p.2)])))) ?_
  refine ws_nil ?_
  refine ⟨rfl, ?_⟩
  refine oQ_in rfl ?_
  obtain ⟨r4, g5, h⟩ := bnd h
  refine call_g (ρ2 := [.io (T.fl (v_source.map D.int)), .ow (T.fz (D.int v_firms)), .ow (T.fz (D.list (v_acts.map (fun p : (Str × Int) => D.tup [(D.str p.1), (D.int p.2)])))), .no, .no, .no, .no, .no, .no, .no, .no, .no, .no]) (.io <| .ow <| .ow <| .no <| .no <| .no <| .no <| .no <| .no <| .no <| .no <| .no <| .no <| .nil) rfl (argT_fz argT_nil) (m__law_deeds g5) rfl rfl rfl ?_
  refine fzk_fz (d := (D.list (r4.map (fun p : (Int × Int × Option Int × Str) => D.tup [(D.int p.1), (D.int p.2.1), (eO p.2.2.1), (D.str p.2.2.2)])))) ?_
  refine ws_nil ?_
  refine ⟨rfl, rfl, ?_⟩
  refine ⟨rfl, ?_⟩
  refine bvs_cons (ρ2 := [.io (T.fl (v_source.map D.int)), .ow (T.fz (D.int v_firms)), .ow (T.fz (D.list (v_acts.map (fun p : (Str × Int) => D.tup [(D.str p.1), (D.int p.2)])))), .ow (T.fz (D.str ((D.list (v_acts.map (fun p : (Str × Int) => D.tup [(D.str p.1), (D.int p.2)]))).toPy.shown))), .no, .no, .no, .no, .no, .no, .no, .no, .no]) (.io <| .ow <| .ow <| .no <| .no <| .no <| .no <| .no <| .no <| .no <| .no <| .no <| .no <| .nil) rfl Free.no rfl ?_
  refine bvs_cons (ρ2 := [.io (T.fl (v_source.map D.int)), .ow (T.fz (D.int v_firms)), .ow (T.fz (D.list (v_acts.map (fun p : (Str × Int) => D.tup [(D.str p.1), (D.int p.2)])))), .ow (T.fz (D.str ((D.list (v_acts.map (fun p : (Str × Int) => D.tup [(D.str p.1), (D.int p.2)]))).toPy.shown))), .ow (T.fz (D.list (r4.map (fun p : (Int × Int × Option Int × Str) => D.tup [(D.int p.1), (D.int p.2.1), (eO p.2.2.1), (D.str p.2.2.2)])))), .no, .no, .no, .no, .no, .no, .no, .no]) (.io <| .ow <| .ow <| .ow <| .no <| .no <| .no <| .no <| .no <| .no <| .no <| .no <| .no <| .nil) rfl Free.no rfl ?_
  refine bvs_nil ?_
  refine nxe (ρ2 := [.io (T.fl (v_source.map D.int)), .ow (T.fz (D.int v_firms)), .ow (T.fz (D.list (v_acts.map (fun p : (Str × Int) => D.tup [(D.str p.1), (D.int p.2)])))), .ow (T.fz (D.str ((D.list (v_acts.map (fun p : (Str × Int) => D.tup [(D.str p.1), (D.int p.2)]))).toPy.shown))), .ow (T.fz (D.list (r4.map (fun p : (Int × Int × Option Int × Str) => D.tup [(D.int p.1), (D.int p.2.1), (eO p.2.2.1), (D.str p.2.2.2)])))), .no, .no, .no, .no, .no, .no, .no, .no]) rfl ?_
  refine ss_cons ?_
  refine wp_set ?_
  refine w_list ?_
  refine ws_cons ?_
  refine w_call ?_
  refine ws_cons ?_
  refine w_fzvK ?_
  refine w_var (oQ_in rfl ?_)
  refine fzk_fz (d := (D.int v_firms)) ?_
  refine ws_cons ?_
  refine w_fzvK ?_
  refine w_var (oQ_in rfl ?_)
  refine fzk_fz (d := (D.list (v_acts.map (fun p : (Str × Int) => D.tup [(D.str p.1), (D.int p.2)])))) ?_
  refine ws_nil ?_
  refine ⟨rfl, rfl, ?_⟩
  refine oQ_in rfl ?_
  obtain ⟨r6, g7, h⟩ := bnd h
  refine call_g (ρ2 := [.io (T.fl (v_source.map D.int)), .ow (T.fz (D.int v_firms)), .ow (T.fz (D.list (v_acts.map (fun p : (Str × Int) => D.tup [(D.str p.1), (D.int p.2)])))), .ow (T.fz (D.str ((D.list (v_acts.map (fun p : (Str × Int) => D.tup [(D.str p.1), (D.int p.2)]))).toPy.shown))), .ow (T.fz (D.list (r4.map (fun p : (Int × Int × Option Int × Str) => D.tup [(D.int p.1), (D.int p.2.1), (eO p.2.2.1), (D.str p.2.2.2)])))), .no, .no, .no, .no, .no, .no, .no, .no]) (.io <| .ow <| .ow <| .ow <| .ow <| .no <| .no <| .no <| .no <| .no <| .no <| .no <| .no <| .nil) rfl (argT_fz (argT_fz argT_nil)) (m_deeds_of g7) rfl rfl rfl ?_
  refine ws_cons ?_
  refine w_callk ?_
  refine ws_cons ?_
  refine w_fzvK ?_
  refine w_var (oQ_in rfl ?_)
  refine fzk_fz (d := (D.list (v_acts.map (fun p : (Str × Int) => D.tup [(D.str p.1), (D.int p.2)])))) ?_
  refine ws_cons ?_
  refine w_fzvK ?_
  refine w_var (oQ_in rfl ?_)
  refine fzk_fz (d := (D.int v_firms)) ?_
  refine ws_nil ?_
  refine ⟨rfl, rfl, ?_⟩
  refine oQ_in rfl ?_
  refine oQ_in rfl ?_
  obtain ⟨r8, g9, h⟩ := bnd h
  refine call_g (ρ2 := [.io (T.fl (v_source.map D.int)), .ow (T.fz (D.int v_firms)), .ow (T.fz (D.list (v_acts.map (fun p : (Str × Int) => D.tup [(D.str p.1), (D.int p.2)])))), .ow (T.fz (D.str ((D.list (v_acts.map (fun p : (Str × Int) => D.tup [(D.str p.1), (D.int p.2)]))).toPy.shown))), .ow (T.fz (D.list (r4.map (fun p : (Int × Int × Option Int × Str) => D.tup [(D.int p.1), (D.int p.2.1), (eO p.2.2.1), (D.str p.2.2.2)])))), .no, .no, .no, .no, .no, .no, .no, .no]) (.io <| .ow <| .ow <| .ow <| .ow <| .no <| .no <| .no <| .no <| .no <| .no <| .no <| .no <| .nil) rfl (argT_fz (argT_fz argT_nil)) (m_deeds_of g9) rfl rfl rfl ?_
  refine ws_nil ?_
  refine ⟨rfl, rfl, ?_⟩
  refine oQ_in rfl ?_
  refine set_in (ρ2 := [.io (T.fl (v_source.map D.int)), .ow (T.fz (D.int v_firms)), .ow (T.fz (D.list (v_acts.map (fun p : (Str × Int) => D.tup [(D.str p.1), (D.int p.2)])))), .ow (T.fz (D.str ((D.list (v_acts.map (fun p : (Str × Int) => D.tup [(D.str p.1), (D.int p.2)]))).toPy.shown))), .ow (T.fz (D.list (r4.map (fun p : (Int × Int × Option Int × Str) => D.tup [(D.int p.1), (D.int p.2.1), (eO p.2.2.1), (D.str p.2.2.2)])))), .ow (T.lst [(T.fl (((r6, r8).1).map (fun p : (Int × Int × Option Int × Str) => D.tup [(D.int p.1), (D.int p.2.1), (eO p.2.2.1), (D.str p.2.2.2)]))), (T.fl (((r6, r8).2).map (fun p : (Int × Int × Option Int × Str) => D.tup [(D.int p.1), (D.int p.2.1), (eO p.2.2.1), (D.str p.2.2.2)])))]), .no, .no, .no, .no, .no, .no, .no]) (.io <| .ow <| .ow <| .ow <| .ow <| .no <| .no <| .no <| .no <| .no <| .no <| .no <| .no <| .nil) rfl Free.no rfl ?_
  refine nxe (ρ2 := [.io (T.fl (v_source.map D.int)), .ow (T.fz (D.int v_firms)), .ow (T.fz (D.list (v_acts.map (fun p : (Str × Int) => D.tup [(D.str p.1), (D.int p.2)])))), .ow (T.fz (D.str ((D.list (v_acts.map (fun p : (Str × Int) => D.tup [(D.str p.1), (D.int p.2)]))).toPy.shown))), .ow (T.fz (D.list (r4.map (fun p : (Int × Int × Option Int × Str) => D.tup [(D.int p.1), (D.int p.2.1), (eO p.2.2.1), (D.str p.2.2.2)])))), .ow (T.lst [(T.fl (((r6, r8).1).map (fun p : (Int × Int × Option Int × Str) => D.tup [(D.int p.1), (D.int p.2.1), (eO p.2.2.1), (D.str p.2.2.2)]))), (T.fl (((r6, r8).2).map (fun p : (Int × Int × Option Int × Str) => D.tup [(D.int p.1), (D.int p.2.1), (eO p.2.2.1), (D.str p.2.2.2)])))]), .no, .no, .no, .no, .no, .no, .no]) rfl ?_
  refine ss_cons ?_
  refine wp_ite ?_
  refine wt_cmp ?_
  refine w_blt ?_
  refine ws_cons ?_
  refine w_var (oQ_in rfl ?_)
  refine ws_nil ?_
  refine ⟨rfl, ?_⟩
  refine oQ_in rfl ?_
  obtain ⟨x10, g11, h⟩ := bnd h
  obtain ⟨k12, rfl⟩ := reprG_some g11
  refine wl_any (repr_g (d := (D.list [(D.list (((r6, r8).1).map (fun p : (Int × Int × Option Int × Str) => D.tup [(D.int p.1), (D.int p.2.1), (eO p.2.2.1), (D.str p.2.2.2)]))), (D.list (((r6, r8).2).map (fun p : (Int × Int × Option Int × Str) => D.tup [(D.int p.1), (D.int p.2.1), (eO p.2.2.1), (D.str p.2.2.2)])))])) (by simp only [T.toD, T.toDs, fl_toD]) k12) ?_
  refine w_blt ?_
  refine ws_cons ?_
  refine w_list ?_
  refine ws_cons ?_
  refine w_fzvK ?_
  refine w_var (oQ_in rfl ?_)
  refine fzk_fz (d := (D.list (r4.map (fun p : (Int × Int × Option Int × Str) => D.tup [(D.int p.1), (D.int p.2.1), (eO p.2.2.1), (D.str p.2.2.2)])))) ?_
  refine ws_cons ?_
  refine w_fzvK ?_
  refine w_var (oQ_in rfl ?_)
  refine fzk_fz (d := (D.list (r4.map (fun p : (Int × Int × Option Int × Str) => D.tup [(D.int p.1), (D.int p.2.1), (eO p.2.2.1), (D.str p.2.2.2)])))) ?_
  refine ws_nil ?_
  refine ⟨rfl, rfl, ?_⟩
  refine oQ_in rfl ?_
  refine ws_nil ?_
  refine ⟨rfl, ?_⟩
  refine oQ_in rfl ?_
  obtain ⟨x13, g14, h⟩ := bnd h
  obtain ⟨k15, rfl⟩ := reprG_some g14
  refine wl_any (repr_g (d := (D.list (([r4, r4]).map (eL (fun p : (Int × Int × Option Int × Str) => D.tup [(D.int p.1), (D.int p.2.1), (eO p.2.2.1), (D.str p.2.2.2)]))))) (fl_toD (([r4, r4]).map (eL (fun p : (Int × Int × Option Int × Str) => D.tup [(D.int p.1), (D.int p.2.1), (eO p.2.2.1), (D.str p.2.2.2)])))) k15) ?_
  refine ⟨rfl, oQ_in rfl (oQ_in rfl ?_)⟩
  obtain ⟨x16, g17, h⟩ := bnd h
  by_cases c18 : ¬ x16 = true
  · replace h := ift c18 h
    refine wCmp_inN_t (cmp_eq rfl rfl g17) c18 ?_
    refine ⟨fun _ => ?_, fun z => absurd z (by decide)⟩
    refine ss_cons ?_
    refine wp_ret ?_
    refine w_kst ?_
    refine oQ_in rfl ?_
    obtain rfl := Option.some.inj h
    refine seqK_rt ?_
    refine seqK_rt ?_
    exact ret_in rfl rfl
  · replace h := iff_ c18 h
    refine wCmp_inN_f (cmp_eq rfl rfl g17) c18 ?_
    refine ⟨fun z => absurd z (by decide), fun _ => ?_⟩
    refine ss_nil ?_
    refine nxe (ρ2 := [.io (T.fl (v_source.map D.int)), .ow (T.fz (D.int v_firms)), .ow (T.fz (D.list (v_acts.map (fun p : (Str × Int) => D.tup [(D.str p.1), (D.int p.2)])))), .ow (T.fz (D.str ((D.list (v_acts.map (fun p : (Str × Int) => D.tup [(D.str p.1), (D.int p.2)]))).toPy.shown))), .ow (T.fz (D.list (r4.map (fun p : (Int × Int × Option Int × Str) => D.tup [(D.int p.1), (D.int p.2.1), (eO p.2.2.1), (D.str p.2.2.2)])))), .ow (T.lst [(T.fl (((r6, r8).1).map (fun p : (Int × Int × Option Int × Str) => D.tup [(D.int p.1), (D.int p.2.1), (eO p.2.2.1), (D.str p.2.2.2)]))), (T.fl (((r6, r8).2).map (fun p : (Int × Int × Option Int × Str) => D.tup [(D.int p.1), (D.int p.2.1), (eO p.2.2.1), (D.str p.2.2.2)])))]), .no, .no, .no, .no, .no, .no, .no]) rfl ?_
    refine ss_cons ?_
    refine wp_app ?_
    refine w_ix ?_
    refine w_var (oQ_in rfl ?_)
    refine w_kst ?_
    refine vT_in rfl ⟨rfl, oQ_in rfl ?_⟩
    refine wIx_2 rfl (v := .pt 5 (some 0)) rfl ?_
    refine vPt_in rfl ⟨⟨_, rfl⟩, ?_⟩
    refine w_kst ?_
    obtain ⟨x19, g20, h⟩ := bnd h
    obtain ⟨k21, rfl⟩ := appG_some g20
    refine oQ_in rfl ⟨rfl, oQ_in rfl ⟨_, appT_fz (l := (((r6, r8).1).map (fun p : (Int × Int × Option Int × Str) => D.tup [(D.int p.1), (D.int p.2.1), (eO p.2.2.1), (D.str p.2.2.2)]))) (d := D.none) k21, oQ_in rfl ?_⟩⟩
    refine nxe (ρ2 := [.io (T.fl (v_source.map D.int)), .ow (T.fz (D.int v_firms)), .ow (T.fz (D.list (v_acts.map (fun p : (Str × Int) => D.tup [(D.str p.1), (D.int p.2)])))), .ow (T.fz (D.str ((D.list (v_acts.map (fun p : (Str × Int) => D.tup [(D.str p.1), (D.int p.2)]))).toPy.shown))), .ow (T.fz (D.list (r4.map (fun p : (Int × Int × Option Int × Str) => D.tup [(D.int p.1), (D.int p.2.1), (eO p.2.2.1), (D.str p.2.2.2)])))), (.ow (T.lst [(T.fl ((((r6, r8).1).map (fun p : (Int × Int × Option Int × Str) => D.tup [(D.int p.1), (D.int p.2.1), (eO p.2.2.1), (D.str p.2.2.2)])) ++ [D.none])), (T.fl (((r6, r8).2).map (fun p : (Int × Int × Option Int × Str) => D.tup [(D.int p.1), (D.int p.2.1), (eO p.2.2.1), (D.str p.2.2.2)])))])), .no, .no, .no, .no, .no, .no, .no]) rfl ?_
    refine ss_cons ?_
    refine wp_ite ?_
    refine wt_cmp ?_
    refine w_call ?_
    refine ws_cons ?_
    refine w_fzvK ?_
    refine w_var (oQ_in rfl ?_)
    refine fzk_fz (d := (D.int v_firms)) ?_
    refine ws_cons ?_
    refine w_fzvK ?_
    refine w_var (oQ_in rfl ?_)
    refine fzk_fz (d := (D.list (v_acts.map (fun p : (Str × Int) => D.tup [(D.str p.1), (D.int p.2)])))) ?_
    refine ws_nil ?_
    refine ⟨rfl, rfl, ?_⟩
    refine oQ_in rfl ?_
    obtain ⟨r22, g23, h⟩ := bnd h
    refine call_g (ρ2 := [.io (T.fl (v_source.map D.int)), .ow (T.fz (D.int v_firms)), .ow (T.fz (D.list (v_acts.map (fun p : (Str × Int) => D.tup [(D.str p.1), (D.int p.2)])))), .ow (T.fz (D.str ((D.list (v_acts.map (fun p : (Str × Int) => D.tup [(D.str p.1), (D.int p.2)]))).toPy.shown))), .ow (T.fz (D.list (r4.map (fun p : (Int × Int × Option Int × Str) => D.tup [(D.int p.1), (D.int p.2.1), (eO p.2.2.1), (D.str p.2.2.2)])))), (.ow (T.lst [(T.fl ((((r6, r8).1).map (fun p : (Int × Int × Option Int × Str) => D.tup [(D.int p.1), (D.int p.2.1), (eO p.2.2.1), (D.str p.2.2.2)])) ++ [D.none])), (T.fl (((r6, r8).2).map (fun p : (Int × Int × Option Int × Str) => D.tup [(D.int p.1), (D.int p.2.1), (eO p.2.2.1), (D.str p.2.2.2)])))])), .no, .no, .no, .no, .no, .no, .no]) (.io <| .ow <| .ow <| .ow <| .ow <| .fr Free.ow <| .no <| .no <| .no <| .no <| .no <| .no <| .no <| .nil) rfl (argT_fz (argT_fz argT_nil)) (m_deeds_of g23) rfl rfl rfl ?_
    refine w_var (oQ_in rfl ?_)
    refine ⟨rfl, oQ_in rfl (oQ_in rfl ?_)⟩
    obtain ⟨x24, g25, h⟩ := bnd h
    by_cases c26 : ¬ x24 = true
    · replace h := ift c26 h
      refine wCmp_inN_t (cmp_eq (fl_toD (r22.map (fun p : (Int × Int × Option Int × Str) => D.tup [(D.int p.1), (D.int p.2.1), (eO p.2.2.1), (D.str p.2.2.2)]))) rfl g25) c26 ?_
      refine ⟨fun _ => ?_, fun z => absurd z (by decide)⟩
      refine ss_cons ?_
      refine wp_ret ?_
      refine w_kst ?_
      refine oQ_in rfl ?_
      obtain rfl := Option.some.inj h
      refine seqK_rt ?_
      refine seqK_rt ?_
      exact ret_in rfl rfl
    · replace h := iff_ c26 h
      refine wCmp_inN_f (cmp_eq (fl_toD (r22.map (fun p : (Int × Int × Option Int × Str) => D.tup [(D.int p.1), (D.int p.2.1), (eO p.2.2.1), (D.str p.2.2.2)]))) rfl g25) c26 ?_
      refine ⟨fun z => absurd z (by decide), fun _ => ?_⟩
      refine ss_nil ?_
      refine nxe (ρ2 := [.io (T.fl (v_source.map D.int)), .ow (T.fz (D.int v_firms)), .ow (T.fz (D.list (v_acts.map (fun p : (Str × Int) => D.tup [(D.str p.1), (D.int p.2)])))), .ow (T.fz (D.str ((D.list (v_acts.map (fun p : (Str × Int) => D.tup [(D.str p.1), (D.int p.2)]))).toPy.shown))), .ow (T.fz (D.list (r4.map (fun p : (Int × Int × Option Int × Str) => D.tup [(D.int p.1), (D.int p.2.1), (eO p.2.2.1), (D.str p.2.2.2)])))), (.ow (T.lst [(T.fl ((((r6, r8).1).map (fun p : (Int × Int × Option Int × Str) => D.tup [(D.int p.1), (D.int p.2.1), (eO p.2.2.1), (D.str p.2.2.2)])) ++ [D.none])), (T.fl (((r6, r8).2).map (fun p : (Int × Int × Option Int × Str) => D.tup [(D.int p.1), (D.int p.2.1), (eO p.2.2.1), (D.str p.2.2.2)])))])), .no, .no, .no, .no, .no, .no, .no]) rfl ?_
      refine ss_cons ?_
      refine wp_set ?_
      refine w_fzvK ?_
      refine w_call ?_
      refine ws_cons ?_
      refine w_var (oQ_in rfl ?_)
      refine ws_cons ?_
      refine w_fzvK ?_
      refine w_var (oQ_in rfl ?_)
      refine fzk_fz (d := (D.int v_firms)) ?_
      refine ws_nil ?_
      refine ⟨rfl, rfl, ?_⟩
      refine oQ_in rfl ?_
      obtain ⟨r27, g28, h⟩ := bnd h
      refine call_g (ρ2 := [.io (T.fl (r27.2.map D.int)), .ow (T.fz (D.int v_firms)), .ow (T.fz (D.list (v_acts.map (fun p : (Str × Int) => D.tup [(D.str p.1), (D.int p.2)])))), .ow (T.fz (D.str ((D.list (v_acts.map (fun p : (Str × Int) => D.tup [(D.str p.1), (D.int p.2)]))).toPy.shown))), .ow (T.fz (D.list (r4.map (fun p : (Int × Int × Option Int × Str) => D.tup [(D.int p.1), (D.int p.2.1), (eO p.2.2.1), (D.str p.2.2.2)])))), (.ow (T.lst [(T.fl ((((r6, r8).1).map (fun p : (Int × Int × Option Int × Str) => D.tup [(D.int p.1), (D.int p.2.1), (eO p.2.2.1), (D.str p.2.2.2)])) ++ [D.none])), (T.fl (((r6, r8).2).map (fun p : (Int × Int × Option Int × Str) => D.tup [(D.int p.1), (D.int p.2.1), (eO p.2.2.1), (D.str p.2.2.2)])))])), .no, .no, .no, .no, .no, .no, .no]) (.io <| .ow <| .ow <| .ow <| .ow <| .fr Free.ow <| .no <| .no <| .no <| .no <| .no <| .no <| .no <| .nil) rfl (argT_io rfl (argT_fz argT_nil)) (m__law_draw g28) rfl rfl rfl ?_
      refine fzk_fz (d := (D.int r27.1)) ?_
      refine set_in (ρ2 := [.io (T.fl (r27.2.map D.int)), .ow (T.fz (D.int v_firms)), .ow (T.fz (D.list (v_acts.map (fun p : (Str × Int) => D.tup [(D.str p.1), (D.int p.2)])))), .ow (T.fz (D.str ((D.list (v_acts.map (fun p : (Str × Int) => D.tup [(D.str p.1), (D.int p.2)]))).toPy.shown))), .ow (T.fz (D.list (r4.map (fun p : (Int × Int × Option Int × Str) => D.tup [(D.int p.1), (D.int p.2.1), (eO p.2.2.1), (D.str p.2.2.2)])))), (.ow (T.lst [(T.fl ((((r6, r8).1).map (fun p : (Int × Int × Option Int × Str) => D.tup [(D.int p.1), (D.int p.2.1), (eO p.2.2.1), (D.str p.2.2.2)])) ++ [D.none])), (T.fl (((r6, r8).2).map (fun p : (Int × Int × Option Int × Str) => D.tup [(D.int p.1), (D.int p.2.1), (eO p.2.2.1), (D.str p.2.2.2)])))])), .ow (T.fz (D.int r27.1)), .no, .no, .no, .no, .no, .no]) (.io <| .ow <| .ow <| .ow <| .ow <| .fr Free.ow <| .no <| .no <| .no <| .no <| .no <| .no <| .no <| .nil) rfl Free.no rfl ?_
      refine nxe (ρ2 := [.io (T.fl (r27.2.map D.int)), .ow (T.fz (D.int v_firms)), .ow (T.fz (D.list (v_acts.map (fun p : (Str × Int) => D.tup [(D.str p.1), (D.int p.2)])))), .ow (T.fz (D.str ((D.list (v_acts.map (fun p : (Str × Int) => D.tup [(D.str p.1), (D.int p.2)]))).toPy.shown))), .ow (T.fz (D.list (r4.map (fun p : (Int × Int × Option Int × Str) => D.tup [(D.int p.1), (D.int p.2.1), (eO p.2.2.1), (D.str p.2.2.2)])))), (.ow (T.lst [(T.fl ((((r6, r8).1).map (fun p : (Int × Int × Option Int × Str) => D.tup [(D.int p.1), (D.int p.2.1), (eO p.2.2.1), (D.str p.2.2.2)])) ++ [D.none])), (T.fl (((r6, r8).2).map (fun p : (Int × Int × Option Int × Str) => D.tup [(D.int p.1), (D.int p.2.1), (eO p.2.2.1), (D.str p.2.2.2)])))])), .ow (T.fz (D.int r27.1)), .no, .no, .no, .no, .no, .no]) rfl ?_
      refine ss_cons ?_
      refine wp_set ?_
      refine w_lc ?_
      refine wi_seq ?_
      refine w_var (oQ_in rfl ?_)
      refine oQ_in rfl (dSeq_1 rfl ?_)
      obtain ⟨r30, g31, h⟩ := bnd h
      obtain ⟨g31, k32⟩ := lcG_some g31
      refine ⟨rfl, loopC_cast rfl ?_⟩
      refine lc_sim (e := (fun p : (Str × Int) => D.tup [(D.str p.1), (D.int p.2)])) (e2 := (fun p : (Str × Int) => D.tup [(D.str p.1), (D.int p.2)])) (l := v_acts) (r := r30) (fun ρ => ρ = [.io (T.fl (r27.2.map D.int)), .ow (T.fz (D.int v_firms)), .ow (T.fz (D.list (v_acts.map (fun p : (Str × Int) => D.tup [(D.str p.1), (D.int p.2)])))), .ow (T.fz (D.str ((D.list (v_acts.map (fun p : (Str × Int) => D.tup [(D.str p.1), (D.int p.2)]))).toPy.shown))), .ow (T.fz (D.list (r4.map (fun p : (Int × Int × Option Int × Str) => D.tup [(D.int p.1), (D.int p.2.1), (eO p.2.2.1), (D.str p.2.2.2)])))), (.ow (T.lst [(T.fl ((((r6, r8).1).map (fun p : (Int × Int × Option Int × Str) => D.tup [(D.int p.1), (D.int p.2.1), (eO p.2.2.1), (D.str p.2.2.2)])) ++ [D.none])), (T.fl (((r6, r8).2).map (fun p : (Int × Int × Option Int × Str) => D.tup [(D.int p.1), (D.int p.2.1), (eO p.2.2.1), (D.str p.2.2.2)])))])), .ow (T.fz (D.int r27.1)), .no, .no, .no, .no, .no, .no]) g31 (wipe_1 (.io <| .ow <| .ow <| .ow <| .ow <| .fr Free.ow <| .ow <| .no <| .no <| .no <| .no <| .no <| .no <| .nil) rfl) ?_ ?_
      · rintro y29 o34 _ _ h33 rfl
        refine bd_nm (ρ2 := [.io (T.fl (r27.2.map D.int)), .ow (T.fz (D.int v_firms)), .ow (T.fz (D.list (v_acts.map (fun p : (Str × Int) => D.tup [(D.str p.1), (D.int p.2)])))), .ow (T.fz (D.str ((D.list (v_acts.map (fun p : (Str × Int) => D.tup [(D.str p.1), (D.int p.2)]))).toPy.shown))), .ow (T.fz (D.list (r4.map (fun p : (Int × Int × Option Int × Str) => D.tup [(D.int p.1), (D.int p.2.1), (eO p.2.2.1), (D.str p.2.2.2)])))), (.ow (T.lst [(T.fl ((((r6, r8).1).map (fun p : (Int × Int × Option Int × Str) => D.tup [(D.int p.1), (D.int p.2.1), (eO p.2.2.1), (D.str p.2.2.2)])) ++ [D.none])), (T.fl (((r6, r8).2).map (fun p : (Int × Int × Option Int × Str) => D.tup [(D.int p.1), (D.int p.2.1), (eO p.2.2.1), (D.str p.2.2.2)])))])), .ow (T.fz (D.int r27.1)), .no, .ow (T.fz (D.tup [(D.str y29.1), (D.int y29.2)])), .no, .no, .no, .no]) (.io <| .ow <| .ow <| .ow <| .ow <| .fr Free.ow <| .ow <| .no <| .no <| .no <| .no <| .no <| .no <| .nil) rfl Free.no rfl ?_
        refine lcB_some ?_
        refine wt_cmp ?_
        refine w_ix ?_
        refine w_var (oQ_in rfl ?_)
        refine w_kst ?_
        refine vT_in rfl ⟨rfl, oQ_in rfl ?_⟩
        refine wIx_2 rfl (v := .t (.fz (D.int y29.2))) rfl ?_
        refine w_var (oQ_in rfl ?_)
        refine ⟨rfl, oQ_in rfl (oQ_in rfl ?_)⟩
        by_cases c35 : ¬ y29.2 = r27.1
        · replace h33 := ift c35 h33
          refine wc_ne_t c35 ?_
          refine ⟨fun _ => ?_, fun z => absurd z (by decide)⟩
          refine w_fzvK ?_
          refine w_var (oQ_in rfl ?_)
          refine fzk_fz (d := (D.tup [(D.str y29.1), (D.int y29.2)])) ?_
          refine oQ_in rfl ⟨⟨y29, (Option.some.inj h33).symm, rfl⟩, (wipe_1 (.io <| .ow <| .ow <| .ow <| .ow <| .fr Free.ow <| .ow <| .no <| .ow <| .no <| .no <| .no <| .no <| .nil) rfl)⟩
        · replace h33 := iff_ c35 h33
          refine wc_ne_f c35 ?_
          exact ⟨fun z => absurd z (by decide), fun _ => ⟨(Option.some.inj h33).symm, (wipe_1 (.io <| .ow <| .ow <| .ow <| .ow <| .fr Free.ow <| .ow <| .no <| .ow <| .no <| .no <| .no <| .no <| .nil) rfl)⟩⟩
      · rintro _ rfl
        refine ⟨fzs_len k32, ?_⟩
        refine set_in (ρ2 := [.io (T.fl (r27.2.map D.int)), .ow (T.fz (D.int v_firms)), .ow (T.fz (D.list (v_acts.map (fun p : (Str × Int) => D.tup [(D.str p.1), (D.int p.2)])))), .ow (T.fz (D.str ((D.list (v_acts.map (fun p : (Str × Int) => D.tup [(D.str p.1), (D.int p.2)]))).toPy.shown))), .ow (T.fz (D.list (r4.map (fun p : (Int × Int × Option Int × Str) => D.tup [(D.int p.1), (D.int p.2.1), (eO p.2.2.1), (D.str p.2.2.2)])))), (.ow (T.lst [(T.fl ((((r6, r8).1).map (fun p : (Int × Int × Option Int × Str) => D.tup [(D.int p.1), (D.int p.2.1), (eO p.2.2.1), (D.str p.2.2.2)])) ++ [D.none])), (T.fl (((r6, r8).2).map (fun p : (Int × Int × Option Int × Str) => D.tup [(D.int p.1), (D.int p.2.1), (eO p.2.2.1), (D.str p.2.2.2)])))])), .ow (T.fz (D.int r27.1)), .ow (T.fl (r30.map (fun p : (Str × Int) => D.tup [(D.str p.1), (D.int p.2)]))), .no, .no, .no, .no, .no]) (.io <| .ow <| .ow <| .ow <| .ow <| .fr Free.ow <| .ow <| .no <| .no <| .no <| .no <| .no <| .no <| .nil) rfl Free.no rfl ?_
        refine nxe (ρ2 := [.io (T.fl (r27.2.map D.int)), .ow (T.fz (D.int v_firms)), .ow (T.fz (D.list (v_acts.map (fun p : (Str × Int) => D.tup [(D.str p.1), (D.int p.2)])))), .ow (T.fz (D.str ((D.list (v_acts.map (fun p : (Str × Int) => D.tup [(D.str p.1), (D.int p.2)]))).toPy.shown))), .ow (T.fz (D.list (r4.map (fun p : (Int × Int × Option Int × Str) => D.tup [(D.int p.1), (D.int p.2.1), (eO p.2.2.1), (D.str p.2.2.2)])))), (.ow (T.lst [(T.fl ((((r6, r8).1).map (fun p : (Int × Int × Option Int × Str) => D.tup [(D.int p.1), (D.int p.2.1), (eO p.2.2.1), (D.str p.2.2.2)])) ++ [D.none])), (T.fl (((r6, r8).2).map (fun p : (Int × Int × Option Int × Str) => D.tup [(D.int p.1), (D.int p.2.1), (eO p.2.2.1), (D.str p.2.2.2)])))])), .ow (T.fz (D.int r27.1)), .ow (T.fl (r30.map (fun p : (Str × Int) => D.tup [(D.str p.1), (D.int p.2)]))), .no, .no, .no, .no, .no]) rfl ?_
        refine ss_cons ?_
        refine wp_set ?_
        refine w_list ?_
        refine ws_cons ?_
        refine w_call ?_
        refine ws_cons ?_
        refine w_fzvK ?_
        refine w_var (oQ_in rfl ?_)
        refine fzk_fz (d := (D.int v_firms)) ?_
        refine ws_cons ?_
        refine w_fzvK ?_
        refine w_var (oQ_in rfl ?_)
        refine fzk_fz (d := (D.list (v_acts.map (fun p : (Str × Int) => D.tup [(D.str p.1), (D.int p.2)])))) ?_
        refine ws_cons ?_
        refine w_fzvK ?_
        refine w_var (oQ_in rfl ?_)
        refine fzk_fz (d := (D.int r27.1)) ?_
        refine ws_nil ?_
        refine ⟨rfl, rfl, rfl, ?_⟩
        refine oQ_in rfl ?_
        obtain ⟨r36, g37, h⟩ := bnd h
        refine call_g (ρ2 := [.io (T.fl (r27.2.map D.int)), .ow (T.fz (D.int v_firms)), .ow (T.fz (D.list (v_acts.map (fun p : (Str × Int) => D.tup [(D.str p.1), (D.int p.2)])))), .ow (T.fz (D.str ((D.list (v_acts.map (fun p : (Str × Int) => D.tup [(D.str p.1), (D.int p.2)]))).toPy.shown))), .ow (T.fz (D.list (r4.map (fun p : (Int × Int × Option Int × Str) => D.tup [(D.int p.1), (D.int p.2.1), (eO p.2.2.1), (D.str p.2.2.2)])))), (.ow (T.lst [(T.fl ((((r6, r8).1).map (fun p : (Int × Int × Option Int × Str) => D.tup [(D.int p.1), (D.int p.2.1), (eO p.2.2.1), (D.str p.2.2.2)])) ++ [D.none])), (T.fl (((r6, r8).2).map (fun p : (Int × Int × Option Int × Str) => D.tup [(D.int p.1), (D.int p.2.1), (eO p.2.2.1), (D.str p.2.2.2)])))])), .ow (T.fz (D.int r27.1)), .ow (T.fl (r30.map (fun p : (Str × Int) => D.tup [(D.str p.1), (D.int p.2)]))), .no, .no, .no, .no, .no]) (.io <| .ow <| .ow <| .ow <| .ow <| .fr Free.ow <| .ow <| .ow <| .no <| .no <| .no <| .no <| .no <| .nil) rfl (argT_fz (argT_fz (argT_fz argT_nil))) (m_without_house g37) rfl rfl rfl ?_
        refine ws_cons ?_
        refine w_callk ?_
        refine ws_cons ?_
        refine w_fzvK ?_
        refine w_var (oQ_in rfl ?_)
        refine fzk_fz (d := (D.int r27.1)) ?_
        refine ws_cons ?_
        refine w_fzvK ?_
        refine w_var (oQ_in rfl ?_)
        refine fzk_fz (d := (D.list (v_acts.map (fun p : (Str × Int) => D.tup [(D.str p.1), (D.int p.2)])))) ?_
        refine ws_cons ?_
        refine w_fzvK ?_
        refine w_var (oQ_in rfl ?_)
        refine fzk_fz (d := (D.int v_firms)) ?_
        refine ws_nil ?_
        refine ⟨rfl, rfl, rfl, ?_⟩
        refine oQ_in rfl ?_
        refine oQ_in rfl ?_
        obtain ⟨r38, g39, h⟩ := bnd h
        refine call_g (ρ2 := [.io (T.fl (r27.2.map D.int)), .ow (T.fz (D.int v_firms)), .ow (T.fz (D.list (v_acts.map (fun p : (Str × Int) => D.tup [(D.str p.1), (D.int p.2)])))), .ow (T.fz (D.str ((D.list (v_acts.map (fun p : (Str × Int) => D.tup [(D.str p.1), (D.int p.2)]))).toPy.shown))), .ow (T.fz (D.list (r4.map (fun p : (Int × Int × Option Int × Str) => D.tup [(D.int p.1), (D.int p.2.1), (eO p.2.2.1), (D.str p.2.2.2)])))), (.ow (T.lst [(T.fl ((((r6, r8).1).map (fun p : (Int × Int × Option Int × Str) => D.tup [(D.int p.1), (D.int p.2.1), (eO p.2.2.1), (D.str p.2.2.2)])) ++ [D.none])), (T.fl (((r6, r8).2).map (fun p : (Int × Int × Option Int × Str) => D.tup [(D.int p.1), (D.int p.2.1), (eO p.2.2.1), (D.str p.2.2.2)])))])), .ow (T.fz (D.int r27.1)), .ow (T.fl (r30.map (fun p : (Str × Int) => D.tup [(D.str p.1), (D.int p.2)]))), .no, .no, .no, .no, .no]) (.io <| .ow <| .ow <| .ow <| .ow <| .fr Free.ow <| .ow <| .ow <| .no <| .no <| .no <| .no <| .no <| .nil) rfl (argT_fz (argT_fz (argT_fz argT_nil))) (m_without_house g39) rfl rfl rfl ?_
        refine ws_nil ?_
        refine ⟨rfl, rfl, ?_⟩
        refine oQ_in rfl ?_
        refine set_in (ρ2 := [.io (T.fl (r27.2.map D.int)), .ow (T.fz (D.int v_firms)), .ow (T.fz (D.list (v_acts.map (fun p : (Str × Int) => D.tup [(D.str p.1), (D.int p.2)])))), .ow (T.fz (D.str ((D.list (v_acts.map (fun p : (Str × Int) => D.tup [(D.str p.1), (D.int p.2)]))).toPy.shown))), .ow (T.fz (D.list (r4.map (fun p : (Int × Int × Option Int × Str) => D.tup [(D.int p.1), (D.int p.2.1), (eO p.2.2.1), (D.str p.2.2.2)])))), .ow (T.lst [(T.fl (((r36, r38).1).map (fun p : (Str × Int) => D.tup [(D.str p.1), (D.int p.2)]))), (T.fl (((r36, r38).2).map (fun p : (Str × Int) => D.tup [(D.str p.1), (D.int p.2)])))]), .ow (T.fz (D.int r27.1)), .ow (T.fl (r30.map (fun p : (Str × Int) => D.tup [(D.str p.1), (D.int p.2)]))), .no, .no, .no, .no, .no]) (.io <| .ow <| .ow <| .ow <| .ow <| .fr Free.ow <| .ow <| .ow <| .no <| .no <| .no <| .no <| .no <| .nil) rfl Free.ow rfl ?_
        refine nxe (ρ2 := [.io (T.fl (r27.2.map D.int)), .ow (T.fz (D.int v_firms)), .ow (T.fz (D.list (v_acts.map (fun p : (Str × Int) => D.tup [(D.str p.1), (D.int p.2)])))), .ow (T.fz (D.str ((D.list (v_acts.map (fun p : (Str × Int) => D.tup [(D.str p.1), (D.int p.2)]))).toPy.shown))), .ow (T.fz (D.list (r4.map (fun p : (Int × Int × Option Int × Str) => D.tup [(D.int p.1), (D.int p.2.1), (eO p.2.2.1), (D.str p.2.2.2)])))), .ow (T.lst [(T.fl (((r36, r38).1).map (fun p : (Str × Int) => D.tup [(D.str p.1), (D.int p.2)]))), (T.fl (((r36, r38).2).map (fun p : (Str × Int) => D.tup [(D.str p.1), (D.int p.2)])))]), .ow (T.fz (D.int r27.1)), .ow (T.fl (r30.map (fun p : (Str × Int) => D.tup [(D.str p.1), (D.int p.2)]))), .no, .no, .no, .no, .no]) rfl ?_
        refine ss_cons ?_
        refine wp_ite ?_
        refine wt_bool ?_
        refine wb_cons ?_
        refine wt_cmp ?_
        refine w_blt ?_
        refine ws_cons ?_
        refine w_var (oQ_in rfl ?_)
        refine ws_nil ?_
        refine ⟨rfl, ?_⟩
        refine oQ_in rfl ?_
        obtain ⟨x40, g41, h⟩ := bnd h
        obtain ⟨k42, rfl⟩ := reprG_some g41
        refine wl_any (repr_g (d := (D.list [(D.list (((r36, r38).1).map (fun p : (Str × Int) => D.tup [(D.str p.1), (D.int p.2)]))), (D.list (((r36, r38).2).map (fun p : (Str × Int) => D.tup [(D.str p.1), (D.int p.2)])))])) (by simp only [T.toD, T.toDs, fl_toD]) k42) ?_
        refine w_blt ?_
        refine ws_cons ?_
        refine w_list ?_
        refine ws_cons ?_
        refine w_fzvK ?_
        refine w_var (oQ_in rfl ?_)
        refine fzk_pt (e := (fun p : (Str × Int) => D.tup [(D.str p.1), (D.int p.2)])) (l := r30) (ρ2 := [.io (T.fl (r27.2.map D.int)), .ow (T.fz (D.int v_firms)), .ow (T.fz (D.list (v_acts.map (fun p : (Str × Int) => D.tup [(D.str p.1), (D.int p.2)])))), .ow (T.fz (D.str ((D.list (v_acts.map (fun p : (Str × Int) => D.tup [(D.str p.1), (D.int p.2)]))).toPy.shown))), .ow (T.fz (D.list (r4.map (fun p : (Int × Int × Option Int × Str) => D.tup [(D.int p.1), (D.int p.2.1), (eO p.2.2.1), (D.str p.2.2.2)])))), .ow (T.lst [(T.fl (((r36, r38).1).map (fun p : (Str × Int) => D.tup [(D.str p.1), (D.int p.2)]))), (T.fl (((r36, r38).2).map (fun p : (Str × Int) => D.tup [(D.str p.1), (D.int p.2)])))]), .ow (T.fz (D.int r27.1)), .ow (T.fz (D.list (r30.map (fun p : (Str × Int) => D.tup [(D.str p.1), (D.int p.2)])))), .no, .no, .no, .no, .no]) rfl rfl ?_
        refine ws_cons ?_
        refine w_fzvK ?_
        refine w_var (oQ_in rfl ?_)
        refine fzk_fz (d := (D.list (r30.map (fun p : (Str × Int) => D.tup [(D.str p.1), (D.int p.2)])))) ?_
        refine ws_nil ?_
        refine ⟨rfl, rfl, ?_⟩
        refine oQ_in rfl ?_
        refine ws_nil ?_
        refine ⟨rfl, ?_⟩
        refine oQ_in rfl ?_
        obtain ⟨x43, g44, h⟩ := bnd h
        obtain ⟨k45, rfl⟩ := reprG_some g44
        refine wl_any (repr_g (d := (D.list (([r30, r30]).map (eL (fun p : (Str × Int) => D.tup [(D.str p.1), (D.int p.2)]))))) (fl_toD (([r30, r30]).map (eL (fun p : (Str × Int) => D.tup [(D.str p.1), (D.int p.2)])))) k45) ?_
        refine ⟨rfl, oQ_in rfl (oQ_in rfl ?_)⟩
        obtain ⟨x46, g47, h⟩ := bnd h
        by_cases c48 : ¬ x46 = true
        · replace h := ift c48 h
          refine wCmp_inN_t (cmp_eq rfl rfl g47) c48 ?_
          refine ⟨fun z => absurd z (by decide), fun _ => ?_⟩
          refine ⟨fun _ => ?_, fun z => absurd z (by decide)⟩
          refine ss_cons ?_
          refine wp_ret ?_
          refine w_kst ?_
          refine oQ_in rfl ?_
          obtain rfl := Option.some.inj h
          refine seqK_rt ?_
          refine seqK_rt ?_
          exact ret_in rfl rfl
        · replace h := iff_ c48 h
          refine wCmp_inN_f (cmp_eq rfl rfl g47) c48 ?_
          refine ⟨fun _ => ?_, fun z => absurd z (by decide)⟩
          refine wb_cons ?_
          refine wt_not ?_
          refine wt_val ?_
          refine w_call ?_
          refine ws_cons ?_
          refine w_fzvK ?_
          refine w_var (oQ_in rfl ?_)
          refine fzk_fz (d := (D.int v_firms)) ?_
          refine ws_cons ?_
          refine w_fzvK ?_
          refine w_var (oQ_in rfl ?_)
          refine fzk_fz (d := (D.list (r30.map (fun p : (Str × Int) => D.tup [(D.str p.1), (D.int p.2)])))) ?_
          refine ws_nil ?_
          refine ⟨rfl, rfl, ?_⟩
          refine oQ_in rfl ?_
          obtain ⟨r49, g50, h⟩ := bnd h
          refine call_g (ρ2 := [.io (T.fl (r27.2.map D.int)), .ow (T.fz (D.int v_firms)), .ow (T.fz (D.list (v_acts.map (fun p : (Str × Int) => D.tup [(D.str p.1), (D.int p.2)])))), .ow (T.fz (D.str ((D.list (v_acts.map (fun p : (Str × Int) => D.tup [(D.str p.1), (D.int p.2)]))).toPy.shown))), .ow (T.fz (D.list (r4.map (fun p : (Int × Int × Option Int × Str) => D.tup [(D.int p.1), (D.int p.2.1), (eO p.2.2.1), (D.str p.2.2.2)])))), .ow (T.lst [(T.fl (((r36, r38).1).map (fun p : (Str × Int) => D.tup [(D.str p.1), (D.int p.2)]))), (T.fl (((r36, r38).2).map (fun p : (Str × Int) => D.tup [(D.str p.1), (D.int p.2)])))]), .ow (T.fz (D.int r27.1)), .ow (T.fz (D.list (r30.map (fun p : (Str × Int) => D.tup [(D.str p.1), (D.int p.2)])))), .no, .no, .no, .no, .no]) (.io <| .ow <| .ow <| .ow <| .ow <| .ow <| .ow <| .ow <| .no <| .no <| .no <| .no <| .no <| .nil) rfl (argT_fz (argT_fz argT_nil)) (m_is_weaving g50) rfl rfl rfl ?_
          refine oQ_in rfl ?_
          by_cases c51 : r49 = true
          · replace h := ift c51 h
            refine tru_t rfl c51 ?_
            refine ⟨fun _ => ?_, fun z => absurd z (by decide)⟩
            refine wb_one ?_
            refine wt_cmp ?_
            refine w_blt ?_
            refine ws_cons ?_
            refine w_var (oQ_in rfl ?_)
            refine ws_nil ?_
            refine ⟨rfl, ?_⟩
            refine oQ_in rfl ?_
            obtain ⟨x52, g53, h⟩ := bnd h
            obtain ⟨k54, rfl⟩ := reprG_some g53
            refine wl_any (repr_g (d := (D.list (v_acts.map (fun p : (Str × Int) => D.tup [(D.str p.1), (D.int p.2)])))) rfl k54) ?_
            refine w_var (oQ_in rfl ?_)
            refine ⟨rfl, oQ_in rfl (oQ_in rfl ?_)⟩
            obtain ⟨x55, g56, h⟩ := bnd h
            by_cases c57 : ¬ x55 = true
            · replace h := ift c57 h
              refine wCmp_inN_t (cmp_eq rfl rfl g56) c57 ?_
              refine ⟨fun _ => ?_, fun z => absurd z (by decide)⟩
              refine ss_cons ?_
              refine wp_ret ?_
              refine w_kst ?_
              refine oQ_in rfl ?_
              obtain rfl := Option.some.inj h
              refine seqK_rt ?_
              refine seqK_rt ?_
              exact ret_in rfl rfl
            · replace h := iff_ c57 h
              refine wCmp_inN_f (cmp_eq rfl rfl g56) c57 ?_
              refine ⟨fun z => absurd z (by decide), fun _ => ?_⟩
              refine ss_nil ?_
              refine nxe (ρ2 := [.io (T.fl (r27.2.map D.int)), .ow (T.fz (D.int v_firms)), .ow (T.fz (D.list (v_acts.map (fun p : (Str × Int) => D.tup [(D.str p.1), (D.int p.2)])))), .ow (T.fz (D.str ((D.list (v_acts.map (fun p : (Str × Int) => D.tup [(D.str p.1), (D.int p.2)]))).toPy.shown))), .ow (T.fz (D.list (r4.map (fun p : (Int × Int × Option Int × Str) => D.tup [(D.int p.1), (D.int p.2.1), (eO p.2.2.1), (D.str p.2.2.2)])))), .ow (T.lst [(T.fl (((r36, r38).1).map (fun p : (Str × Int) => D.tup [(D.str p.1), (D.int p.2)]))), (T.fl (((r36, r38).2).map (fun p : (Str × Int) => D.tup [(D.str p.1), (D.int p.2)])))]), .ow (T.fz (D.int r27.1)), .ow (T.fz (D.list (r30.map (fun p : (Str × Int) => D.tup [(D.str p.1), (D.int p.2)])))), .no, .no, .no, .no, .no]) rfl ?_
              refine ss_cons ?_
              refine wp_app ?_
              refine w_ix ?_
              refine w_var (oQ_in rfl ?_)
              refine w_kst ?_
              refine vT_in rfl ⟨rfl, oQ_in rfl ?_⟩
              refine wIx_2 rfl (v := .pt 5 (some 0)) rfl ?_
              refine vPt_in rfl ⟨⟨_, rfl⟩, ?_⟩
              refine w_kst ?_
              obtain ⟨x58, g59, h⟩ := bnd h
              obtain ⟨k60, rfl⟩ := appG_some g59
              refine oQ_in rfl ⟨rfl, oQ_in rfl ⟨_, appT_fz (l := (((r36, r38).1).map (fun p : (Str × Int) => D.tup [(D.str p.1), (D.int p.2)]))) (d := D.none) k60, oQ_in rfl ?_⟩⟩
              refine nxe (ρ2 := [.io (T.fl (r27.2.map D.int)), .ow (T.fz (D.int v_firms)), .ow (T.fz (D.list (v_acts.map (fun p : (Str × Int) => D.tup [(D.str p.1), (D.int p.2)])))), .ow (T.fz (D.str ((D.list (v_acts.map (fun p : (Str × Int) => D.tup [(D.str p.1), (D.int p.2)]))).toPy.shown))), .ow (T.fz (D.list (r4.map (fun p : (Int × Int × Option Int × Str) => D.tup [(D.int p.1), (D.int p.2.1), (eO p.2.2.1), (D.str p.2.2.2)])))), (.ow (T.lst [(T.fl ((((r36, r38).1).map (fun p : (Str × Int) => D.tup [(D.str p.1), (D.int p.2)])) ++ [D.none])), (T.fl (((r36, r38).2).map (fun p : (Str × Int) => D.tup [(D.str p.1), (D.int p.2)])))])), .ow (T.fz (D.int r27.1)), .ow (T.fz (D.list (r30.map (fun p : (Str × Int) => D.tup [(D.str p.1), (D.int p.2)])))), .no, .no, .no, .no, .no]) rfl ?_
              refine ss_cons ?_
              refine wp_ite ?_
              refine wt_cmp ?_
              refine w_call ?_
              refine ws_cons ?_
              refine w_fzvK ?_
              refine w_var (oQ_in rfl ?_)
              refine fzk_fz (d := (D.int v_firms)) ?_
              refine ws_cons ?_
              refine w_fzvK ?_
              refine w_var (oQ_in rfl ?_)
              refine fzk_fz (d := (D.list (v_acts.map (fun p : (Str × Int) => D.tup [(D.str p.1), (D.int p.2)])))) ?_
              refine ws_cons ?_
              refine w_fzvK ?_
              refine w_var (oQ_in rfl ?_)
              refine fzk_fz (d := (D.int r27.1)) ?_
              refine ws_nil ?_
              refine ⟨rfl, rfl, rfl, ?_⟩
              refine oQ_in rfl ?_
              obtain ⟨r61, g62, h⟩ := bnd h
              refine call_g (ρ2 := [.io (T.fl (r27.2.map D.int)), .ow (T.fz (D.int v_firms)), .ow (T.fz (D.list (v_acts.map (fun p : (Str × Int) => D.tup [(D.str p.1), (D.int p.2)])))), .ow (T.fz (D.str ((D.list (v_acts.map (fun p : (Str × Int) => D.tup [(D.str p.1), (D.int p.2)]))).toPy.shown))), .ow (T.fz (D.list (r4.map (fun p : (Int × Int × Option Int × Str) => D.tup [(D.int p.1), (D.int p.2.1), (eO p.2.2.1), (D.str p.2.2.2)])))), (.ow (T.lst [(T.fl ((((r36, r38).1).map (fun p : (Str × Int) => D.tup [(D.str p.1), (D.int p.2)])) ++ [D.none])), (T.fl (((r36, r38).2).map (fun p : (Str × Int) => D.tup [(D.str p.1), (D.int p.2)])))])), .ow (T.fz (D.int r27.1)), .ow (T.fz (D.list (r30.map (fun p : (Str × Int) => D.tup [(D.str p.1), (D.int p.2)])))), .no, .no, .no, .no, .no]) (.io <| .ow <| .ow <| .ow <| .ow <| .fr Free.ow <| .ow <| .ow <| .no <| .no <| .no <| .no <| .no <| .nil) rfl (argT_fz (argT_fz (argT_fz argT_nil))) (m_without_house g62) rfl rfl rfl ?_
              refine w_var (oQ_in rfl ?_)
              refine ⟨rfl, oQ_in rfl (oQ_in rfl ?_)⟩
              obtain ⟨x63, g64, h⟩ := bnd h
              by_cases c65 : ¬ x63 = true
              · replace h := ift c65 h
                refine wCmp_inN_t (cmp_eq (fl_toD (r61.map (fun p : (Str × Int) => D.tup [(D.str p.1), (D.int p.2)]))) rfl g64) c65 ?_
                refine ⟨fun _ => ?_, fun z => absurd z (by decide)⟩
                refine ss_cons ?_
                refine wp_ret ?_
                refine w_kst ?_
                refine oQ_in rfl ?_
                obtain rfl := Option.some.inj h
                refine seqK_rt ?_
                refine seqK_rt ?_
                exact ret_in rfl rfl
              · replace h := iff_ c65 h
                refine wCmp_inN_f (cmp_eq (fl_toD (r61.map (fun p : (Str × Int) => D.tup [(D.str p.1), (D.int p.2)]))) rfl g64) c65 ?_
                refine ⟨fun z => absurd z (by decide), fun _ => ?_⟩
                refine ss_nil ?_
                refine nxe (ρ2 := [.io (T.fl (r27.2.map D.int)), .ow (T.fz (D.int v_firms)), .ow (T.fz (D.list (v_acts.map (fun p : (Str × Int) => D.tup [(D.str p.1), (D.int p.2)])))), .ow (T.fz (D.str ((D.list (v_acts.map (fun p : (Str × Int) => D.tup [(D.str p.1), (D.int p.2)]))).toPy.shown))), .ow (T.fz (D.list (r4.map (fun p : (Int × Int × Option Int × Str) => D.tup [(D.int p.1), (D.int p.2.1), (eO p.2.2.1), (D.str p.2.2.2)])))), (.ow (T.lst [(T.fl ((((r36, r38).1).map (fun p : (Str × Int) => D.tup [(D.str p.1), (D.int p.2)])) ++ [D.none])), (T.fl (((r36, r38).2).map (fun p : (Str × Int) => D.tup [(D.str p.1), (D.int p.2)])))])), .ow (T.fz (D.int r27.1)), .ow (T.fz (D.list (r30.map (fun p : (Str × Int) => D.tup [(D.str p.1), (D.int p.2)])))), .no, .no, .no, .no, .no]) rfl ?_
                refine ss_cons ?_
                refine wp_set ?_
                refine w_lc ?_
                refine wi_seq ?_
                refine w_call ?_
                refine ws_cons ?_
                refine w_fzvK ?_
                refine w_var (oQ_in rfl ?_)
                refine fzk_fz (d := (D.int v_firms)) ?_
                refine ws_cons ?_
                refine w_fzvK ?_
                refine w_var (oQ_in rfl ?_)
                refine fzk_fz (d := (D.list (r30.map (fun p : (Str × Int) => D.tup [(D.str p.1), (D.int p.2)])))) ?_
                refine ws_nil ?_
                refine ⟨rfl, rfl, ?_⟩
                refine oQ_in rfl ?_
                obtain ⟨r66, g67, h⟩ := bnd h
                refine call_g (ρ2 := [.io (T.fl (r27.2.map D.int)), .ow (T.fz (D.int v_firms)), .ow (T.fz (D.list (v_acts.map (fun p : (Str × Int) => D.tup [(D.str p.1), (D.int p.2)])))), .ow (T.fz (D.str ((D.list (v_acts.map (fun p : (Str × Int) => D.tup [(D.str p.1), (D.int p.2)]))).toPy.shown))), .ow (T.fz (D.list (r4.map (fun p : (Int × Int × Option Int × Str) => D.tup [(D.int p.1), (D.int p.2.1), (eO p.2.2.1), (D.str p.2.2.2)])))), (.ow (T.lst [(T.fl ((((r36, r38).1).map (fun p : (Str × Int) => D.tup [(D.str p.1), (D.int p.2)])) ++ [D.none])), (T.fl (((r36, r38).2).map (fun p : (Str × Int) => D.tup [(D.str p.1), (D.int p.2)])))])), .ow (T.fz (D.int r27.1)), .ow (T.fz (D.list (r30.map (fun p : (Str × Int) => D.tup [(D.str p.1), (D.int p.2)])))), .no, .no, .no, .no, .no]) (.io <| .ow <| .ow <| .ow <| .ow <| .fr Free.ow <| .ow <| .ow <| .no <| .no <| .no <| .no <| .no <| .nil) rfl (argT_fz (argT_fz argT_nil)) (m_deeds_of g67) rfl rfl rfl ?_
                refine oQ_in rfl (dSeq_1 (fl_toD (r66.map (fun p : (Int × Int × Option Int × Str) => D.tup [(D.int p.1), (D.int p.2.1), (eO p.2.2.1), (D.str p.2.2.2)]))) ?_)
                obtain ⟨r69, g70, h⟩ := bnd h
                obtain ⟨g70, k71⟩ := lcG_some g70
                refine ⟨rfl, loopC_cast rfl ?_⟩
                refine lc_sim (e := (fun p : (Int × Int × Option Int × Str) => D.tup [(D.int p.1), (D.int p.2.1), (eO p.2.2.1), (D.str p.2.2.2)])) (e2 := (fun p : (Int × Str) => D.tup [(D.int p.1), (D.str p.2)])) (l := r66) (r := r69) (fun ρ => ρ = [.io (T.fl (r27.2.map D.int)), .ow (T.fz (D.int v_firms)), .ow (T.fz (D.list (v_acts.map (fun p : (Str × Int) => D.tup [(D.str p.1), (D.int p.2)])))), .ow (T.fz (D.str ((D.list (v_acts.map (fun p : (Str × Int) => D.tup [(D.str p.1), (D.int p.2)]))).toPy.shown))), .ow (T.fz (D.list (r4.map (fun p : (Int × Int × Option Int × Str) => D.tup [(D.int p.1), (D.int p.2.1), (eO p.2.2.1), (D.str p.2.2.2)])))), (.ow (T.lst [(T.fl ((((r36, r38).1).map (fun p : (Str × Int) => D.tup [(D.str p.1), (D.int p.2)])) ++ [D.none])), (T.fl (((r36, r38).2).map (fun p : (Str × Int) => D.tup [(D.str p.1), (D.int p.2)])))])), .ow (T.fz (D.int r27.1)), .ow (T.fz (D.list (r30.map (fun p : (Str × Int) => D.tup [(D.str p.1), (D.int p.2)])))), .no, .no, .no, .no, .no]) g70 (wipe_cons (ρ2 := [.io (T.fl (r27.2.map D.int)), .ow (T.fz (D.int v_firms)), .ow (T.fz (D.list (v_acts.map (fun p : (Str × Int) => D.tup [(D.str p.1), (D.int p.2)])))), .ow (T.fz (D.str ((D.list (v_acts.map (fun p : (Str × Int) => D.tup [(D.str p.1), (D.int p.2)]))).toPy.shown))), .ow (T.fz (D.list (r4.map (fun p : (Int × Int × Option Int × Str) => D.tup [(D.int p.1), (D.int p.2.1), (eO p.2.2.1), (D.str p.2.2.2)])))), (.ow (T.lst [(T.fl ((((r36, r38).1).map (fun p : (Str × Int) => D.tup [(D.str p.1), (D.int p.2)])) ++ [D.none])), (T.fl (((r36, r38).2).map (fun p : (Str × Int) => D.tup [(D.str p.1), (D.int p.2)])))])), .ow (T.fz (D.int r27.1)), .ow (T.fz (D.list (r30.map (fun p : (Str × Int) => D.tup [(D.str p.1), (D.int p.2)])))), .no, .no, .no, .no, .no]) (wipe_cons (ρ2 := [.io (T.fl (r27.2.map D.int)), .ow (T.fz (D.int v_firms)), .ow (T.fz (D.list (v_acts.map (fun p : (Str × Int) => D.tup [(D.str p.1), (D.int p.2)])))), .ow (T.fz (D.str ((D.list (v_acts.map (fun p : (Str × Int) => D.tup [(D.str p.1), (D.int p.2)]))).toPy.shown))), .ow (T.fz (D.list (r4.map (fun p : (Int × Int × Option Int × Str) => D.tup [(D.int p.1), (D.int p.2.1), (eO p.2.2.1), (D.str p.2.2.2)])))), (.ow (T.lst [(T.fl ((((r36, r38).1).map (fun p : (Str × Int) => D.tup [(D.str p.1), (D.int p.2)])) ++ [D.none])), (T.fl (((r36, r38).2).map (fun p : (Str × Int) => D.tup [(D.str p.1), (D.int p.2)])))])), .ow (T.fz (D.int r27.1)), .ow (T.fz (D.list (r30.map (fun p : (Str × Int) => D.tup [(D.str p.1), (D.int p.2)])))), .no, .no, .no, .no, .no]) (wipe_cons (ρ2 := [.io (T.fl (r27.2.map D.int)), .ow (T.fz (D.int v_firms)), .ow (T.fz (D.list (v_acts.map (fun p : (Str × Int) => D.tup [(D.str p.1), (D.int p.2)])))), .ow (T.fz (D.str ((D.list (v_acts.map (fun p : (Str × Int) => D.tup [(D.str p.1), (D.int p.2)]))).toPy.shown))), .ow (T.fz (D.list (r4.map (fun p : (Int × Int × Option Int × Str) => D.tup [(D.int p.1), (D.int p.2.1), (eO p.2.2.1), (D.str p.2.2.2)])))), (.ow (T.lst [(T.fl ((((r36, r38).1).map (fun p : (Str × Int) => D.tup [(D.str p.1), (D.int p.2)])) ++ [D.none])), (T.fl (((r36, r38).2).map (fun p : (Str × Int) => D.tup [(D.str p.1), (D.int p.2)])))])), .ow (T.fz (D.int r27.1)), .ow (T.fz (D.list (r30.map (fun p : (Str × Int) => D.tup [(D.str p.1), (D.int p.2)])))), .no, .no, .no, .no, .no]) (wipe_cons (ρ2 := [.io (T.fl (r27.2.map D.int)), .ow (T.fz (D.int v_firms)), .ow (T.fz (D.list (v_acts.map (fun p : (Str × Int) => D.tup [(D.str p.1), (D.int p.2)])))), .ow (T.fz (D.str ((D.list (v_acts.map (fun p : (Str × Int) => D.tup [(D.str p.1), (D.int p.2)]))).toPy.shown))), .ow (T.fz (D.list (r4.map (fun p : (Int × Int × Option Int × Str) => D.tup [(D.int p.1), (D.int p.2.1), (eO p.2.2.1), (D.str p.2.2.2)])))), (.ow (T.lst [(T.fl ((((r36, r38).1).map (fun p : (Str × Int) => D.tup [(D.str p.1), (D.int p.2)])) ++ [D.none])), (T.fl (((r36, r38).2).map (fun p : (Str × Int) => D.tup [(D.str p.1), (D.int p.2)])))])), .ow (T.fz (D.int r27.1)), .ow (T.fz (D.list (r30.map (fun p : (Str × Int) => D.tup [(D.str p.1), (D.int p.2)])))), .no, .no, .no, .no, .no]) (rfl : wipeE _ [] = [.io (T.fl (r27.2.map D.int)), .ow (T.fz (D.int v_firms)), .ow (T.fz (D.list (v_acts.map (fun p : (Str × Int) => D.tup [(D.str p.1), (D.int p.2)])))), .ow (T.fz (D.str ((D.list (v_acts.map (fun p : (Str × Int) => D.tup [(D.str p.1), (D.int p.2)]))).toPy.shown))), .ow (T.fz (D.list (r4.map (fun p : (Int × Int × Option Int × Str) => D.tup [(D.int p.1), (D.int p.2.1), (eO p.2.2.1), (D.str p.2.2.2)])))), (.ow (T.lst [(T.fl ((((r36, r38).1).map (fun p : (Str × Int) => D.tup [(D.str p.1), (D.int p.2)])) ++ [D.none])), (T.fl (((r36, r38).2).map (fun p : (Str × Int) => D.tup [(D.str p.1), (D.int p.2)])))])), .ow (T.fz (D.int r27.1)), .ow (T.fz (D.list (r30.map (fun p : (Str × Int) => D.tup [(D.str p.1), (D.int p.2)])))), .no, .no, .no, .no, .no]) (.io <| .ow <| .ow <| .ow <| .ow <| .fr Free.ow <| .ow <| .ow <| .no <| .no <| .no <| .no <| .no <| .nil) rfl) (.io <| .ow <| .ow <| .ow <| .ow <| .fr Free.ow <| .ow <| .ow <| .no <| .no <| .no <| .no <| .no <| .nil) rfl) (.io <| .ow <| .ow <| .ow <| .ow <| .fr Free.ow <| .ow <| .ow <| .no <| .no <| .no <| .no <| .no <| .nil) rfl) (.io <| .ow <| .ow <| .ow <| .ow <| .fr Free.ow <| .ow <| .ow <| .no <| .no <| .no <| .no <| .no <| .nil) rfl) ?_ ?_
                · rintro y68 o73 _ _ h72 rfl
                  refine bd_tp rfl ?_
                  refine bd_go_cons (ρ2 := [.io (T.fl (r27.2.map D.int)), .ow (T.fz (D.int v_firms)), .ow (T.fz (D.list (v_acts.map (fun p : (Str × Int) => D.tup [(D.str p.1), (D.int p.2)])))), .ow (T.fz (D.str ((D.list (v_acts.map (fun p : (Str × Int) => D.tup [(D.str p.1), (D.int p.2)]))).toPy.shown))), .ow (T.fz (D.list (r4.map (fun p : (Int × Int × Option Int × Str) => D.tup [(D.int p.1), (D.int p.2.1), (eO p.2.2.1), (D.str p.2.2.2)])))), (.ow (T.lst [(T.fl ((((r36, r38).1).map (fun p : (Str × Int) => D.tup [(D.str p.1), (D.int p.2)])) ++ [D.none])), (T.fl (((r36, r38).2).map (fun p : (Str × Int) => D.tup [(D.str p.1), (D.int p.2)])))])), .ow (T.fz (D.int r27.1)), .ow (T.fz (D.list (r30.map (fun p : (Str × Int) => D.tup [(D.str p.1), (D.int p.2)])))), .no, .ow (T.fz (D.int y68.1)), .no, .no, .no]) (.io <| .ow <| .ow <| .ow <| .ow <| .fr Free.ow <| .ow <| .ow <| .no <| .no <| .no <| .no <| .no <| .nil) rfl Free.no rfl ?_
                  refine bd_go_cons (ρ2 := [.io (T.fl (r27.2.map D.int)), .ow (T.fz (D.int v_firms)), .ow (T.fz (D.list (v_acts.map (fun p : (Str × Int) => D.tup [(D.str p.1), (D.int p.2)])))), .ow (T.fz (D.str ((D.list (v_acts.map (fun p : (Str × Int) => D.tup [(D.str p.1), (D.int p.2)]))).toPy.shown))), .ow (T.fz (D.list (r4.map (fun p : (Int × Int × Option Int × Str) => D.tup [(D.int p.1), (D.int p.2.1), (eO p.2.2.1), (D.str p.2.2.2)])))), (.ow (T.lst [(T.fl ((((r36, r38).1).map (fun p : (Str × Int) => D.tup [(D.str p.1), (D.int p.2)])) ++ [D.none])), (T.fl (((r36, r38).2).map (fun p : (Str × Int) => D.tup [(D.str p.1), (D.int p.2)])))])), .ow (T.fz (D.int r27.1)), .ow (T.fz (D.list (r30.map (fun p : (Str × Int) => D.tup [(D.str p.1), (D.int p.2)])))), .no, .ow (T.fz (D.int y68.1)), .ow (T.fz (D.int y68.2.1)), .no, .no]) (.io <| .ow <| .ow <| .ow <| .ow <| .fr Free.ow <| .ow <| .ow <| .no <| .ow <| .no <| .no <| .no <| .nil) rfl Free.no rfl ?_
                  refine bd_go_cons (ρ2 := [.io (T.fl (r27.2.map D.int)), .ow (T.fz (D.int v_firms)), .ow (T.fz (D.list (v_acts.map (fun p : (Str × Int) => D.tup [(D.str p.1), (D.int p.2)])))), .ow (T.fz (D.str ((D.list (v_acts.map (fun p : (Str × Int) => D.tup [(D.str p.1), (D.int p.2)]))).toPy.shown))), .ow (T.fz (D.list (r4.map (fun p : (Int × Int × Option Int × Str) => D.tup [(D.int p.1), (D.int p.2.1), (eO p.2.2.1), (D.str p.2.2.2)])))), (.ow (T.lst [(T.fl ((((r36, r38).1).map (fun p : (Str × Int) => D.tup [(D.str p.1), (D.int p.2)])) ++ [D.none])), (T.fl (((r36, r38).2).map (fun p : (Str × Int) => D.tup [(D.str p.1), (D.int p.2)])))])), .ow (T.fz (D.int r27.1)), .ow (T.fz (D.list (r30.map (fun p : (Str × Int) => D.tup [(D.str p.1), (D.int p.2)])))), .no, .ow (T.fz (D.int y68.1)), .ow (T.fz (D.int y68.2.1)), .ow (T.fz (eO y68.2.2.1)), .no]) (.io <| .ow <| .ow <| .ow <| .ow <| .fr Free.ow <| .ow <| .ow <| .no <| .ow <| .ow <| .no <| .no <| .nil) rfl Free.no rfl ?_
                  refine bd_go_cons (ρ2 := [.io (T.fl (r27.2.map D.int)), .ow (T.fz (D.int v_firms)), .ow (T.fz (D.list (v_acts.map (fun p : (Str × Int) => D.tup [(D.str p.1), (D.int p.2)])))), .ow (T.fz (D.str ((D.list (v_acts.map (fun p : (Str × Int) => D.tup [(D.str p.1), (D.int p.2)]))).toPy.shown))), .ow (T.fz (D.list (r4.map (fun p : (Int × Int × Option Int × Str) => D.tup [(D.int p.1), (D.int p.2.1), (eO p.2.2.1), (D.str p.2.2.2)])))), (.ow (T.lst [(T.fl ((((r36, r38).1).map (fun p : (Str × Int) => D.tup [(D.str p.1), (D.int p.2)])) ++ [D.none])), (T.fl (((r36, r38).2).map (fun p : (Str × Int) => D.tup [(D.str p.1), (D.int p.2)])))])), .ow (T.fz (D.int r27.1)), .ow (T.fz (D.list (r30.map (fun p : (Str × Int) => D.tup [(D.str p.1), (D.int p.2)])))), .no, .ow (T.fz (D.int y68.1)), .ow (T.fz (D.int y68.2.1)), .ow (T.fz (eO y68.2.2.1)), .ow (T.fz (D.str y68.2.2.2))]) (.io <| .ow <| .ow <| .ow <| .ow <| .fr Free.ow <| .ow <| .ow <| .no <| .ow <| .ow <| .ow <| .no <| .nil) rfl Free.no rfl ?_
                  refine bd_go_nil ?_
                  refine lcB_none ?_
                  refine w_fzvK ?_
                  refine w_tup ?_
                  refine ws_cons ?_
                  refine w_fzvK ?_
                  refine w_var (oQ_in rfl ?_)
                  refine fzk_fz (d := (D.int y68.1)) ?_
                  refine ws_cons ?_
                  refine w_fzvK ?_
                  refine w_var (oQ_in rfl ?_)
                  refine fzk_fz (d := (D.str y68.2.2.2)) ?_
                  refine ws_nil ?_
                  refine ⟨rfl, rfl, ?_⟩
                  refine oQ_in rfl ?_
                  refine fzk_fz (d := (D.tup [(D.int ((y68.1, y68.2.2.2).1)), (D.str ((y68.1, y68.2.2.2).2))])) ?_
                  refine oQ_in rfl ⟨⟨(y68.1, y68.2.2.2), (Option.some.inj h72).symm, rfl⟩, (wipe_cons (ρ2 := [.io (T.fl (r27.2.map D.int)), .ow (T.fz (D.int v_firms)), .ow (T.fz (D.list (v_acts.map (fun p : (Str × Int) => D.tup [(D.str p.1), (D.int p.2)])))), .ow (T.fz (D.str ((D.list (v_acts.map (fun p : (Str × Int) => D.tup [(D.str p.1), (D.int p.2)]))).toPy.shown))), .ow (T.fz (D.list (r4.map (fun p : (Int × Int × Option Int × Str) => D.tup [(D.int p.1), (D.int p.2.1), (eO p.2.2.1), (D.str p.2.2.2)])))), (.ow (T.lst [(T.fl ((((r36, r38).1).map (fun p : (Str × Int) => D.tup [(D.str p.1), (D.int p.2)])) ++ [D.none])), (T.fl (((r36, r38).2).map (fun p : (Str × Int) => D.tup [(D.str p.1), (D.int p.2)])))])), .ow (T.fz (D.int r27.1)), .ow (T.fz (D.list (r30.map (fun p : (Str × Int) => D.tup [(D.str p.1), (D.int p.2)])))), .no, .no, .no, .no, .no]) (wipe_cons (ρ2 := [.io (T.fl (r27.2.map D.int)), .ow (T.fz (D.int v_firms)), .ow (T.fz (D.list (v_acts.map (fun p : (Str × Int) => D.tup [(D.str p.1), (D.int p.2)])))), .ow (T.fz (D.str ((D.list (v_acts.map (fun p : (Str × Int) => D.tup [(D.str p.1), (D.int p.2)]))).toPy.shown))), .ow (T.fz (D.list (r4.map (fun p : (Int × Int × Option Int × Str) => D.tup [(D.int p.1), (D.int p.2.1), (eO p.2.2.1), (D.str p.2.2.2)])))), (.ow (T.lst [(T.fl ((((r36, r38).1).map (fun p : (Str × Int) => D.tup [(D.str p.1), (D.int p.2)])) ++ [D.none])), (T.fl (((r36, r38).2).map (fun p : (Str × Int) => D.tup [(D.str p.1), (D.int p.2)])))])), .ow (T.fz (D.int r27.1)), .ow (T.fz (D.list (r30.map (fun p : (Str × Int) => D.tup [(D.str p.1), (D.int p.2)])))), .no, .ow (T.fz (D.int y68.1)), .no, .no, .no]) (wipe_cons (ρ2 := [.io (T.fl (r27.2.map D.int)), .ow (T.fz (D.int v_firms)), .ow (T.fz (D.list (v_acts.map (fun p : (Str × Int) => D.tup [(D.str p.1), (D.int p.2)])))), .ow (T.fz (D.str ((D.list (v_acts.map (fun p : (Str × Int) => D.tup [(D.str p.1), (D.int p.2)]))).toPy.shown))), .ow (T.fz (D.list (r4.map (fun p : (Int × Int × Option Int × Str) => D.tup [(D.int p.1), (D.int p.2.1), (eO p.2.2.1), (D.str p.2.2.2)])))), (.ow (T.lst [(T.fl ((((r36, r38).1).map (fun p : (Str × Int) => D.tup [(D.str p.1), (D.int p.2)])) ++ [D.none])), (T.fl (((r36, r38).2).map (fun p : (Str × Int) => D.tup [(D.str p.1), (D.int p.2)])))])), .ow (T.fz (D.int r27.1)), .ow (T.fz (D.list (r30.map (fun p : (Str × Int) => D.tup [(D.str p.1), (D.int p.2)])))), .no, .ow (T.fz (D.int y68.1)), .ow (T.fz (D.int y68.2.1)), .no, .no]) (wipe_cons (ρ2 := [.io (T.fl (r27.2.map D.int)), .ow (T.fz (D.int v_firms)), .ow (T.fz (D.list (v_acts.map (fun p : (Str × Int) => D.tup [(D.str p.1), (D.int p.2)])))), .ow (T.fz (D.str ((D.list (v_acts.map (fun p : (Str × Int) => D.tup [(D.str p.1), (D.int p.2)]))).toPy.shown))), .ow (T.fz (D.list (r4.map (fun p : (Int × Int × Option Int × Str) => D.tup [(D.int p.1), (D.int p.2.1), (eO p.2.2.1), (D.str p.2.2.2)])))), (.ow (T.lst [(T.fl ((((r36, r38).1).map (fun p : (Str × Int) => D.tup [(D.str p.1), (D.int p.2)])) ++ [D.none])), (T.fl (((r36, r38).2).map (fun p : (Str × Int) => D.tup [(D.str p.1), (D.int p.2)])))])), .ow (T.fz (D.int r27.1)), .ow (T.fz (D.list (r30.map (fun p : (Str × Int) => D.tup [(D.str p.1), (D.int p.2)])))), .no, .ow (T.fz (D.int y68.1)), .ow (T.fz (D.int y68.2.1)), .ow (T.fz (eO y68.2.2.1)), .no]) (rfl : wipeE _ [] = [.io (T.fl (r27.2.map D.int)), .ow (T.fz (D.int v_firms)), .ow (T.fz (D.list (v_acts.map (fun p : (Str × Int) => D.tup [(D.str p.1), (D.int p.2)])))), .ow (T.fz (D.str ((D.list (v_acts.map (fun p : (Str × Int) => D.tup [(D.str p.1), (D.int p.2)]))).toPy.shown))), .ow (T.fz (D.list (r4.map (fun p : (Int × Int × Option Int × Str) => D.tup [(D.int p.1), (D.int p.2.1), (eO p.2.2.1), (D.str p.2.2.2)])))), (.ow (T.lst [(T.fl ((((r36, r38).1).map (fun p : (Str × Int) => D.tup [(D.str p.1), (D.int p.2)])) ++ [D.none])), (T.fl (((r36, r38).2).map (fun p : (Str × Int) => D.tup [(D.str p.1), (D.int p.2)])))])), .ow (T.fz (D.int r27.1)), .ow (T.fz (D.list (r30.map (fun p : (Str × Int) => D.tup [(D.str p.1), (D.int p.2)])))), .no, .ow (T.fz (D.int y68.1)), .ow (T.fz (D.int y68.2.1)), .ow (T.fz (eO y68.2.2.1)), .ow (T.fz (D.str y68.2.2.2))]) (.io <| .ow <| .ow <| .ow <| .ow <| .fr Free.ow <| .ow <| .ow <| .no <| .ow <| .ow <| .ow <| .ow <| .nil) rfl) (.io <| .ow <| .ow <| .ow <| .ow <| .fr Free.ow <| .ow <| .ow <| .no <| .ow <| .ow <| .ow <| .no <| .nil) rfl) (.io <| .ow <| .ow <| .ow <| .ow <| .fr Free.ow <| .ow <| .ow <| .no <| .ow <| .ow <| .no <| .no <| .nil) rfl) (.io <| .ow <| .ow <| .ow <| .ow <| .fr Free.ow <| .ow <| .ow <| .no <| .ow <| .no <| .no <| .no <| .nil) rfl)⟩
                · rintro _ rfl
                  refine ⟨fzs_len k71, ?_⟩
                  refine set_in (ρ2 := [.io (T.fl (r27.2.map D.int)), .ow (T.fz (D.int v_firms)), .ow (T.fz (D.list (v_acts.map (fun p : (Str × Int) => D.tup [(D.str p.1), (D.int p.2)])))), .ow (T.fz (D.str ((D.list (v_acts.map (fun p : (Str × Int) => D.tup [(D.str p.1), (D.int p.2)]))).toPy.shown))), .ow (T.fz (D.list (r4.map (fun p : (Int × Int × Option Int × Str) => D.tup [(D.int p.1), (D.int p.2.1), (eO p.2.2.1), (D.str p.2.2.2)])))), (.ow (T.lst [(T.fl ((((r36, r38).1).map (fun p : (Str × Int) => D.tup [(D.str p.1), (D.int p.2)])) ++ [D.none])), (T.fl (((r36, r38).2).map (fun p : (Str × Int) => D.tup [(D.str p.1), (D.int p.2)])))])), .ow (T.fz (D.int r27.1)), .ow (T.fz (D.list (r30.map (fun p : (Str × Int) => D.tup [(D.str p.1), (D.int p.2)])))), .ow (T.fl (r69.map (fun p : (Int × Str) => D.tup [(D.int p.1), (D.str p.2)]))), .no, .no, .no, .no]) (.io <| .ow <| .ow <| .ow <| .ow <| .fr Free.ow <| .ow <| .ow <| .no <| .no <| .no <| .no <| .no <| .nil) rfl Free.no rfl ?_
                  refine nxe (ρ2 := [.io (T.fl (r27.2.map D.int)), .ow (T.fz (D.int v_firms)), .ow (T.fz (D.list (v_acts.map (fun p : (Str × Int) => D.tup [(D.str p.1), (D.int p.2)])))), .ow (T.fz (D.str ((D.list (v_acts.map (fun p : (Str × Int) => D.tup [(D.str p.1), (D.int p.2)]))).toPy.shown))), .ow (T.fz (D.list (r4.map (fun p : (Int × Int × Option Int × Str) => D.tup [(D.int p.1), (D.int p.2.1), (eO p.2.2.1), (D.str p.2.2.2)])))), (.ow (T.lst [(T.fl ((((r36, r38).1).map (fun p : (Str × Int) => D.tup [(D.str p.1), (D.int p.2)])) ++ [D.none])), (T.fl (((r36, r38).2).map (fun p : (Str × Int) => D.tup [(D.str p.1), (D.int p.2)])))])), .ow (T.fz (D.int r27.1)), .ow (T.fz (D.list (r30.map (fun p : (Str × Int) => D.tup [(D.str p.1), (D.int p.2)])))), .ow (T.fl (r69.map (fun p : (Int × Str) => D.tup [(D.int p.1), (D.str p.2)]))), .no, .no, .no, .no]) rfl ?_
                  refine ss_cons ?_
                  refine wp_ret ?_
                  refine w_cmp ?_
                  refine w_var (oQ_in rfl ?_)
                  refine w_lc ?_
                  refine wi_seq ?_
                  refine w_var (oQ_in rfl ?_)
                  refine oQ_in rfl (dSeq_1 rfl ?_)
                  obtain ⟨r75, g76, h⟩ := bnd h
                  obtain ⟨g76, k77⟩ := lcG_some g76
                  refine ⟨rfl, loopC_cast rfl ?_⟩
                  refine lc_sim (e := (fun p : (Int × Int × Option Int × Str) => D.tup [(D.int p.1), (D.int p.2.1), (eO p.2.2.1), (D.str p.2.2.2)])) (e2 := (fun p : (Int × Str) => D.tup [(D.int p.1), (D.str p.2)])) (l := r4) (r := r75) (fun ρ => ρ = [.io (T.fl (r27.2.map D.int)), .ow (T.fz (D.int v_firms)), .ow (T.fz (D.list (v_acts.map (fun p : (Str × Int) => D.tup [(D.str p.1), (D.int p.2)])))), .ow (T.fz (D.str ((D.list (v_acts.map (fun p : (Str × Int) => D.tup [(D.str p.1), (D.int p.2)]))).toPy.shown))), .ow (T.fz (D.list (r4.map (fun p : (Int × Int × Option Int × Str) => D.tup [(D.int p.1), (D.int p.2.1), (eO p.2.2.1), (D.str p.2.2.2)])))), (.ow (T.lst [(T.fl ((((r36, r38).1).map (fun p : (Str × Int) => D.tup [(D.str p.1), (D.int p.2)])) ++ [D.none])), (T.fl (((r36, r38).2).map (fun p : (Str × Int) => D.tup [(D.str p.1), (D.int p.2)])))])), .ow (T.fz (D.int r27.1)), .ow (T.fz (D.list (r30.map (fun p : (Str × Int) => D.tup [(D.str p.1), (D.int p.2)])))), .ow (T.fl (r69.map (fun p : (Int × Str) => D.tup [(D.int p.1), (D.str p.2)]))), .no, .no, .no, .no]) g76 (wipe_cons (ρ2 := [.io (T.fl (r27.2.map D.int)), .ow (T.fz (D.int v_firms)), .ow (T.fz (D.list (v_acts.map (fun p : (Str × Int) => D.tup [(D.str p.1), (D.int p.2)])))), .ow (T.fz (D.str ((D.list (v_acts.map (fun p : (Str × Int) => D.tup [(D.str p.1), (D.int p.2)]))).toPy.shown))), .ow (T.fz (D.list (r4.map (fun p : (Int × Int × Option Int × Str) => D.tup [(D.int p.1), (D.int p.2.1), (eO p.2.2.1), (D.str p.2.2.2)])))), (.ow (T.lst [(T.fl ((((r36, r38).1).map (fun p : (Str × Int) => D.tup [(D.str p.1), (D.int p.2)])) ++ [D.none])), (T.fl (((r36, r38).2).map (fun p : (Str × Int) => D.tup [(D.str p.1), (D.int p.2)])))])), .ow (T.fz (D.int r27.1)), .ow (T.fz (D.list (r30.map (fun p : (Str × Int) => D.tup [(D.str p.1), (D.int p.2)])))), .ow (T.fl (r69.map (fun p : (Int × Str) => D.tup [(D.int p.1), (D.str p.2)]))), .no, .no, .no, .no]) (wipe_cons (ρ2 := [.io (T.fl (r27.2.map D.int)), .ow (T.fz (D.int v_firms)), .ow (T.fz (D.list (v_acts.map (fun p : (Str × Int) => D.tup [(D.str p.1), (D.int p.2)])))), .ow (T.fz (D.str ((D.list (v_acts.map (fun p : (Str × Int) => D.tup [(D.str p.1), (D.int p.2)]))).toPy.shown))), .ow (T.fz (D.list (r4.map (fun p : (Int × Int × Option Int × Str) => D.tup [(D.int p.1), (D.int p.2.1), (eO p.2.2.1), (D.str p.2.2.2)])))), (.ow (T.lst [(T.fl ((((r36, r38).1).map (fun p : (Str × Int) => D.tup [(D.str p.1), (D.int p.2)])) ++ [D.none])), (T.fl (((r36, r38).2).map (fun p : (Str × Int) => D.tup [(D.str p.1), (D.int p.2)])))])), .ow (T.fz (D.int r27.1)), .ow (T.fz (D.list (r30.map (fun p : (Str × Int) => D.tup [(D.str p.1), (D.int p.2)])))), .ow (T.fl (r69.map (fun p : (Int × Str) => D.tup [(D.int p.1), (D.str p.2)]))), .no, .no, .no, .no]) (wipe_cons (ρ2 := [.io (T.fl (r27.2.map D.int)), .ow (T.fz (D.int v_firms)), .ow (T.fz (D.list (v_acts.map (fun p : (Str × Int) => D.tup [(D.str p.1), (D.int p.2)])))), .ow (T.fz (D.str ((D.list (v_acts.map (fun p : (Str × Int) => D.tup [(D.str p.1), (D.int p.2)]))).toPy.shown))), .ow (T.fz (D.list (r4.map (fun p : (Int × Int × Option Int × Str) => D.tup [(D.int p.1), (D.int p.2.1), (eO p.2.2.1), (D.str p.2.2.2)])))), (.ow (T.lst [(T.fl ((((r36, r38).1).map (fun p : (Str × Int) => D.tup [(D.str p.1), (D.int p.2)])) ++ [D.none])), (T.fl (((r36, r38).2).map (fun p : (Str × Int) => D.tup [(D.str p.1), (D.int p.2)])))])), .ow (T.fz (D.int r27.1)), .ow (T.fz (D.list (r30.map (fun p : (Str × Int) => D.tup [(D.str p.1), (D.int p.2)])))), .ow (T.fl (r69.map (fun p : (Int × Str) => D.tup [(D.int p.1), (D.str p.2)]))), .no, .no, .no, .no]) (wipe_cons (ρ2 := [.io (T.fl (r27.2.map D.int)), .ow (T.fz (D.int v_firms)), .ow (T.fz (D.list (v_acts.map (fun p : (Str × Int) => D.tup [(D.str p.1), (D.int p.2)])))), .ow (T.fz (D.str ((D.list (v_acts.map (fun p : (Str × Int) => D.tup [(D.str p.1), (D.int p.2)]))).toPy.shown))), .ow (T.fz (D.list (r4.map (fun p : (Int × Int × Option Int × Str) => D.tup [(D.int p.1), (D.int p.2.1), (eO p.2.2.1), (D.str p.2.2.2)])))), (.ow (T.lst [(T.fl ((((r36, r38).1).map (fun p : (Str × Int) => D.tup [(D.str p.1), (D.int p.2)])) ++ [D.none])), (T.fl (((r36, r38).2).map (fun p : (Str × Int) => D.tup [(D.str p.1), (D.int p.2)])))])), .ow (T.fz (D.int r27.1)), .ow (T.fz (D.list (r30.map (fun p : (Str × Int) => D.tup [(D.str p.1), (D.int p.2)])))), .ow (T.fl (r69.map (fun p : (Int × Str) => D.tup [(D.int p.1), (D.str p.2)]))), .no, .no, .no, .no]) (rfl : wipeE _ [] = [.io (T.fl (r27.2.map D.int)), .ow (T.fz (D.int v_firms)), .ow (T.fz (D.list (v_acts.map (fun p : (Str × Int) => D.tup [(D.str p.1), (D.int p.2)])))), .ow (T.fz (D.str ((D.list (v_acts.map (fun p : (Str × Int) => D.tup [(D.str p.1), (D.int p.2)]))).toPy.shown))), .ow (T.fz (D.list (r4.map (fun p : (Int × Int × Option Int × Str) => D.tup [(D.int p.1), (D.int p.2.1), (eO p.2.2.1), (D.str p.2.2.2)])))), (.ow (T.lst [(T.fl ((((r36, r38).1).map (fun p : (Str × Int) => D.tup [(D.str p.1), (D.int p.2)])) ++ [D.none])), (T.fl (((r36, r38).2).map (fun p : (Str × Int) => D.tup [(D.str p.1), (D.int p.2)])))])), .ow (T.fz (D.int r27.1)), .ow (T.fz (D.list (r30.map (fun p : (Str × Int) => D.tup [(D.str p.1), (D.int p.2)])))), .ow (T.fl (r69.map (fun p : (Int × Str) => D.tup [(D.int p.1), (D.str p.2)]))), .no, .no, .no, .no]) (.io <| .ow <| .ow <| .ow <| .ow <| .fr Free.ow <| .ow <| .ow <| .ow <| .no <| .no <| .no <| .no <| .nil) rfl) (.io <| .ow <| .ow <| .ow <| .ow <| .fr Free.ow <| .ow <| .ow <| .ow <| .no <| .no <| .no <| .no <| .nil) rfl) (.io <| .ow <| .ow <| .ow <| .ow <| .fr Free.ow <| .ow <| .ow <| .ow <| .no <| .no <| .no <| .no <| .nil) rfl) (.io <| .ow <| .ow <| .ow <| .ow <| .fr Free.ow <| .ow <| .ow <| .ow <| .no <| .no <| .no <| .no <| .nil) rfl) ?_ ?_
                  · rintro y74 o79 _ _ h78 rfl
                    refine bd_tp rfl ?_
                    refine bd_go_cons (ρ2 := [.io (T.fl (r27.2.map D.int)), .ow (T.fz (D.int v_firms)), .ow (T.fz (D.list (v_acts.map (fun p : (Str × Int) => D.tup [(D.str p.1), (D.int p.2)])))), .ow (T.fz (D.str ((D.list (v_acts.map (fun p : (Str × Int) => D.tup [(D.str p.1), (D.int p.2)]))).toPy.shown))), .ow (T.fz (D.list (r4.map (fun p : (Int × Int × Option Int × Str) => D.tup [(D.int p.1), (D.int p.2.1), (eO p.2.2.1), (D.str p.2.2.2)])))), (.ow (T.lst [(T.fl ((((r36, r38).1).map (fun p : (Str × Int) => D.tup [(D.str p.1), (D.int p.2)])) ++ [D.none])), (T.fl (((r36, r38).2).map (fun p : (Str × Int) => D.tup [(D.str p.1), (D.int p.2)])))])), .ow (T.fz (D.int r27.1)), .ow (T.fz (D.list (r30.map (fun p : (Str × Int) => D.tup [(D.str p.1), (D.int p.2)])))), .ow (T.fl (r69.map (fun p : (Int × Str) => D.tup [(D.int p.1), (D.str p.2)]))), .ow (T.fz (D.int y74.1)), .no, .no, .no]) (.io <| .ow <| .ow <| .ow <| .ow <| .fr Free.ow <| .ow <| .ow <| .ow <| .no <| .no <| .no <| .no <| .nil) rfl Free.no rfl ?_
                    refine bd_go_cons (ρ2 := [.io (T.fl (r27.2.map D.int)), .ow (T.fz (D.int v_firms)), .ow (T.fz (D.list (v_acts.map (fun p : (Str × Int) => D.tup [(D.str p.1), (D.int p.2)])))), .ow (T.fz (D.str ((D.list (v_acts.map (fun p : (Str × Int) => D.tup [(D.str p.1), (D.int p.2)]))).toPy.shown))), .ow (T.fz (D.list (r4.map (fun p : (Int × Int × Option Int × Str) => D.tup [(D.int p.1), (D.int p.2.1), (eO p.2.2.1), (D.str p.2.2.2)])))), (.ow (T.lst [(T.fl ((((r36, r38).1).map (fun p : (Str × Int) => D.tup [(D.str p.1), (D.int p.2)])) ++ [D.none])), (T.fl (((r36, r38).2).map (fun p : (Str × Int) => D.tup [(D.str p.1), (D.int p.2)])))])), .ow (T.fz (D.int r27.1)), .ow (T.fz (D.list (r30.map (fun p : (Str × Int) => D.tup [(D.str p.1), (D.int p.2)])))), .ow (T.fl (r69.map (fun p : (Int × Str) => D.tup [(D.int p.1), (D.str p.2)]))), .ow (T.fz (D.int y74.1)), .ow (T.fz (D.int y74.2.1)), .no, .no]) (.io <| .ow <| .ow <| .ow <| .ow <| .fr Free.ow <| .ow <| .ow <| .ow <| .ow <| .no <| .no <| .no <| .nil) rfl Free.no rfl ?_
                    refine bd_go_cons (ρ2 := [.io (T.fl (r27.2.map D.int)), .ow (T.fz (D.int v_firms)), .ow (T.fz (D.list (v_acts.map (fun p : (Str × Int) => D.tup [(D.str p.1), (D.int p.2)])))), .ow (T.fz (D.str ((D.list (v_acts.map (fun p : (Str × Int) => D.tup [(D.str p.1), (D.int p.2)]))).toPy.shown))), .ow (T.fz (D.list (r4.map (fun p : (Int × Int × Option Int × Str) => D.tup [(D.int p.1), (D.int p.2.1), (eO p.2.2.1), (D.str p.2.2.2)])))), (.ow (T.lst [(T.fl ((((r36, r38).1).map (fun p : (Str × Int) => D.tup [(D.str p.1), (D.int p.2)])) ++ [D.none])), (T.fl (((r36, r38).2).map (fun p : (Str × Int) => D.tup [(D.str p.1), (D.int p.2)])))])), .ow (T.fz (D.int r27.1)), .ow (T.fz (D.list (r30.map (fun p : (Str × Int) => D.tup [(D.str p.1), (D.int p.2)])))), .ow (T.fl (r69.map (fun p : (Int × Str) => D.tup [(D.int p.1), (D.str p.2)]))), .ow (T.fz (D.int y74.1)), .ow (T.fz (D.int y74.2.1)), .ow (T.fz (eO y74.2.2.1)), .no]) (.io <| .ow <| .ow <| .ow <| .ow <| .fr Free.ow <| .ow <| .ow <| .ow <| .ow <| .ow <| .no <| .no <| .nil) rfl Free.no rfl ?_
                    refine bd_go_cons (ρ2 := [.io (T.fl (r27.2.map D.int)), .ow (T.fz (D.int v_firms)), .ow (T.fz (D.list (v_acts.map (fun p : (Str × Int) => D.tup [(D.str p.1), (D.int p.2)])))), .ow (T.fz (D.str ((D.list (v_acts.map (fun p : (Str × Int) => D.tup [(D.str p.1), (D.int p.2)]))).toPy.shown))), .ow (T.fz (D.list (r4.map (fun p : (Int × Int × Option Int × Str) => D.tup [(D.int p.1), (D.int p.2.1), (eO p.2.2.1), (D.str p.2.2.2)])))), (.ow (T.lst [(T.fl ((((r36, r38).1).map (fun p : (Str × Int) => D.tup [(D.str p.1), (D.int p.2)])) ++ [D.none])), (T.fl (((r36, r38).2).map (fun p : (Str × Int) => D.tup [(D.str p.1), (D.int p.2)])))])), .ow (T.fz (D.int r27.1)), .ow (T.fz (D.list (r30.map (fun p : (Str × Int) => D.tup [(D.str p.1), (D.int p.2)])))), .ow (T.fl (r69.map (fun p : (Int × Str) => D.tup [(D.int p.1), (D.str p.2)]))), .ow (T.fz (D.int y74.1)), .ow (T.fz (D.int y74.2.1)), .ow (T.fz (eO y74.2.2.1)), .ow (T.fz (D.str y74.2.2.2))]) (.io <| .ow <| .ow <| .ow <| .ow <| .fr Free.ow <| .ow <| .ow <| .ow <| .ow <| .ow <| .ow <| .no <| .nil) rfl Free.no rfl ?_
                    refine bd_go_nil ?_
                    refine lcB_some ?_
                    refine wt_cmp ?_
                    refine w_var (oQ_in rfl ?_)
                    refine w_var (oQ_in rfl ?_)
                    refine ⟨rfl, oQ_in rfl (oQ_in rfl ?_)⟩
                    by_cases c80 : ¬ y74.1 = r27.1
                    · replace h78 := ift c80 h78
                      refine wc_ne_t c80 ?_
                      refine ⟨fun _ => ?_, fun z => absurd z (by decide)⟩
                      refine w_fzvK ?_
                      refine w_tup ?_
                      refine ws_cons ?_
                      refine w_fzvK ?_
                      refine w_var (oQ_in rfl ?_)
                      refine fzk_fz (d := (D.int y74.1)) ?_
                      refine ws_cons ?_
                      refine w_fzvK ?_
                      refine w_var (oQ_in rfl ?_)
                      refine fzk_fz (d := (D.str y74.2.2.2)) ?_
                      refine ws_nil ?_
                      refine ⟨rfl, rfl, ?_⟩
                      refine oQ_in rfl ?_
                      refine fzk_fz (d := (D.tup [(D.int ((y74.1, y74.2.2.2).1)), (D.str ((y74.1, y74.2.2.2).2))])) ?_
                      refine oQ_in rfl ⟨⟨(y74.1, y74.2.2.2), (Option.some.inj h78).symm, rfl⟩, (wipe_cons (ρ2 := [.io (T.fl (r27.2.map D.int)), .ow (T.fz (D.int v_firms)), .ow (T.fz (D.list (v_acts.map (fun p : (Str × Int) => D.tup [(D.str p.1), (D.int p.2)])))), .ow (T.fz (D.str ((D.list (v_acts.map (fun p : (Str × Int) => D.tup [(D.str p.1), (D.int p.2)]))).toPy.shown))), .ow (T.fz (D.list (r4.map (fun p : (Int × Int × Option Int × Str) => D.tup [(D.int p.1), (D.int p.2.1), (eO p.2.2.1), (D.str p.2.2.2)])))), (.ow (T.lst [(T.fl ((((r36, r38).1).map (fun p : (Str × Int) => D.tup [(D.str p.1), (D.int p.2)])) ++ [D.none])), (T.fl (((r36, r38).2).map (fun p : (Str × Int) => D.tup [(D.str p.1), (D.int p.2)])))])), .ow (T.fz (D.int r27.1)), .ow (T.fz (D.list (r30.map (fun p : (Str × Int) => D.tup [(D.str p.1), (D.int p.2)])))), .ow (T.fl (r69.map (fun p : (Int × Str) => D.tup [(D.int p.1), (D.str p.2)]))), .no, .no, .no, .no]) (wipe_cons (ρ2 := [.io (T.fl (r27.2.map D.int)), .ow (T.fz (D.int v_firms)), .ow (T.fz (D.list (v_acts.map (fun p : (Str × Int) => D.tup [(D.str p.1), (D.int p.2)])))), .ow (T.fz (D.str ((D.list (v_acts.map (fun p : (Str × Int) => D.tup [(D.str p.1), (D.int p.2)]))).toPy.shown))), .ow (T.fz (D.list (r4.map (fun p : (Int × Int × Option Int × Str) => D.tup [(D.int p.1), (D.int p.2.1), (eO p.2.2.1), (D.str p.2.2.2)])))), (.ow (T.lst [(T.fl ((((r36, r38).1).map (fun p : (Str × Int) => D.tup [(D.str p.1), (D.int p.2)])) ++ [D.none])), (T.fl (((r36, r38).2).map (fun p : (Str × Int) => D.tup [(D.str p.1), (D.int p.2)])))])), .ow (T.fz (D.int r27.1)), .ow (T.fz (D.list (r30.map (fun p : (Str × Int) => D.tup [(D.str p.1), (D.int p.2)])))), .ow (T.fl (r69.map (fun p : (Int × Str) => D.tup [(D.int p.1), (D.str p.2)]))), .ow (T.fz (D.int y74.1)), .no, .no, .no]) (wipe_cons (ρ2 := [.io (T.fl (r27.2.map D.int)), .ow (T.fz (D.int v_firms)), .ow (T.fz (D.list (v_acts.map (fun p : (Str × Int) => D.tup [(D.str p.1), (D.int p.2)])))), .ow (T.fz (D.str ((D.list (v_acts.map (fun p : (Str × Int) => D.tup [(D.str p.1), (D.int p.2)]))).toPy.shown))), .ow (T.fz (D.list (r4.map (fun p : (Int × Int × Option Int × Str) => D.tup [(D.int p.1), (D.int p.2.1), (eO p.2.2.1), (D.str p.2.2.2)])))), (.ow (T.lst [(T.fl ((((r36, r38).1).map (fun p : (Str × Int) => D.tup [(D.str p.1), (D.int p.2)])) ++ [D.none])), (T.fl (((r36, r38).2).map (fun p : (Str × Int) => D.tup [(D.str p.1), (D.int p.2)])))])), .ow (T.fz (D.int r27.1)), .ow (T.fz (D.list (r30.map (fun p : (Str × Int) => D.tup [(D.str p.1), (D.int p.2)])))), .ow (T.fl (r69.map (fun p : (Int × Str) => D.tup [(D.int p.1), (D.str p.2)]))), .ow (T.fz (D.int y74.1)), .ow (T.fz (D.int y74.2.1)), .no, .no]) (wipe_cons (ρ2 := [.io (T.fl (r27.2.map D.int)), .ow (T.fz (D.int v_firms)), .ow (T.fz (D.list (v_acts.map (fun p : (Str × Int) => D.tup [(D.str p.1), (D.int p.2)])))), .ow (T.fz (D.str ((D.list (v_acts.map (fun p : (Str × Int) => D.tup [(D.str p.1), (D.int p.2)]))).toPy.shown))), .ow (T.fz (D.list (r4.map (fun p : (Int × Int × Option Int × Str) => D.tup [(D.int p.1), (D.int p.2.1), (eO p.2.2.1), (D.str p.2.2.2)])))), (.ow (T.lst [(T.fl ((((r36, r38).1).map (fun p : (Str × Int) => D.tup [(D.str p.1), (D.int p.2)])) ++ [D.none])), (T.fl (((r36, r38).2).map (fun p : (Str × Int) => D.tup [(D.str p.1), (D.int p.2)])))])), .ow (T.fz (D.int r27.1)), .ow (T.fz (D.list (r30.map (fun p : (Str × Int) => D.tup [(D.str p.1), (D.int p.2)])))), .ow (T.fl (r69.map (fun p : (Int × Str) => D.tup [(D.int p.1), (D.str p.2)]))), .ow (T.fz (D.int y74.1)), .ow (T.fz (D.int y74.2.1)), .ow (T.fz (eO y74.2.2.1)), .no]) (rfl : wipeE _ [] = [.io (T.fl (r27.2.map D.int)), .ow (T.fz (D.int v_firms)), .ow (T.fz (D.list (v_acts.map (fun p : (Str × Int) => D.tup [(D.str p.1), (D.int p.2)])))), .ow (T.fz (D.str ((D.list (v_acts.map (fun p : (Str × Int) => D.tup [(D.str p.1), (D.int p.2)]))).toPy.shown))), .ow (T.fz (D.list (r4.map (fun p : (Int × Int × Option Int × Str) => D.tup [(D.int p.1), (D.int p.2.1), (eO p.2.2.1), (D.str p.2.2.2)])))), (.ow (T.lst [(T.fl ((((r36, r38).1).map (fun p : (Str × Int) => D.tup [(D.str p.1), (D.int p.2)])) ++ [D.none])), (T.fl (((r36, r38).2).map (fun p : (Str × Int) => D.tup [(D.str p.1), (D.int p.2)])))])), .ow (T.fz (D.int r27.1)), .ow (T.fz (D.list (r30.map (fun p : (Str × Int) => D.tup [(D.str p.1), (D.int p.2)])))), .ow (T.fl (r69.map (fun p : (Int × Str) => D.tup [(D.int p.1), (D.str p.2)]))), .ow (T.fz (D.int y74.1)), .ow (T.fz (D.int y74.2.1)), .ow (T.fz (eO y74.2.2.1)), .ow (T.fz (D.str y74.2.2.2))]) (.io <| .ow <| .ow <| .ow <| .ow <| .fr Free.ow <| .ow <| .ow <| .ow <| .ow <| .ow <| .ow <| .ow <| .nil) rfl) (.io <| .ow <| .ow <| .ow <| .ow <| .fr Free.ow <| .ow <| .ow <| .ow <| .ow <| .ow <| .ow <| .no <| .nil) rfl) (.io <| .ow <| .ow <| .ow <| .ow <| .fr Free.ow <| .ow <| .ow <| .ow <| .ow <| .ow <| .no <| .no <| .nil) rfl) (.io <| .ow <| .ow <| .ow <| .ow <| .fr Free.ow <| .ow <| .ow <| .ow <| .ow <| .no <| .no <| .no <| .nil) rfl)⟩
                    · replace h78 := iff_ c80 h78
                      refine wc_ne_f c80 ?_
                      exact ⟨fun z => absurd z (by decide), fun _ => ⟨(Option.some.inj h78).symm, (wipe_cons (ρ2 := [.io (T.fl (r27.2.map D.int)), .ow (T.fz (D.int v_firms)), .ow (T.fz (D.list (v_acts.map (fun p : (Str × Int) => D.tup [(D.str p.1), (D.int p.2)])))), .ow (T.fz (D.str ((D.list (v_acts.map (fun p : (Str × Int) => D.tup [(D.str p.1), (D.int p.2)]))).toPy.shown))), .ow (T.fz (D.list (r4.map (fun p : (Int × Int × Option Int × Str) => D.tup [(D.int p.1), (D.int p.2.1), (eO p.2.2.1), (D.str p.2.2.2)])))), (.ow (T.lst [(T.fl ((((r36, r38).1).map (fun p : (Str × Int) => D.tup [(D.str p.1), (D.int p.2)])) ++ [D.none])), (T.fl (((r36, r38).2).map (fun p : (Str × Int) => D.tup [(D.str p.1), (D.int p.2)])))])), .ow (T.fz (D.int r27.1)), .ow (T.fz (D.list (r30.map (fun p : (Str × Int) => D.tup [(D.str p.1), (D.int p.2)])))), .ow (T.fl (r69.map (fun p : (Int × Str) => D.tup [(D.int p.1), (D.str p.2)]))), .no, .no, .no, .no]) (wipe_cons (ρ2 := [.io (T.fl (r27.2.map D.int)), .ow (T.fz (D.int v_firms)), .ow (T.fz (D.list (v_acts.map (fun p : (Str × Int) => D.tup [(D.str p.1), (D.int p.2)])))), .ow (T.fz (D.str ((D.list (v_acts.map (fun p : (Str × Int) => D.tup [(D.str p.1), (D.int p.2)]))).toPy.shown))), .ow (T.fz (D.list (r4.map (fun p : (Int × Int × Option Int × Str) => D.tup [(D.int p.1), (D.int p.2.1), (eO p.2.2.1), (D.str p.2.2.2)])))), (.ow (T.lst [(T.fl ((((r36, r38).1).map (fun p : (Str × Int) => D.tup [(D.str p.1), (D.int p.2)])) ++ [D.none])), (T.fl (((r36, r38).2).map (fun p : (Str × Int) => D.tup [(D.str p.1), (D.int p.2)])))])), .ow (T.fz (D.int r27.1)), .ow (T.fz (D.list (r30.map (fun p : (Str × Int) => D.tup [(D.str p.1), (D.int p.2)])))), .ow (T.fl (r69.map (fun p : (Int × Str) => D.tup [(D.int p.1), (D.str p.2)]))), .ow (T.fz (D.int y74.1)), .no, .no, .no]) (wipe_cons (ρ2 := [.io (T.fl (r27.2.map D.int)), .ow (T.fz (D.int v_firms)), .ow (T.fz (D.list (v_acts.map (fun p : (Str × Int) => D.tup [(D.str p.1), (D.int p.2)])))), .ow (T.fz (D.str ((D.list (v_acts.map (fun p : (Str × Int) => D.tup [(D.str p.1), (D.int p.2)]))).toPy.shown))), .ow (T.fz (D.list (r4.map (fun p : (Int × Int × Option Int × Str) => D.tup [(D.int p.1), (D.int p.2.1), (eO p.2.2.1), (D.str p.2.2.2)])))), (.ow (T.lst [(T.fl ((((r36, r38).1).map (fun p : (Str × Int) => D.tup [(D.str p.1), (D.int p.2)])) ++ [D.none])), (T.fl (((r36, r38).2).map (fun p : (Str × Int) => D.tup [(D.str p.1), (D.int p.2)])))])), .ow (T.fz (D.int r27.1)), .ow (T.fz (D.list (r30.map (fun p : (Str × Int) => D.tup [(D.str p.1), (D.int p.2)])))), .ow (T.fl (r69.map (fun p : (Int × Str) => D.tup [(D.int p.1), (D.str p.2)]))), .ow (T.fz (D.int y74.1)), .ow (T.fz (D.int y74.2.1)), .no, .no]) (wipe_cons (ρ2 := [.io (T.fl (r27.2.map D.int)), .ow (T.fz (D.int v_firms)), .ow (T.fz (D.list (v_acts.map (fun p : (Str × Int) => D.tup [(D.str p.1), (D.int p.2)])))), .ow (T.fz (D.str ((D.list (v_acts.map (fun p : (Str × Int) => D.tup [(D.str p.1), (D.int p.2)]))).toPy.shown))), .ow (T.fz (D.list (r4.map (fun p : (Int × Int × Option Int × Str) => D.tup [(D.int p.1), (D.int p.2.1), (eO p.2.2.1), (D.str p.2.2.2)])))), (.ow (T.lst [(T.fl ((((r36, r38).1).map (fun p : (Str × Int) => D.tup [(D.str p.1), (D.int p.2)])) ++ [D.none])), (T.fl (((r36, r38).2).map (fun p : (Str × Int) => D.tup [(D.str p.1), (D.int p.2)])))])), .ow (T.fz (D.int r27.1)), .ow (T.fz (D.list (r30.map (fun p : (Str × Int) => D.tup [(D.str p.1), (D.int p.2)])))), .ow (T.fl (r69.map (fun p : (Int × Str) => D.tup [(D.int p.1), (D.str p.2)]))), .ow (T.fz (D.int y74.1)), .ow (T.fz (D.int y74.2.1)), .ow (T.fz (eO y74.2.2.1)), .no]) (rfl : wipeE _ [] = [.io (T.fl (r27.2.map D.int)), .ow (T.fz (D.int v_firms)), .ow (T.fz (D.list (v_acts.map (fun p : (Str × Int) => D.tup [(D.str p.1), (D.int p.2)])))), .ow (T.fz (D.str ((D.list (v_acts.map (fun p : (Str × Int) => D.tup [(D.str p.1), (D.int p.2)]))).toPy.shown))), .ow (T.fz (D.list (r4.map (fun p : (Int × Int × Option Int × Str) => D.tup [(D.int p.1), (D.int p.2.1), (eO p.2.2.1), (D.str p.2.2.2)])))), (.ow (T.lst [(T.fl ((((r36, r38).1).map (fun p : (Str × Int) => D.tup [(D.str p.1), (D.int p.2)])) ++ [D.none])), (T.fl (((r36, r38).2).map (fun p : (Str × Int) => D.tup [(D.str p.1), (D.int p.2)])))])), .ow (T.fz (D.int r27.1)), .ow (T.fz (D.list (r30.map (fun p : (Str × Int) => D.tup [(D.str p.1), (D.int p.2)])))), .ow (T.fl (r69.map (fun p : (Int × Str) => D.tup [(D.int p.1), (D.str p.2)]))), .ow (T.fz (D.int y74.1)), .ow (T.fz (D.int y74.2.1)), .ow (T.fz (eO y74.2.2.1)), .ow (T.fz (D.str y74.2.2.2))]) (.io <| .ow <| .ow <| .ow <| .ow <| .fr Free.ow <| .ow <| .ow <| .ow <| .ow <| .ow <| .ow <| .ow <| .nil) rfl) (.io <| .ow <| .ow <| .ow <| .ow <| .fr Free.ow <| .ow <| .ow <| .ow <| .ow <| .ow <| .ow <| .no <| .nil) rfl) (.io <| .ow <| .ow <| .ow <| .ow <| .fr Free.ow <| .ow <| .ow <| .ow <| .ow <| .ow <| .no <| .no <| .nil) rfl) (.io <| .ow <| .ow <| .ow <| .ow <| .fr Free.ow <| .ow <| .ow <| .ow <| .ow <| .no <| .no <| .no <| .nil) rfl)⟩⟩
                  · rintro _ rfl
                    refine ⟨fzs_len k77, ?_⟩
                    refine ⟨rfl, oQ_in rfl (oQ_in rfl ?_)⟩
                    obtain ⟨x81, g82, h⟩ := bnd h
                    refine wCmp_in (cmp_eq (fl_toD (r69.map (fun p : (Int × Str) => D.tup [(D.int p.1), (D.str p.2)]))) (fl_toD (r75.map (fun p : (Int × Str) => D.tup [(D.int p.1), (D.str p.2)]))) g82) ?_
                    refine oQ_in rfl ?_
                    obtain rfl := Option.some.inj h
                    refine seqK_rt ?_
                    exact ret_in rfl rfl
          · replace h := iff_ c51 h
            refine tru_f rfl c51 ?_
            refine ⟨fun z => absurd z (by decide), fun _ => ?_⟩
            refine ⟨fun _ => ?_, fun z => absurd z (by decide)⟩
            refine ss_cons ?_
            refine wp_ret ?_
            refine w_kst ?_
            refine oQ_in rfl ?_
            obtain rfl := Option.some.inj h
            refine seqK_rt ?_
            refine seqK_rt ?_
            exact ret_in rfl rfl
def p_law (v_script : List Int) : Option (Bool) :=
  (catG v_script ([0])).bind fun x1 =>
  (sliG x1 none (some (mx2 1 (mn2 (v_script.length : Int) 12)))).bind fun x2 =>
  (forR (fun (s_3 : Unit) (y4 : (Int × Int)) =>
    (p__law_source y4.2 y4.1).bind fun r10 =>
    (p__law_draw r10 20).bind fun r11 =>
    (p__law_draw r11.2 4).bind fun r12 =>
    (ixG ([1, 2, (1 + r11.1), 20]) r12.1).bind fun x13 =>
    (
      if y4.1 = 0 then
        (
        (deqG (D.list (v_script.map D.int)) (D.list (([]).map D.int))).bind fun x14 =>
        if ¬ x14 = true then
          (
          some (800, r12.2)
          )
        else
          (
          (deqG (D.list (v_script.map D.int)) (D.list (([]).map D.int))).bind fun x15 =>
          (ixG ([6, 61]) (if (!x15) = true then 1 else 0)).bind fun x16 =>
          (p__law_draw r12.2 x16).bind fun r17 =>
          some (r17.1, r17.2)
          )
        )
      else
        (
        (deqG (D.list (v_script.map D.int)) (D.list (([]).map D.int))).bind fun x18 =>
        (ixG ([6, 61]) (if (!x18) = true then 1 else 0)).bind fun x19 =>
        (p__law_draw r12.2 x19).bind fun r20 =>
        some (r20.1, r20.2)
        )
    ).bind fun x21 =>
    (p__law_acts x21.2 x13 x21.1 true).bind fun r22 =>
    (p__law_right r22.2 x13 r22.1).bind fun r23 =>
    if r23.1 = true then
      (
      some (.inl ())
      )
    else
      (
      some (.inr false)
      )
  ) (enumI 0 x2) ()).bind fun r24 =>
  match r24 with
  | .inr b25 => some b25
  | .inl r24 =>
  (p_deeds_of 2 ([((Str.ofString "take"), ((), 0).2), ((Str.ofString "take"), ((), 1).2), ((Str.ofString "end"), ((), 1).2), ((Str.ofString "fail"), ((), 0).2), ((Str.ofString "fall"), ((), 1).2), ((Str.ofString "take"), ((), 0).2)])).bind fun r31 =>
  (deqG (D.list (r31.map (fun p : (Int × Int × Option Int × Str) => D.tup [(D.int p.1), (D.int p.2.1), (eO p.2.2.1), (D.str p.2.2.2)]))) (D.list (([((0, 0, 3, ()).1, (0, 0, 3, ()).2.1, (some ((0, 0, 3, ()).2.2.1)), (Str.ofString "fail")), ((1, 1, 2, ()).1, (1, 1, 2, ()).2.1, (some ((1, 1, 2, ()).2.2.1)), (Str.ofString "end")), ((0, 5, (), ()).1, (0, 5, (), ()).2.1, none, (Str.ofString "open"))]).map (fun p : (Int × Int × Option Int × Str) => D.tup [(D.int p.1), (D.int p.2.1), (eO p.2.2.1), (D.str p.2.2.2)])))).bind fun x32 =>
  (
    if x32 = true then
      (
      (p_without_house 2 ([((Str.ofString "take"), ((), 0).2), ((Str.ofString "take"), ((), 1).2), ((Str.ofString "end"), ((), 1).2), ((Str.ofString "fail"), ((), 0).2), ((Str.ofString "fall"), ((), 1).2), ((Str.ofString "take"), ((), 0).2)]) 0).bind fun r33 =>
      (deqG (D.list (r33.map (fun p : (Str × Int) => D.tup [(D.str p.1), (D.int p.2)]))) (D.list (([((Str.ofString "take"), ((), 1).2), ((Str.ofString "end"), ((), 1).2), ((Str.ofString "fall"), ((), 1).2)]).map (fun p : (Str × Int) => D.tup [(D.str p.1), (D.int p.2)])))).bind fun x34 =>
      some x34
      )
    else
      (
      some false
      )
  ).bind fun x35 =>
  some x35
theorem m_law {v_script : List Int} {r : Bool} (h : p_law v_script = some r) : F_law.run [(T.fz (D.list (v_script.map D.int)))] = some ((T.fz (D.bool r)), []) := by
  unfold p_law at h
  rw [R_law]
  refine run_g (ρ := [.ow (T.fz (D.list (v_script.map D.int))), .no, .no, .no, .no, .no, .no, .no]) rfl rfl ?_
  refine ss_cons ?_
  refine wp_for ?_
  refine wi_enum ?_
  refine w_sl ?_
  refine w_bin ?_
  refine w_var (oQ_in rfl ?_)
  refine w_list ?_
  refine ws_cons ?_
  refine w_kst ?_
  refine ws_nil ?_
  refine ⟨rfl, ?_⟩
  refine oQ_in rfl ?_
  refine ⟨rfl, oQ_in rfl (oQ_in rfl ?_)⟩
  obtain ⟨x1, g2, h⟩ := bnd h
  obtain ⟨k3, rfl⟩ := catG_some g2
  refine wb_addT (addT_lf (e := D.int) (l := v_script) (m := [0]) k3) ?_
  refine wo_none ?_
  refine wo_some ?_
  refine w_blt ?_
  refine ws_cons ?_
  refine w_kst ?_
  refine ws_cons ?_
  refine w_blt ?_
  refine ws_cons ?_
  refine w_blt ?_
  refine ws_cons ?_
  refine w_var (oQ_in rfl ?_)
  refine ws_nil ?_
  refine ⟨rfl, ?_⟩
  refine oQ_in rfl ?_
  refine len_list (e := D.int) (l := v_script) ?_
  refine ws_cons ?_
  refine w_kst ?_
  refine ws_nil ?_
  refine ⟨rfl, rfl, ?_⟩
  refine oQ_in rfl ?_
  refine wl_min ?_
  refine ws_nil ?_
  refine ⟨rfl, rfl, ?_⟩
  refine oQ_in rfl ?_
  refine wl_max ?_
  refine vInt_in rfl ?_
  obtain ⟨x4, g5, h⟩ := bnd h
  obtain ⟨k6, k7, rfl⟩ := sliG_some g5
  refine ⟨rfl, k6, k7, oQ_in rfl ⟨_, slT_fl (e := D.int) (l := (v_script ++ [0])) rfl, ?_⟩⟩
  refine oQ_in rfl (dList_1 (fl_toD ((((v_script ++ [0]).drop (HT.sIx (v_script ++ [0]).length 0 none)).take (HT.sIx (v_script ++ [0]).length (v_script ++ [0]).length (some (mx2 1 (mn2 (v_script.length : Int) 12))) - HT.sIx (v_script ++ [0]).length 0 none)).map D.int)) ?_)
  obtain ⟨r10, g11, h⟩ := bnd h
  refine loop_cast (enumD_map (e := D.int) (((v_script ++ [0]).drop (HT.sIx (v_script ++ [0]).length 0 none)).take (HT.sIx (v_script ++ [0]).length (v_script ++ [0]).length (some (mx2 1 (mn2 (v_script.length : Int) 12))) - HT.sIx (v_script ++ [0]).length 0 none)) 0) ?_
  refine for_simR (e := (fun p => D.tup [D.int p.1, (D.int p.2)])) (fun (s_8 : Unit) ρ => ∃ (s12 : Slot) (s13 : Slot) (s14 : Slot) (s15 : Slot) (s16 : Slot), ρ = [.ow (T.fz (D.list (v_script.map D.int))), s12, s13, s14, s15, s16, .no, .no] ∧ Free s12 ∧ Free s13 ∧ Free s14 ∧ Free s15 ∧ Free s16) (fun b o => isRet [false] (T.fz (D.bool b)) [] o) g11 ⟨_, _, _, _, _, rfl, Free.no, Free.no, Free.no, Free.no, Free.no⟩ ?_ ?_ ?_
  · rintro y9 s_8 z18 _ _ h17 ⟨s12, s13, s14, s15, s16, rfl, q12, q13, q14, q15, q16⟩
    refine bd_tp rfl ?_
    refine bd_go_cons (ρ2 := [.ow (T.fz (D.list (v_script.map D.int))), .ow (T.fz (D.int y9.1)), s13, s14, s15, s16, .no, .no]) (.ow <| .fr q12 <| .fr q13 <| .fr q14 <| .fr q15 <| .fr q16 <| .no <| .no <| .nil) rfl q12 rfl ?_
    refine bd_go_cons (ρ2 := [.ow (T.fz (D.list (v_script.map D.int))), .ow (T.fz (D.int y9.1)), .ow (T.fz (D.int y9.2)), s14, s15, s16, .no, .no]) (.ow <| .ow <| .fr q13 <| .fr q14 <| .fr q15 <| .fr q16 <| .no <| .no <| .nil) rfl q13 rfl ?_
    refine bd_go_nil ?_
    refine ss_cons ?_
    refine wp_set ?_
    refine w_call ?_
    refine ws_cons ?_
    refine w_fzvK ?_
    refine w_var (oQ_in rfl ?_)
    refine fzk_fz (d := (D.int y9.2)) ?_
    refine ws_cons ?_
    refine w_fzvK ?_
    refine w_var (oQ_in rfl ?_)
    refine fzk_fz (d := (D.int y9.1)) ?_
    refine ws_nil ?_
    refine ⟨rfl, rfl, ?_⟩
    refine oQ_in rfl ?_
    obtain ⟨r19, g20, h17⟩ := bnd h17
    refine call_g (ρ2 := [.ow (T.fz (D.list (v_script.map D.int))), .ow (T.fz (D.int y9.1)), .ow (T.fz (D.int y9.2)), s14, s15, s16, .no, .no]) (.ow <| .ow <| .ow <| .fr q14 <| .fr q15 <| .fr q16 <| .no <| .no <| .nil) rfl (argT_fz (argT_fz argT_nil)) (m__law_source g20) rfl rfl rfl ?_
    refine set_in (ρ2 := [.ow (T.fz (D.list (v_script.map D.int))), .ow (T.fz (D.int y9.1)), .ow (T.fz (D.int y9.2)), .ow (T.fl (r19.map D.int)), s15, s16, .no, .no]) (.ow <| .ow <| .ow <| .fr q14 <| .fr q15 <| .fr q16 <| .no <| .no <| .nil) rfl q14 rfl ?_
    refine nxe (ρ2 := [.ow (T.fz (D.list (v_script.map D.int))), .ow (T.fz (D.int y9.1)), .ow (T.fz (D.int y9.2)), .ow (T.fl (r19.map D.int)), s15, s16, .no, .no]) rfl ?_
    refine ss_cons ?_
    refine wp_set ?_
    refine w_fzvK ?_
    refine w_ix ?_
    refine w_list ?_
    refine ws_cons ?_
    refine w_kst ?_
    refine ws_cons ?_
    refine w_kst ?_
    refine ws_cons ?_
    refine w_bin ?_
    refine w_kst ?_
    refine w_call ?_
    refine ws_cons ?_
    refine w_var (oQ_in rfl ?_)
    refine ws_cons ?_
    refine w_kst ?_
    refine ws_nil ?_
    refine ⟨rfl, rfl, ?_⟩
    refine oQ_in rfl ?_
    obtain ⟨r21, g22, h17⟩ := bnd h17
    refine call_g (ρ2 := [.ow (T.fz (D.list (v_script.map D.int))), .ow (T.fz (D.int y9.1)), .ow (T.fz (D.int y9.2)), .ow (T.fl (r21.2.map D.int)), s15, s16, .no, .no]) (.ow <| .ow <| .ow <| .ow <| .fr q15 <| .fr q16 <| .no <| .no <| .nil) rfl (argT_io rfl (argT_fz argT_nil)) (m__law_draw g22) rfl rfl rfl ?_
    refine ⟨rfl, oQ_in rfl (oQ_in rfl ?_)⟩
    refine wb_add ?_
    refine ws_cons ?_
    refine w_kst ?_
    refine ws_nil ?_
    refine ⟨rfl, rfl, rfl, rfl, ?_⟩
    refine oQ_in rfl ?_
    refine w_call ?_
    refine ws_cons ?_
    refine w_var (oQ_in rfl ?_)
    refine ws_cons ?_
    refine w_kst ?_
    refine ws_nil ?_
    refine ⟨rfl, rfl, ?_⟩
    refine oQ_in rfl ?_
    obtain ⟨r23, g24, h17⟩ := bnd h17
    refine call_g (ρ2 := [.ow (T.fz (D.list (v_script.map D.int))), .ow (T.fz (D.int y9.1)), .ow (T.fz (D.int y9.2)), .ow (T.fl (r23.2.map D.int)), s15, s16, .no, .no]) (.ow <| .ow <| .ow <| .ow <| .fr q15 <| .fr q16 <| .no <| .no <| .nil) rfl (argT_io rfl (argT_fz argT_nil)) (m__law_draw g24) rfl rfl rfl ?_
    refine vT_in rfl ⟨rfl, oQ_in rfl ?_⟩
    obtain ⟨x25, g26, h17⟩ := bnd h17
    refine wIx_2 rfl (ixVal_flT (e := D.int) (l := [1, 2, (1 + r21.1), 20]) (x := x25) g26) ?_
    refine fzk_fz (d := (D.int x25)) ?_
    refine set_in (ρ2 := [.ow (T.fz (D.list (v_script.map D.int))), .ow (T.fz (D.int y9.1)), .ow (T.fz (D.int y9.2)), .ow (T.fl (r23.2.map D.int)), .ow (T.fz (D.int x25)), s16, .no, .no]) (.ow <| .ow <| .ow <| .ow <| .fr q15 <| .fr q16 <| .no <| .no <| .nil) rfl q15 rfl ?_
    refine nxe (ρ2 := [.ow (T.fz (D.list (v_script.map D.int))), .ow (T.fz (D.int y9.1)), .ow (T.fz (D.int y9.2)), .ow (T.fl (r23.2.map D.int)), .ow (T.fz (D.int x25)), s16, .no, .no]) rfl ?_
    refine ss_cons ?_
    refine wp_set ?_
    refine w_fzvK ?_
    refine w_ite ?_
    obtain ⟨x27, e28, h17⟩ := bnd h17
    refine wt_bool ?_
    refine wb_cons ?_
    refine wt_cmp ?_
    refine w_var (oQ_in rfl ?_)
    refine w_kst ?_
    refine ⟨rfl, oQ_in rfl (oQ_in rfl ?_)⟩
    by_cases c29 : y9.1 = 0
    · replace e28 := ift c29 e28
      refine wc_eq_t c29 ?_
      refine ⟨fun _ => ?_, fun z => absurd z (by decide)⟩
      refine wb_one ?_
      refine wt_cmp ?_
      refine w_var (oQ_in rfl ?_)
      refine w_list ?_
      refine ws_nil ?_
      skip
      refine oQ_in rfl ?_
      refine ⟨rfl, oQ_in rfl (oQ_in rfl ?_)⟩
      obtain ⟨x30, g31, e28⟩ := bnd e28
      by_cases c32 : ¬ x30 = true
      · replace e28 := ift c32 e28
        refine wCmp_inN_t (cmp_eq rfl (fl_toD (([]).map D.int)) g31) c32 ?_
        refine ⟨fun _ => ?_, fun z => absurd z (by decide)⟩
        refine w_kst ?_
        obtain rfl := Option.some.inj e28
        refine fzk_fz (d := (D.int 800)) ?_
        refine set_in (ρ2 := [.ow (T.fz (D.list (v_script.map D.int))), .ow (T.fz (D.int y9.1)), .ow (T.fz (D.int y9.2)), .ow (T.fl (r23.2.map D.int)), .ow (T.fz (D.int x25)), .ow (T.fz (D.int 800)), .no, .no]) (.ow <| .ow <| .ow <| .ow <| .ow <| .fr q16 <| .no <| .no <| .nil) rfl q16 rfl ?_
        refine nxe (ρ2 := [.ow (T.fz (D.list (v_script.map D.int))), .ow (T.fz (D.int y9.1)), .ow (T.fz (D.int y9.2)), .ow (T.fl (r23.2.map D.int)), .ow (T.fz (D.int x25)), .ow (T.fz (D.int 800)), .no, .no]) rfl ?_
        refine ss_cons ?_
        refine wp_ite ?_
        refine wt_not ?_
        refine wt_val ?_
        refine w_call ?_
        refine ws_cons ?_
        refine w_var (oQ_in rfl ?_)
        refine ws_cons ?_
        refine w_fzvK ?_
        refine w_var (oQ_in rfl ?_)
        refine fzk_fz (d := (D.int x25)) ?_
        refine ws_cons ?_
        refine w_fzvK ?_
        refine w_call ?_
        refine ws_cons ?_
        refine w_var (oQ_in rfl ?_)
        refine ws_cons ?_
        refine w_fzvK ?_
        refine w_var (oQ_in rfl ?_)
        refine fzk_fz (d := (D.int x25)) ?_
        refine ws_cons ?_
        refine w_fzvK ?_
        refine w_var (oQ_in rfl ?_)
        refine fzk_fz (d := (D.int 800)) ?_
        refine ws_cons ?_
        refine w_kst ?_
        refine ws_nil ?_
        refine ⟨rfl, rfl, rfl, rfl, ?_⟩
        refine oQ_in rfl ?_
        obtain ⟨r33, g34, h17⟩ := bnd h17
        refine call_g (ρ2 := [.ow (T.fz (D.list (v_script.map D.int))), .ow (T.fz (D.int y9.1)), .ow (T.fz (D.int y9.2)), .ow (T.fl (r33.2.map D.int)), .ow (T.fz (D.int x25)), .ow (T.fz (D.int 800)), .no, .no]) (.ow <| .ow <| .ow <| .ow <| .ow <| .ow <| .no <| .no <| .nil) rfl (argT_io rfl (argT_fz (argT_fz (argT_fz argT_nil)))) (m__law_acts g34) rfl rfl rfl ?_
        refine fzk_fz (d := (D.list (r33.1.map (fun p : (Str × Int) => D.tup [(D.str p.1), (D.int p.2)])))) ?_
        refine ws_nil ?_
        refine ⟨rfl, rfl, rfl, ?_⟩
        refine oQ_in rfl ?_
        obtain ⟨r35, g36, h17⟩ := bnd h17
        refine call_g (ρ2 := [.ow (T.fz (D.list (v_script.map D.int))), .ow (T.fz (D.int y9.1)), .ow (T.fz (D.int y9.2)), .ow (T.fl (r35.2.map D.int)), .ow (T.fz (D.int x25)), .ow (T.fz (D.int 800)), .no, .no]) (.ow <| .ow <| .ow <| .ow <| .ow <| .ow <| .no <| .no <| .nil) rfl (argT_io rfl (argT_fz (argT_fz argT_nil))) (m__law_right g36) rfl rfl rfl ?_
        refine oQ_in rfl ?_
        by_cases c37 : r35.1 = true
        · replace h17 := ift c37 h17
          refine tru_t rfl c37 ?_
          refine ⟨fun z => absurd z (by decide), fun _ => ?_⟩
          refine ss_nil ?_
          refine nxe (ρ2 := [.ow (T.fz (D.list (v_script.map D.int))), .ow (T.fz (D.int y9.1)), .ow (T.fz (D.int y9.2)), .ow (T.fl (r35.2.map D.int)), .ow (T.fz (D.int x25)), .ow (T.fz (D.int 800)), .no, .no]) rfl ?_
          refine ss_nil ?_
          obtain rfl := Option.some.inj h17
          exact lpR_nx ⟨_, _, _, _, _, rfl, Free.ow, Free.ow, Free.ow, Free.ow, Free.ow⟩
        · replace h17 := iff_ c37 h17
          refine tru_f rfl c37 ?_
          refine ⟨fun _ => ?_, fun z => absurd z (by decide)⟩
          refine ss_cons ?_
          refine wp_ret ?_
          refine w_kst ?_
          refine oQ_in rfl ?_
          obtain rfl := Option.some.inj h17
          refine seqK_rt ?_
          refine seqK_rt ?_
          exact lpR_rt (ret_in rfl rfl)
      · replace e28 := iff_ c32 e28
        refine wCmp_inN_f (cmp_eq rfl (fl_toD (([]).map D.int)) g31) c32 ?_
        refine ⟨fun z => absurd z (by decide), fun _ => ?_⟩
        refine w_call ?_
        refine ws_cons ?_
        refine w_var (oQ_in rfl ?_)
        refine ws_cons ?_
        refine w_fzvK ?_
        refine w_ix ?_
        refine w_list ?_
        refine ws_cons ?_
        refine w_kst ?_
        refine ws_cons ?_
        refine w_kst ?_
        refine ws_nil ?_
        refine ⟨rfl, rfl, ?_⟩
        refine oQ_in rfl ?_
        refine w_blt ?_
        refine ws_cons ?_
        refine w_cmp ?_
        refine w_var (oQ_in rfl ?_)
        refine w_list ?_
        refine ws_nil ?_
        skip
        refine oQ_in rfl ?_
        refine ⟨rfl, oQ_in rfl (oQ_in rfl ?_)⟩
        obtain ⟨x38, g39, e28⟩ := bnd e28
        refine wCmp_in (cmp_ne rfl (fl_toD (([]).map D.int)) g39) ?_
        refine ws_nil ?_
        refine ⟨rfl, ?_⟩
        refine oQ_in rfl ?_
        refine wl_intb ?_
        refine vT_in rfl ⟨rfl, oQ_in rfl ?_⟩
        obtain ⟨x40, g41, e28⟩ := bnd e28
        refine wIx_2 rfl (ixVal_flT (e := D.int) (l := [6, 61]) (x := x40) g41) ?_
        refine fzk_fz (d := (D.int x40)) ?_
        refine ws_nil ?_
        refine ⟨rfl, rfl, ?_⟩
        refine oQ_in rfl ?_
        obtain ⟨r42, g43, e28⟩ := bnd e28
        refine call_g (ρ2 := [.ow (T.fz (D.list (v_script.map D.int))), .ow (T.fz (D.int y9.1)), .ow (T.fz (D.int y9.2)), .ow (T.fl (r42.2.map D.int)), .ow (T.fz (D.int x25)), s16, .no, .no]) (.ow <| .ow <| .ow <| .ow <| .ow <| .fr q16 <| .no <| .no <| .nil) rfl (argT_io rfl (argT_fz argT_nil)) (m__law_draw g43) rfl rfl rfl ?_
        obtain rfl := Option.some.inj e28
        refine fzk_fz (d := (D.int r42.1)) ?_
        refine set_in (ρ2 := [.ow (T.fz (D.list (v_script.map D.int))), .ow (T.fz (D.int y9.1)), .ow (T.fz (D.int y9.2)), .ow (T.fl (r42.2.map D.int)), .ow (T.fz (D.int x25)), .ow (T.fz (D.int r42.1)), .no, .no]) (.ow <| .ow <| .ow <| .ow <| .ow <| .fr q16 <| .no <| .no <| .nil) rfl q16 rfl ?_
        refine nxe (ρ2 := [.ow (T.fz (D.list (v_script.map D.int))), .ow (T.fz (D.int y9.1)), .ow (T.fz (D.int y9.2)), .ow (T.fl (r42.2.map D.int)), .ow (T.fz (D.int x25)), .ow (T.fz (D.int r42.1)), .no, .no]) rfl ?_
        refine ss_cons ?_
        refine wp_ite ?_
        refine wt_not ?_
        refine wt_val ?_
        refine w_call ?_
        refine ws_cons ?_
        refine w_var (oQ_in rfl ?_)
        refine ws_cons ?_
        refine w_fzvK ?_
        refine w_var (oQ_in rfl ?_)
        refine fzk_fz (d := (D.int x25)) ?_
        refine ws_cons ?_
        refine w_fzvK ?_
        refine w_call ?_
        refine ws_cons ?_
        refine w_var (oQ_in rfl ?_)
        refine ws_cons ?_
        refine w_fzvK ?_
        refine w_var (oQ_in rfl ?_)
        refine fzk_fz (d := (D.int x25)) ?_
        refine ws_cons ?_
        refine w_fzvK ?_
        refine w_var (oQ_in rfl ?_)
        refine fzk_fz (d := (D.int r42.1)) ?_
        refine ws_cons ?_
        refine w_kst ?_
        refine ws_nil ?_
        refine ⟨rfl, rfl, rfl, rfl, ?_⟩
        refine oQ_in rfl ?_
        obtain ⟨r44, g45, h17⟩ := bnd h17
        refine call_g (ρ2 := [.ow (T.fz (D.list (v_script.map D.int))), .ow (T.fz (D.int y9.1)), .ow (T.fz (D.int y9.2)), .ow (T.fl (r44.2.map D.int)), .ow (T.fz (D.int x25)), .ow (T.fz (D.int r42.1)), .no, .no]) (.ow <| .ow <| .ow <| .ow <| .ow <| .ow <| .no <| .no <| .nil) rfl (argT_io rfl (argT_fz (argT_fz (argT_fz argT_nil)))) (m__law_acts g45) rfl rfl rfl ?_
        refine fzk_fz (d := (D.list (r44.1.map (fun p : (Str × Int) => D.tup [(D.str p.1), (D.int p.2)])))) ?_
        refine ws_nil ?_
        refine ⟨rfl, rfl, rfl, ?_⟩
        refine oQ_in rfl ?_
        obtain ⟨r46, g47, h17⟩ := bnd h17
        refine call_g (ρ2 := [.ow (T.fz (D.list (v_script.map D.int))), .ow (T.fz (D.int y9.1)), .ow (T.fz (D.int y9.2)), .ow (T.fl (r46.2.map D.int)), .ow (T.fz (D.int x25)), .ow (T.fz (D.int r42.1)), .no, .no]) (.ow <| .ow <| .ow <| .ow <| .ow <| .ow <| .no <| .no <| .nil) rfl (argT_io rfl (argT_fz (argT_fz argT_nil))) (m__law_right g47) rfl rfl rfl ?_
        refine oQ_in rfl ?_
        by_cases c48 : r46.1 = true
        · replace h17 := ift c48 h17
          refine tru_t rfl c48 ?_
          refine ⟨fun z => absurd z (by decide), fun _ => ?_⟩
          refine ss_nil ?_
          refine nxe (ρ2 := [.ow (T.fz (D.list (v_script.map D.int))), .ow (T.fz (D.int y9.1)), .ow (T.fz (D.int y9.2)), .ow (T.fl (r46.2.map D.int)), .ow (T.fz (D.int x25)), .ow (T.fz (D.int r42.1)), .no, .no]) rfl ?_
          refine ss_nil ?_
          obtain rfl := Option.some.inj h17
          exact lpR_nx ⟨_, _, _, _, _, rfl, Free.ow, Free.ow, Free.ow, Free.ow, Free.ow⟩
        · replace h17 := iff_ c48 h17
          refine tru_f rfl c48 ?_
          refine ⟨fun _ => ?_, fun z => absurd z (by decide)⟩
          refine ss_cons ?_
          refine wp_ret ?_
          refine w_kst ?_
          refine oQ_in rfl ?_
          obtain rfl := Option.some.inj h17
          refine seqK_rt ?_
          refine seqK_rt ?_
          exact lpR_rt (ret_in rfl rfl)
    · replace e28 := iff_ c29 e28
      refine wc_eq_f c29 ?_
      refine ⟨fun z => absurd z (by decide), fun _ => ?_⟩
      refine ⟨fun z => absurd z (by decide), fun _ => ?_⟩
      refine w_call ?_
      refine ws_cons ?_
      refine w_var (oQ_in rfl ?_)
      refine ws_cons ?_
      refine w_fzvK ?_
      refine w_ix ?_
      refine w_list ?_
      refine ws_cons ?_
      refine w_kst ?_
      refine ws_cons ?_
      refine w_kst ?_
      refine ws_nil ?_
      refine ⟨rfl, rfl, ?_⟩
      refine oQ_in rfl ?_
      refine w_blt ?_
      refine ws_cons ?_
      refine w_cmp ?_
      refine w_var (oQ_in rfl ?_)
      refine w_list ?_
      refine ws_nil ?_
      skip
      refine oQ_in rfl ?_
      refine ⟨rfl, oQ_in rfl (oQ_in rfl ?_)⟩
      obtain ⟨x49, g50, e28⟩ := bnd e28
      refine wCmp_in (cmp_ne rfl (fl_toD (([]).map D.int)) g50) ?_
      refine ws_nil ?_
      refine ⟨rfl, ?_⟩
      refine oQ_in rfl ?_
      refine wl_intb ?_
      refine vT_in rfl ⟨rfl, oQ_in rfl ?_⟩
      obtain ⟨x51, g52, e28⟩ := bnd e28
      refine wIx_2 rfl (ixVal_flT (e := D.int) (l := [6, 61]) (x := x51) g52) ?_
      refine fzk_fz (d := (D.int x51)) ?_
      refine ws_nil ?_
      refine ⟨rfl, rfl, ?_⟩
      refine oQ_in rfl ?_
      obtain ⟨r53, g54, e28⟩ := bnd e28
      refine call_g (ρ2 := [.ow (T.fz (D.list (v_script.map D.int))), .ow (T.fz (D.int y9.1)), .ow (T.fz (D.int y9.2)), .ow (T.fl (r53.2.map D.int)), .ow (T.fz (D.int x25)), s16, .no, .no]) (.ow <| .ow <| .ow <| .ow <| .ow <| .fr q16 <| .no <| .no <| .nil) rfl (argT_io rfl (argT_fz argT_nil)) (m__law_draw g54) rfl rfl rfl ?_
      obtain rfl := Option.some.inj e28
      refine fzk_fz (d := (D.int r53.1)) ?_
      refine set_in (ρ2 := [.ow (T.fz (D.list (v_script.map D.int))), .ow (T.fz (D.int y9.1)), .ow (T.fz (D.int y9.2)), .ow (T.fl (r53.2.map D.int)), .ow (T.fz (D.int x25)), .ow (T.fz (D.int r53.1)), .no, .no]) (.ow <| .ow <| .ow <| .ow <| .ow <| .fr q16 <| .no <| .no <| .nil) rfl q16 rfl ?_
      refine nxe (ρ2 := [.ow (T.fz (D.list (v_script.map D.int))), .ow (T.fz (D.int y9.1)), .ow (T.fz (D.int y9.2)), .ow (T.fl (r53.2.map D.int)), .ow (T.fz (D.int x25)), .ow (T.fz (D.int r53.1)), .no, .no]) rfl ?_
      refine ss_cons ?_
      refine wp_ite ?_
      refine wt_not ?_
      refine wt_val ?_
      refine w_call ?_
      refine ws_cons ?_
      refine w_var (oQ_in rfl ?_)
      refine ws_cons ?_
      refine w_fzvK ?_
      refine w_var (oQ_in rfl ?_)
      refine fzk_fz (d := (D.int x25)) ?_
      refine ws_cons ?_
      refine w_fzvK ?_
      refine w_call ?_
      refine ws_cons ?_
      refine w_var (oQ_in rfl ?_)
      refine ws_cons ?_
      refine w_fzvK ?_
      refine w_var (oQ_in rfl ?_)
      refine fzk_fz (d := (D.int x25)) ?_
      refine ws_cons ?_
      refine w_fzvK ?_
      refine w_var (oQ_in rfl ?_)
      refine fzk_fz (d := (D.int r53.1)) ?_
      refine ws_cons ?_
      refine w_kst ?_
      refine ws_nil ?_
      refine ⟨rfl, rfl, rfl, rfl, ?_⟩
      refine oQ_in rfl ?_
      obtain ⟨r55, g56, h17⟩ := bnd h17
      refine call_g (ρ2 := [.ow (T.fz (D.list (v_script.map D.int))), .ow (T.fz (D.int y9.1)), .ow (T.fz (D.int y9.2)), .ow (T.fl (r55.2.map D.int)), .ow (T.fz (D.int x25)), .ow (T.fz (D.int r53.1)), .no, .no]) (.ow <| .ow <| .ow <| .ow <| .ow <| .ow <| .no <| .no <| .nil) rfl (argT_io rfl (argT_fz (argT_fz (argT_fz argT_nil)))) (m__law_acts g56) rfl rfl rfl ?_
      refine fzk_fz (d := (D.list (r55.1.map (fun p : (Str × Int) => D.tup [(D.str p.1), (D.int p.2)])))) ?_
      refine ws_nil ?_
      refine ⟨rfl, rfl, rfl, ?_⟩
      refine oQ_in rfl ?_
      obtain ⟨r57, g58, h17⟩ := bnd h17
      refine call_g (ρ2 := [.ow (T.fz (D.list (v_script.map D.int))), .ow (T.fz (D.int y9.1)), .ow (T.fz (D.int y9.2)), .ow (T.fl (r57.2.map D.int)), .ow (T.fz (D.int x25)), .ow (T.fz (D.int r53.1)), .no, .no]) (.ow <| .ow <| .ow <| .ow <| .ow <| .ow <| .no <| .no <| .nil) rfl (argT_io rfl (argT_fz (argT_fz argT_nil))) (m__law_right g58) rfl rfl rfl ?_
      refine oQ_in rfl ?_
      by_cases c59 : r57.1 = true
      · replace h17 := ift c59 h17
        refine tru_t rfl c59 ?_
        refine ⟨fun z => absurd z (by decide), fun _ => ?_⟩
        refine ss_nil ?_
        refine nxe (ρ2 := [.ow (T.fz (D.list (v_script.map D.int))), .ow (T.fz (D.int y9.1)), .ow (T.fz (D.int y9.2)), .ow (T.fl (r57.2.map D.int)), .ow (T.fz (D.int x25)), .ow (T.fz (D.int r53.1)), .no, .no]) rfl ?_
        refine ss_nil ?_
        obtain rfl := Option.some.inj h17
        exact lpR_nx ⟨_, _, _, _, _, rfl, Free.ow, Free.ow, Free.ow, Free.ow, Free.ow⟩
      · replace h17 := iff_ c59 h17
        refine tru_f rfl c59 ?_
        refine ⟨fun _ => ?_, fun z => absurd z (by decide)⟩
        refine ss_cons ?_
        refine wp_ret ?_
        refine w_kst ?_
        refine oQ_in rfl ?_
        obtain rfl := Option.some.inj h17
        refine seqK_rt ?_
        refine seqK_rt ?_
        exact lpR_rt (ret_in rfl rfl)
  · rintro s_8 _ rfl ⟨s60, s61, s62, s63, s64, rfl, q60, q61, q62, q63, q64⟩
    refine nxe (ρ2 := [.ow (T.fz (D.list (v_script.map D.int))), s60, s61, s62, s63, s64, .no, .no]) rfl ?_
    refine ss_cons ?_
    refine wp_set ?_
    refine w_fzvK ?_
    refine w_list ?_
    refine ws_cons ?_
    refine w_fzvK ?_
    refine w_tup ?_
    refine ws_cons ?_
    refine w_kst ?_
    refine ws_cons ?_
    refine w_kst ?_
    refine ws_nil ?_
    refine ⟨rfl, rfl, ?_⟩
    refine oQ_in rfl ?_
    refine fzk_fz (d := (D.tup [(D.str (Str.ofString "take")), (D.int (((), 0).2))])) ?_
    refine ws_cons ?_
    refine w_fzvK ?_
    refine w_tup ?_
    refine ws_cons ?_
    refine w_kst ?_
    refine ws_cons ?_
    refine w_kst ?_
    refine ws_nil ?_
    refine ⟨rfl, rfl, ?_⟩
    refine oQ_in rfl ?_
    refine fzk_fz (d := (D.tup [(D.str (Str.ofString "take")), (D.int (((), 1).2))])) ?_
    refine ws_cons ?_
    refine w_fzvK ?_
    refine w_tup ?_
    refine ws_cons ?_
    refine w_kst ?_
    refine ws_cons ?_
    refine w_kst ?_
    refine ws_nil ?_
    refine ⟨rfl, rfl, ?_⟩
    refine oQ_in rfl ?_
    refine fzk_fz (d := (D.tup [(D.str (Str.ofString "end")), (D.int (((), 1).2))])) ?_
    refine ws_cons ?_
    refine w_fzvK ?_
    refine w_tup ?_
    refine ws_cons ?_
    refine w_kst ?_
    refine ws_cons ?_
    refine w_kst ?_
    refine ws_nil ?_
    refine ⟨rfl, rfl, ?_⟩
    refine oQ_in rfl ?_
    refine fzk_fz (d := (D.tup [(D.str (Str.ofString "fail")), (D.int (((), 0).2))])) ?_
    refine ws_cons ?_
    refine w_fzvK ?_
    refine w_tup ?_
    refine ws_cons ?_
    refine w_kst ?_
    refine ws_cons ?_
    refine w_kst ?_
    refine ws_nil ?_
    refine ⟨rfl, rfl, ?_⟩
    refine oQ_in rfl ?_
    refine fzk_fz (d := (D.tup [(D.str (Str.ofString "fall")), (D.int (((), 1).2))])) ?_
    refine ws_cons ?_
    refine w_fzvK ?_
    refine w_tup ?_
    refine ws_cons ?_
    refine w_kst ?_
    refine ws_cons ?_
    refine w_kst ?_
    refine ws_nil ?_
    refine ⟨rfl, rfl, ?_⟩
    refine oQ_in rfl ?_
    refine fzk_fz (d := (D.tup [(D.str (Str.ofString "take")), (D.int (((), 0).2))])) ?_
    refine ws_nil ?_
    refine ⟨rfl, rfl, rfl, rfl, rfl, rfl, ?_⟩
    refine oQ_in rfl ?_
    refine fzk_fl (ds := ([((Str.ofString "take"), ((), 0).2), ((Str.ofString "take"), ((), 1).2), ((Str.ofString "end"), ((), 1).2), ((Str.ofString "fail"), ((), 0).2), ((Str.ofString "fall"), ((), 1).2), ((Str.ofString "take"), ((), 0).2)]).map (fun p : (Str × Int) => D.tup [(D.str p.1), (D.int p.2)])) ?_
    refine set_in (ρ2 := [.ow (T.fz (D.list (v_script.map D.int))), s60, s61, s62, s63, s64, .ow (T.fz (D.list (([((Str.ofString "take"), ((), 0).2), ((Str.ofString "take"), ((), 1).2), ((Str.ofString "end"), ((), 1).2), ((Str.ofString "fail"), ((), 0).2), ((Str.ofString "fall"), ((), 1).2), ((Str.ofString "take"), ((), 0).2)]).map (fun p : (Str × Int) => D.tup [(D.str p.1), (D.int p.2)])))), .no]) (.ow <| .fr q60 <| .fr q61 <| .fr q62 <| .fr q63 <| .fr q64 <| .no <| .no <| .nil) rfl Free.no rfl ?_
    refine nxe (ρ2 := [.ow (T.fz (D.list (v_script.map D.int))), s60, s61, s62, s63, s64, .ow (T.fz (D.list (([((Str.ofString "take"), ((), 0).2), ((Str.ofString "take"), ((), 1).2), ((Str.ofString "end"), ((), 1).2), ((Str.ofString "fail"), ((), 0).2), ((Str.ofString "fall"), ((), 1).2), ((Str.ofString "take"), ((), 0).2)]).map (fun p : (Str × Int) => D.tup [(D.str p.1), (D.int p.2)])))), .no]) rfl ?_
    refine ss_cons ?_
    refine wp_set ?_
    refine w_fzvK ?_
    refine w_list ?_
    refine ws_cons ?_
    refine w_fzvK ?_
    refine w_tup ?_
    refine ws_cons ?_
    refine w_kst ?_
    refine ws_cons ?_
    refine w_kst ?_
    refine ws_cons ?_
    refine w_kst ?_
    refine ws_cons ?_
    refine w_kst ?_
    refine ws_nil ?_
    refine ⟨rfl, rfl, rfl, rfl, ?_⟩
    refine oQ_in rfl ?_
    refine fzk_fz (d := (D.tup [(D.int ((0, 0, 3, ()).1)), (D.int ((0, 0, 3, ()).2.1)), (D.int ((0, 0, 3, ()).2.2.1)), (D.str (Str.ofString "fail"))])) ?_
    refine ws_cons ?_
    refine w_fzvK ?_
    refine w_tup ?_
    refine ws_cons ?_
    refine w_kst ?_
    refine ws_cons ?_
    refine w_kst ?_
    refine ws_cons ?_
    refine w_kst ?_
    refine ws_cons ?_
    refine w_kst ?_
    refine ws_nil ?_
    refine ⟨rfl, rfl, rfl, rfl, ?_⟩
    refine oQ_in rfl ?_
    refine fzk_fz (d := (D.tup [(D.int ((1, 1, 2, ()).1)), (D.int ((1, 1, 2, ()).2.1)), (D.int ((1, 1, 2, ()).2.2.1)), (D.str (Str.ofString "end"))])) ?_
    refine ws_cons ?_
    refine w_fzvK ?_
    refine w_tup ?_
    refine ws_cons ?_
    refine w_kst ?_
    refine ws_cons ?_
    refine w_kst ?_
    refine ws_cons ?_
    refine w_kst ?_
    refine ws_cons ?_
    refine w_kst ?_
    refine ws_nil ?_
    refine ⟨rfl, rfl, rfl, rfl, ?_⟩
    refine oQ_in rfl ?_
    refine fzk_fz (d := (D.tup [(D.int ((0, 5, (), ()).1)), (D.int ((0, 5, (), ()).2.1)), D.none, (D.str (Str.ofString "open"))])) ?_
    refine ws_nil ?_
    refine ⟨rfl, rfl, rfl, ?_⟩
    refine oQ_in rfl ?_
    refine fzk_fl (ds := ([((0, 0, 3, ()).1, (0, 0, 3, ()).2.1, (some ((0, 0, 3, ()).2.2.1)), (Str.ofString "fail")), ((1, 1, 2, ()).1, (1, 1, 2, ()).2.1, (some ((1, 1, 2, ()).2.2.1)), (Str.ofString "end")), ((0, 5, (), ()).1, (0, 5, (), ()).2.1, none, (Str.ofString "open"))]).map (fun p : (Int × Int × Option Int × Str) => D.tup [(D.int p.1), (D.int p.2.1), (eO p.2.2.1), (D.str p.2.2.2)])) ?_
    refine set_in (ρ2 := [.ow (T.fz (D.list (v_script.map D.int))), s60, s61, s62, s63, s64, .ow (T.fz (D.list (([((Str.ofString "take"), ((), 0).2), ((Str.ofString "take"), ((), 1).2), ((Str.ofString "end"), ((), 1).2), ((Str.ofString "fail"), ((), 0).2), ((Str.ofString "fall"), ((), 1).2), ((Str.ofString "take"), ((), 0).2)]).map (fun p : (Str × Int) => D.tup [(D.str p.1), (D.int p.2)])))), .ow (T.fz (D.list (([((0, 0, 3, ()).1, (0, 0, 3, ()).2.1, (some ((0, 0, 3, ()).2.2.1)), (Str.ofString "fail")), ((1, 1, 2, ()).1, (1, 1, 2, ()).2.1, (some ((1, 1, 2, ()).2.2.1)), (Str.ofString "end")), ((0, 5, (), ()).1, (0, 5, (), ()).2.1, none, (Str.ofString "open"))]).map (fun p : (Int × Int × Option Int × Str) => D.tup [(D.int p.1), (D.int p.2.1), (eO p.2.2.1), (D.str p.2.2.2)]))))]) (.ow <| .fr q60 <| .fr q61 <| .fr q62 <| .fr q63 <| .fr q64 <| .ow <| .no <| .nil) rfl Free.no rfl ?_
    refine nxe (ρ2 := [.ow (T.fz (D.list (v_script.map D.int))), s60, s61, s62, s63, s64, .ow (T.fz (D.list (([((Str.ofString "take"), ((), 0).2), ((Str.ofString "take"), ((), 1).2), ((Str.ofString "end"), ((), 1).2), ((Str.ofString "fail"), ((), 0).2), ((Str.ofString "fall"), ((), 1).2), ((Str.ofString "take"), ((), 0).2)]).map (fun p : (Str × Int) => D.tup [(D.str p.1), (D.int p.2)])))), .ow (T.fz (D.list (([((0, 0, 3, ()).1, (0, 0, 3, ()).2.1, (some ((0, 0, 3, ()).2.2.1)), (Str.ofString "fail")), ((1, 1, 2, ()).1, (1, 1, 2, ()).2.1, (some ((1, 1, 2, ()).2.2.1)), (Str.ofString "end")), ((0, 5, (), ()).1, (0, 5, (), ()).2.1, none, (Str.ofString "open"))]).map (fun p : (Int × Int × Option Int × Str) => D.tup [(D.int p.1), (D.int p.2.1), (eO p.2.2.1), (D.str p.2.2.2)]))))]) rfl ?_
    refine ss_cons ?_
    refine wp_ret ?_
    refine w_boolop ?_
    refine w_cmp ?_
    refine w_call ?_
    refine ws_cons ?_
    refine w_kst ?_
    refine ws_cons ?_
    refine w_fzvK ?_
    refine w_var (oQ_in rfl ?_)
    refine fzk_fz (d := (D.list (([((Str.ofString "take"), ((), 0).2), ((Str.ofString "take"), ((), 1).2), ((Str.ofString "end"), ((), 1).2), ((Str.ofString "fail"), ((), 0).2), ((Str.ofString "fall"), ((), 1).2), ((Str.ofString "take"), ((), 0).2)]).map (fun p : (Str × Int) => D.tup [(D.str p.1), (D.int p.2)])))) ?_
    refine ws_nil ?_
    refine ⟨rfl, rfl, ?_⟩
    refine oQ_in rfl ?_
    obtain ⟨r65, g66, h⟩ := bnd h
    refine call_g (ρ2 := [.ow (T.fz (D.list (v_script.map D.int))), s60, s61, s62, s63, s64, .ow (T.fz (D.list (([((Str.ofString "take"), ((), 0).2), ((Str.ofString "take"), ((), 1).2), ((Str.ofString "end"), ((), 1).2), ((Str.ofString "fail"), ((), 0).2), ((Str.ofString "fall"), ((), 1).2), ((Str.ofString "take"), ((), 0).2)]).map (fun p : (Str × Int) => D.tup [(D.str p.1), (D.int p.2)])))), .ow (T.fz (D.list (([((0, 0, 3, ()).1, (0, 0, 3, ()).2.1, (some ((0, 0, 3, ()).2.2.1)), (Str.ofString "fail")), ((1, 1, 2, ()).1, (1, 1, 2, ()).2.1, (some ((1, 1, 2, ()).2.2.1)), (Str.ofString "end")), ((0, 5, (), ()).1, (0, 5, (), ()).2.1, none, (Str.ofString "open"))]).map (fun p : (Int × Int × Option Int × Str) => D.tup [(D.int p.1), (D.int p.2.1), (eO p.2.2.1), (D.str p.2.2.2)]))))]) (.ow <| .fr q60 <| .fr q61 <| .fr q62 <| .fr q63 <| .fr q64 <| .ow <| .ow <| .nil) rfl (argT_fz (argT_fz argT_nil)) (m_deeds_of g66) rfl rfl rfl ?_
    refine w_var (oQ_in rfl ?_)
    refine ⟨rfl, oQ_in rfl (oQ_in rfl ?_)⟩
    obtain ⟨x67, g68, h⟩ := bnd h
    refine wCmp_in (cmp_eq (fl_toD (r65.map (fun p : (Int × Int × Option Int × Str) => D.tup [(D.int p.1), (D.int p.2.1), (eO p.2.2.1), (D.str p.2.2.2)]))) rfl g68) ?_
    refine vBool_in rfl ?_
    obtain ⟨x69, e70, h⟩ := bnd h
    by_cases c71 : x67 = true
    · replace e70 := ift c71 e70
      refine ⟨fun _ => ?_, fun z => absurd z (by simp [c71])⟩
      refine w_cmp ?_
      refine w_call ?_
      refine ws_cons ?_
      refine w_kst ?_
      refine ws_cons ?_
      refine w_fzvK ?_
      refine w_var (oQ_in rfl ?_)
      refine fzk_fz (d := (D.list (([((Str.ofString "take"), ((), 0).2), ((Str.ofString "take"), ((), 1).2), ((Str.ofString "end"), ((), 1).2), ((Str.ofString "fail"), ((), 0).2), ((Str.ofString "fall"), ((), 1).2), ((Str.ofString "take"), ((), 0).2)]).map (fun p : (Str × Int) => D.tup [(D.str p.1), (D.int p.2)])))) ?_
      refine ws_cons ?_
      refine w_kst ?_
      refine ws_nil ?_
      refine ⟨rfl, rfl, rfl, ?_⟩
      refine oQ_in rfl ?_
      obtain ⟨r72, g73, e70⟩ := bnd e70
      refine call_g (ρ2 := [.ow (T.fz (D.list (v_script.map D.int))), s60, s61, s62, s63, s64, .ow (T.fz (D.list (([((Str.ofString "take"), ((), 0).2), ((Str.ofString "take"), ((), 1).2), ((Str.ofString "end"), ((), 1).2), ((Str.ofString "fail"), ((), 0).2), ((Str.ofString "fall"), ((), 1).2), ((Str.ofString "take"), ((), 0).2)]).map (fun p : (Str × Int) => D.tup [(D.str p.1), (D.int p.2)])))), .ow (T.fz (D.list (([((0, 0, 3, ()).1, (0, 0, 3, ()).2.1, (some ((0, 0, 3, ()).2.2.1)), (Str.ofString "fail")), ((1, 1, 2, ()).1, (1, 1, 2, ()).2.1, (some ((1, 1, 2, ()).2.2.1)), (Str.ofString "end")), ((0, 5, (), ()).1, (0, 5, (), ()).2.1, none, (Str.ofString "open"))]).map (fun p : (Int × Int × Option Int × Str) => D.tup [(D.int p.1), (D.int p.2.1), (eO p.2.2.1), (D.str p.2.2.2)]))))]) (.ow <| .fr q60 <| .fr q61 <| .fr q62 <| .fr q63 <| .fr q64 <| .ow <| .ow <| .nil) rfl (argT_fz (argT_fz (argT_fz argT_nil))) (m_without_house g73) rfl rfl rfl ?_
      refine w_list ?_
      refine ws_cons ?_
      refine w_fzvK ?_
      refine w_tup ?_
      refine ws_cons ?_
      refine w_kst ?_
      refine ws_cons ?_
      refine w_kst ?_
      refine ws_nil ?_
      refine ⟨rfl, rfl, ?_⟩
      refine oQ_in rfl ?_
      refine fzk_fz (d := (D.tup [(D.str (Str.ofString "take")), (D.int (((), 1).2))])) ?_
      refine ws_cons ?_
      refine w_fzvK ?_
      refine w_tup ?_
      refine ws_cons ?_
      refine w_kst ?_
      refine ws_cons ?_
      refine w_kst ?_
      refine ws_nil ?_
      refine ⟨rfl, rfl, ?_⟩
      refine oQ_in rfl ?_
      refine fzk_fz (d := (D.tup [(D.str (Str.ofString "end")), (D.int (((), 1).2))])) ?_
      refine ws_cons ?_
      refine w_fzvK ?_
      refine w_tup ?_
      refine ws_cons ?_
      refine w_kst ?_
      refine ws_cons ?_
      refine w_kst ?_
      refine ws_nil ?_
      refine ⟨rfl, rfl, ?_⟩
      refine oQ_in rfl ?_
      refine fzk_fz (d := (D.tup [(D.str (Str.ofString "fall")), (D.int (((), 1).2))])) ?_
      refine ws_nil ?_
      refine ⟨rfl, rfl, rfl, ?_⟩
      refine oQ_in rfl ?_
      refine ⟨rfl, oQ_in rfl (oQ_in rfl ?_)⟩
      obtain ⟨x74, g75, e70⟩ := bnd e70
      refine wCmp_in (cmp_eq (fl_toD (r72.map (fun p : (Str × Int) => D.tup [(D.str p.1), (D.int p.2)]))) (fl_toD (([((Str.ofString "take"), ((), 1).2), ((Str.ofString "end"), ((), 1).2), ((Str.ofString "fall"), ((), 1).2)]).map (fun p : (Str × Int) => D.tup [(D.str p.1), (D.int p.2)]))) g75) ?_
      obtain rfl := Option.some.inj e70
      refine oQ_in rfl ?_
      obtain rfl := Option.some.inj h
      refine seqK_rt ?_
      exact ret_in rfl rfl
    · replace e70 := iff_ c71 e70
      refine ⟨fun z => absurd z (by simp [c71]), fun _ => ?_⟩
      obtain rfl := Option.some.inj e70
      refine oQ_in rfl ?_
      obtain rfl := Option.some.inj h
      refine seqK_rt ?_
      exact ret_in rfl rfl
  · rintro b76 t ρ rfl q
    obtain rfl := Option.some.inj h
    refine seqK_rt ?_
    exact q
end LW

end
section
set_option maxRecDepth 10000
set_option exponentiation.threshold 9000
/-! Books of again: digits and numbers. Plain mathematics. -/
namespace LW
open Mv
def unf1 (lot o : Int) : Int := if o ≤ lot then lot + 1 else lot
def unfin (fin : List Int) (d : Int) : Int := fin.foldl unf1 d
structure NS where
  found : List Int
  kv : List (Int × Int)
  fin : List Int
def nstep (w : Int) (s : NS) (d : Int) : NS := ⟨s.found ++ [unfin s.fin d * w + (getI s.kv (unfin s.fin d)).getD 0], putI s.kv (unfin s.fin d) ((getI s.kv (unfin s.fin d)).getD 0 + 1), if (getI s.kv (unfin s.fin d)).getD 0 + 1 = w then sortI (s.fin ++ [unfin s.fin d]) else s.fin⟩
def nall (w : Int) (l : List Int) : NS := l.foldl (nstep w) ⟨[], [], []⟩
def lstep (w : Int) (s : NS) (n : Int) : NS := ⟨s.found ++ [n / w - ((s.fin.filter fun o => decide (o < n / w)).length : Int)], putI s.kv (n / w) (n % w + 1), if n % w + 1 = w then s.fin ++ [n / w] else s.fin⟩
def lok (w : Int) (s : NS) (n : Int) : Prop := n % w = (getI s.kv (n / w)).getD 0
def lall (w : Int) (l : List Int) : NS := l.foldl (lstep w) ⟨[], [], []⟩
end LW
namespace LW
open Mv
def cntLe (fin : List Int) (x : Int) : Int := ((fin.filter fun o => decide (o ≤ x)).length : Int)
def cntLt (fin : List Int) (x : Int) : Int := ((fin.filter fun o => decide (o < x)).length : Int)
theorem cntLe_nn (fin : List Int) (x : Int) : 0 ≤ cntLe fin x := by unfold cntLe; omega
theorem cntLe_cons (s : Int) (fin : List Int) (x : Int) : cntLe (s :: fin) x = (if s ≤ x then 1 else 0) + cntLe fin x := by
  unfold cntLe
  rw [List.filter_cons]
  by_cases h : s ≤ x <;> simp [h] <;> omega
theorem cntLe_perm {f g : List Int} (h : f.Perm g) (x : Int) : cntLe f x = cntLe g x := by
  unfold cntLe; rw [(h.filter _).length_eq]
theorem cntLt_perm {f g : List Int} (h : f.Perm g) (x : Int) : cntLt f x = cntLt g x := by
  unfold cntLt; rw [(h.filter _).length_eq]
theorem cntLt_le {f : List Int} {x : Int} (h : x ∉ f) : cntLt f x = cntLe f x := by
  unfold cntLt cntLe
  congr 2
  refine List.filter_congr fun y hy => ?_
  have : y ≠ x := fun e => h (e ▸ hy)
  exact decide_eq_decide.mpr ⟨fun z => by omega, fun z => by omega⟩
theorem cntLe_mono (f : List Int) {x y : Int} (h : x ≤ y) : cntLe f x ≤ cntLe f y := by
  induction f with
  | nil => simp [cntLe]
  | cons s f ih =>
    rw [cntLe_cons, cntLe_cons]
    split <;> split <;> omega
theorem cntLe_le (f : List Int) (x : Int) : cntLe f x ≤ f.length := by
  unfold cntLe
  have := List.length_filter_le (fun o => decide (o ≤ x)) f
  omega
theorem unfin_cons (s : Int) (fin : List Int) (d : Int) : unfin (s :: fin) d = unfin fin (unf1 d s) := rfl
theorem unfin_id {fin : List Int} {d : Int} (h : ∀ s ∈ fin, d < s) : unfin fin d = d := by
  induction fin with
  | nil => rfl
  | cons s fin ih =>
    have h1 := h s (by simp)
    rw [unfin_cons, unf1, if_neg (by omega)]
    exact ih fun x hx => h x (by simp [hx])
/-- the unfinished lot: not finished, with as many finished ones up to it as it is greater than the digit -/
theorem unfin_spec {fin : List Int} (h : fin.Pairwise (· < ·)) (d : Int) : d ≤ unfin fin d ∧ unfin fin d ∉ fin ∧ unfin fin d = d + cntLe fin (unfin fin d) := by
  induction fin generalizing d with
  | nil => simp [unfin, cntLe]
  | cons s fin ih =>
    obtain ⟨h1, h2⟩ := List.pairwise_cons.mp h
    by_cases hs : s ≤ d
    · have e : unfin (s :: fin) d = unfin fin (d + 1) := by rw [unfin_cons, unf1, if_pos hs]
      rw [e]
      obtain ⟨a, b, c⟩ := ih h2 (d + 1)
      refine ⟨by omega, ?_, ?_⟩
      · simp only [List.mem_cons, not_or]; exact ⟨by omega, b⟩
      · rw [cntLe_cons, if_pos (by omega)]; omega
    · have e : unfin (s :: fin) d = d := unfin_id fun x hx => by
        rcases List.mem_cons.mp hx with rfl | hx
        · omega
        · have := h1 x hx; omega
      rw [e]
      have hn : ∀ x ∈ s :: fin, d < x := fun x hx => by
        rcases List.mem_cons.mp hx with rfl | hx
        · omega
        · have := h1 x hx; omega
      refine ⟨by omega, fun q => by have := hn d q; omega, ?_⟩
      have : cntLe (s :: fin) d = 0 := by
        unfold cntLe
        rw [List.filter_eq_nil_iff.mpr]
        · rfl
        · intro x hx; have := hn x hx; simp; omega
      omega
theorem unfin_least {fin : List Int} (h : fin.Pairwise (· < ·)) {d y : Int} (hy : d + cntLe fin y ≤ y) : unfin fin d ≤ y := by
  induction fin generalizing d with
  | nil => simpa [unfin, cntLe] using hy
  | cons s fin ih =>
    obtain ⟨h1, h2⟩ := List.pairwise_cons.mp h
    rw [cntLe_cons] at hy
    have := cntLe_nn fin y
    by_cases hs : s ≤ d
    · have e : unfin (s :: fin) d = unfin fin (d + 1) := by rw [unfin_cons, unf1, if_pos hs]
      rw [e]
      refine ih h2 ?_
      split at hy <;> omega
    · have e : unfin (s :: fin) d = d := unfin_id fun x hx => by
        rcases List.mem_cons.mp hx with rfl | hx
        · omega
        · have := h1 x hx; omega
      rw [e]
      split at hy <;> omega
theorem sortI_perm (l : List Int) : (sortI l).Perm l := List.mergeSort_perm l _
theorem sortI_le (l : List Int) : (sortI l).Pairwise (· ≤ ·) := by
  have := List.pairwise_mergeSort (le := fun (a b : Int) => decide (a ≤ b)) (fun a b c h1 h2 => by simp at *; omega) (fun a b => by simp; omega) l
  exact this.imp fun h => by simpa using h
theorem sortI_lt {l : List Int} (h : l.Nodup) : (sortI l).Pairwise (· < ·) := by
  have h2 := (sortI_perm l).nodup_iff.mpr h
  exact ((sortI_le l).and h2).imp fun ⟨a, b⟩ => by omega
theorem pw_nodup {l : List Int} (h : l.Pairwise (· < ·)) : l.Nodup := h.imp fun z => by omega
/-- what holds between the turns of all three defs -/
structure Good (w : Int) (kv : List (Int × Int)) (fin : List Int) : Prop where
  asc : fin.Pairwise (· < ·)
  lo : ∀ k, 0 ≤ (getI kv k).getD 0 ∧ (getI kv k).getD 0 ≤ w
  full : ∀ k, k ∈ fin ↔ (getI kv k).getD 0 = w
theorem Good.nil {w : Int} (h : 1 ≤ w) : Good w [] [] := ⟨List.Pairwise.nil, fun k => by simp [getI]; omega, fun k => by simp [getI]; omega⟩
theorem Good.lt {w : Int} {kv : List (Int × Int)} {fin : List Int} (g : Good w kv fin) {k : Int} (h : k ∉ fin) : (getI kv k).getD 0 < w := by
  have a := g.lo k
  have b := g.full k
  have : (getI kv k).getD 0 ≠ w := fun e => h (b.mpr e)
  omega
/-- a lot that is not full takes a number more -/
theorem Good.put {w : Int} {kv : List (Int × Int)} {fin : List Int} (g : Good w kv fin) {k : Int} (h : k ∉ fin) :
    Good w (putI kv k ((getI kv k).getD 0 + 1)) (if (getI kv k).getD 0 + 1 = w then sortI (fin ++ [k]) else fin) := by
  have l := g.lt h
  have l0 := (g.lo k).1
  have hm : ∀ x, x ∈ (if (getI kv k).getD 0 + 1 = w then sortI (fin ++ [k]) else fin) ↔ x ∈ fin ∨ (x = k ∧ (getI kv k).getD 0 + 1 = w) := by
    intro x
    split <;> rename_i e
    · rw [(sortI_perm _).mem_iff]; simp [e]
    · simp [e]
  refine ⟨?_, fun j => ?_, fun j => ?_⟩
  · split
    · refine sortI_lt (List.nodup_append.mpr ⟨pw_nodup g.asc, by simp, fun a ha b hb e => ?_⟩)
      simp at hb; subst hb; subst e; exact h ha
    · exact g.asc
  · rw [getI_put]
    split
    · simp; omega
    · exact g.lo j
  · rw [hm, getI_put]
    by_cases e : k = j
    · subst e
      simp [h]
    · rw [if_neg e, g.full j]
      constructor
      · rintro (q | ⟨q, _⟩)
        · exact q
        · exact absurd q.symm e
      · exact .inl
theorem Good.nall {w : Int} (hw : 1 ≤ w) (l : List Int) : Good w (nall w l).kv (nall w l).fin := by
  have go : ∀ (l : List Int) (s : NS), Good w s.kv s.fin → Good w (l.foldl (nstep w) s).kv (l.foldl (nstep w) s).fin := by
    intro l
    induction l with
    | nil => intro s h; exact h
    | cons d l ih =>
      intro s h
      exact ih _ (h.put (unfin_spec h.asc d).2.1)
  exact go l _ (Good.nil hw)
/-- digits, numbers, digits: the step back undoes the step -/
structure Back (w : Int) (s t : NS) (l : List Int) : Prop where
  kv : t.kv = s.kv
  fin : t.fin.Perm s.fin
  found : t.found = l
theorem back_step {w : Int} (hw : 1 ≤ w) {s t : NS} {l : List Int} (g : Good w s.kv s.fin) (b : Back w s t l) (d : Int) :
    let n := unfin s.fin d * w + (getI s.kv (unfin s.fin d)).getD 0
    lok w t n ∧ Back w (nstep w s d) (lstep w t n) (l ++ [d]) := by
  obtain ⟨u1, u2, u3⟩ := unfin_spec g.asc d
  have p1 := g.lt u2
  have p0 := (g.lo (unfin s.fin d)).1
  intro n
  have e1 : n / w = unfin s.fin d := by
    show (unfin s.fin d * w + (getI s.kv (unfin s.fin d)).getD 0) / w = _
    generalize (getI s.kv (unfin s.fin d)).getD 0 = p at p1 p0
    generalize unfin s.fin d = L
    rw [Int.add_comm, Int.add_mul_ediv_right _ _ (by omega), Int.ediv_eq_zero_of_lt p0 p1]
    omega
  have e2 : n % w = (getI s.kv (unfin s.fin d)).getD 0 := by
    show (unfin s.fin d * w + (getI s.kv (unfin s.fin d)).getD 0) % w = _
    generalize (getI s.kv (unfin s.fin d)).getD 0 = p at p1 p0
    generalize unfin s.fin d = L
    rw [Int.add_comm, Int.add_mul_emod_self_right, Int.emod_eq_of_lt p0 p1]
  refine ⟨by rw [lok, e1, e2, b.kv], ?_, ?_, ?_⟩
  · simp only [lstep, nstep, e1, e2, b.kv]
  · simp only [lstep, nstep, e1, e2]
    split
    · exact (b.fin.append_right _).trans (sortI_perm _).symm
    · exact b.fin
  · simp only [lstep, e1, b.found]
    have : cntLt t.fin (unfin s.fin d) = cntLe s.fin (unfin s.fin d) := by
      rw [cntLt_perm b.fin, cntLt_le u2]
    unfold cntLt at this
    rw [this]
    congr 2
    omega
theorem nall_snoc {w : Int} (l : List Int) (x : Int) : nall w (l ++ [x]) = nstep w (nall w l) x := by
  unfold nall; rw [List.foldl_append]; rfl
theorem lall_snoc {w : Int} (l : List Int) (x : Int) : lall w (l ++ [x]) = lstep w (lall w l) x := by
  unfold lall; rw [List.foldl_append]; rfl
theorem snoc_ind {p : List Int → Prop} (h0 : p []) (hs : ∀ l x, p l → p (l ++ [x])) (l : List Int) : p l := by
  have : ∀ n (l : List Int), l.length = n → p l := by
    intro n
    induction n with
    | zero => intro l hl; rw [List.length_eq_zero_iff.mp hl]; exact h0
    | succ n ih =>
      intro l hl
      have hne : l ≠ [] := by intro e; subst e; simp at hl
      have e := List.dropLast_concat_getLast hne
      rw [← e]
      exact hs _ _ (ih _ (by simp [hl]))
  exact this _ l rfl
theorem back_all {w : Int} (hw : 1 ≤ w) (l : List Int) : Back w (nall w l) (lall w (nall w l).found) l ∧ ∀ (i : Nat) (x : Int), (nall w l).found[i]? = some x → lok w (lall w ((nall w l).found.take i)) x := by
  induction l using snoc_ind with
  | h0 => exact ⟨⟨rfl, .refl _, rfl⟩, fun i x h => by simp [nall] at h⟩
  | hs l d ih =>
    obtain ⟨b, k⟩ := ih
    obtain ⟨s1, s2⟩ := back_step hw (Good.nall hw l) b d
    rw [nall_snoc]
    have e : (nstep w (nall w l) d).found = (nall w l).found ++ [unfin (nall w l).fin d * w + (getI (nall w l).kv (unfin (nall w l).fin d)).getD 0] := rfl
    refine ⟨?_, fun i x h => ?_⟩
    · rw [e, lall_snoc]; exact s2
    · rw [e] at h ⊢
      by_cases hi : i < (nall w l).found.length
      · rw [List.getElem?_append_left hi] at h
        rw [List.take_append_of_le_length (by omega)]
        exact k i x h
      · rw [List.getElem?_append_right (by omega)] at h
        have h0 : i - (nall w l).found.length = 0 := by
          cases hq : i - (nall w l).found.length with
          | zero => rfl
          | succ n => rw [hq] at h; simp at h
        rw [h0] at h
        have hx : unfin (nall w l).fin d * w + (getI (nall w l).kv (unfin (nall w l).fin d)).getD 0 = x := by simpa using h
        have hi2 : i = (nall w l).found.length := by omega
        subst hi2
        rw [List.take_left, ← hx]
        exact s1
end LW
namespace LW
open Mv
theorem nall_len {w : Int} (l : List Int) : (nall w l).found.length = l.length ∧ (nall w l).kv.length ≤ l.length ∧ (nall w l).fin.length ≤ l.length := by
  induction l using snoc_ind with
  | h0 => simp [nall]
  | hs l x ih =>
    rw [nall_snoc]
    obtain ⟨a, b, c⟩ := ih
    refine ⟨by simp [nstep, a], ?_, ?_⟩
    · simp only [nstep, List.length_append, List.length_singleton]
      exact Nat.le_trans (put_len _ _ _) (by omega)
    · simp only [nstep, List.length_append, List.length_singleton]
      split
      · rw [(sortI_perm _).length_eq]; simp; omega
      · omega
theorem lall_len {w : Int} (l : List Int) : (lall w l).found.length = l.length ∧ (lall w l).kv.length ≤ l.length ∧ (lall w l).fin.length ≤ l.length := by
  induction l using snoc_ind with
  | h0 => simp [lall]
  | hs l x ih =>
    rw [lall_snoc]
    obtain ⟨a, b, c⟩ := ih
    refine ⟨by simp [lstep, a], ?_, ?_⟩
    · simp only [lstep, List.length_append, List.length_singleton]
      exact Nat.le_trans (put_len _ _ _) (by omega)
    · simp only [lstep, List.length_append, List.length_singleton]
      split
      · simp; omega
      · omega
theorem take_snoc {α : Type} {l : List α} {i : Nat} {x : α} (h : l[i]? = some x) : l.take (i + 1) = l.take i ++ [x] := by
  rw [List.take_add_one, h]; rfl
theorem unfin_ub {w : Int} {l : List Int} (d : Int) (hw : 1 ≤ w) : d ≤ unfin (nall w l).fin d ∧ unfin (nall w l).fin d ≤ d + l.length := by
  obtain ⟨a, b, c⟩ := unfin_spec (Good.nall hw l).asc d
  have := cntLe_le (nall w l).fin (unfin (nall w l).fin d)
  have := (nall_len (w := w) l).2.2
  omega
theorem nall_bd {w B : Int} (hw : 1 ≤ w) (hw2 : w ≤ 1000000000000000000000000000000) (l : List Int) (h0 : ∀ x ∈ l, 0 ≤ x ∧ x ≤ B) : ∀ n ∈ (nall w l).found, 0 ≤ n ∧ n ≤ (B + l.length + 1) * 1000000000000000000000000000000 := by
  induction l using snoc_ind with
  | h0 => intro n hn; simp [nall] at hn
  | hs l x ih =>
    rw [nall_snoc]
    intro n hn
    simp only [nstep, List.mem_append, List.mem_singleton] at hn
    have l1 : ((l ++ [x]).length : Int) = l.length + 1 := by simp
    rcases hn with hn | hn
    · have := ih (fun y hy => h0 y (by simp [hy])) n hn
      rw [l1]
      exact ⟨this.1, by have := this.2; omega⟩
    · obtain ⟨x0, x1⟩ := h0 x (by simp)
      have g := Good.nall hw l
      obtain ⟨u1, u2, u3⟩ := unfin_spec g.asc x
      have p1 := g.lt u2
      have p0 := (g.lo (unfin (nall w l).fin x)).1
      obtain ⟨_, ub⟩ := unfin_ub (w := w) (l := l) x hw
      rw [hn, l1]
      generalize (getI (nall w l).kv (unfin (nall w l).fin x)).getD 0 = p at *
      generalize unfin (nall w l).fin x = L at *
      have a1 : 0 ≤ L * w := Int.mul_nonneg (by omega) (by omega)
      have a2 : L * w ≤ L * 1000000000000000000000000000000 := Int.mul_le_mul_of_nonneg_left hw2 (by omega)
      omega
/-! ### the unfinished lots in their sequence -/
theorem cnt_gap {fin : List Int} (h : fin.Pairwise (· < ·)) {s L : Int} (hs : ∀ x ∈ fin, s < x) (hL : L ∉ fin) (hl : s < L) : cntLe fin L ≤ L - s - 1 := by
  induction fin generalizing s with
  | nil => simp [cntLe]; omega
  | cons a fin ih =>
    obtain ⟨h1, h2⟩ := List.pairwise_cons.mp h
    rw [cntLe_cons]
    have ha := hs a (by simp)
    have hne : L ≠ a := fun e => hL (by simp [e])
    by_cases c : a ≤ L
    · have := ih h2 h1 (fun z => hL (by simp [z])) (by omega)
      rw [if_pos c]; omega
    · have e : cntLe fin L = 0 := by
        unfold cntLe
        rw [List.filter_eq_nil_iff.mpr]
        · rfl
        · intro x hx; have := h1 x hx; simp; omega
      rw [if_neg c, e]; omega
/-- a lot that is not finished is the unfinished lot of its digit -/
theorem unfin_rank {fin : List Int} (h : fin.Pairwise (· < ·)) {L : Int} (hL : L ∉ fin) : unfin fin (L - cntLe fin L) = L := by
  induction fin with
  | nil => simp [unfin, cntLe]
  | cons s fin ih =>
    obtain ⟨h1, h2⟩ := List.pairwise_cons.mp h
    have hne : L ≠ s := fun e => hL (by simp [e])
    have hL2 : L ∉ fin := fun z => hL (by simp [z])
    rw [cntLe_cons]
    by_cases c : s ≤ L
    · have g := cnt_gap h2 h1 hL2 (show s < L by omega)
      rw [if_pos c, unfin_cons, unf1, if_pos (by omega)]
      have := ih h2 hL2
      rw [show L - (1 + cntLe fin L) + 1 = L - cntLe fin L by omega]
      exact this
    · have e : cntLe fin L = 0 := by
        unfold cntLe
        rw [List.filter_eq_nil_iff.mpr]
        · rfl
        · intro x hx; have := h1 x hx; simp; omega
      rw [if_neg c, e]
      simp only [Int.add_zero, Int.sub_zero]
      exact unfin_id fun x hx => by
        rcases List.mem_cons.mp hx with rfl | hx
        · omega
        · have := h1 x hx; omega
theorem unfin_mono (fin : List Int) {d e : Int} (h : d < e) : unfin fin d < unfin fin e := by
  induction fin generalizing d e with
  | nil => exact h
  | cons s fin ih =>
    rw [unfin_cons, unfin_cons]
    refine ih ?_
    unfold unf1
    split <;> split <;> omega
theorem cntLe_snoc (fin : List Int) (L M : Int) : cntLe (fin ++ [L]) M = cntLe fin M + if L ≤ M then 1 else 0 := by
  unfold cntLe
  rw [List.filter_append, List.length_append]
  by_cases h : L ≤ M <;> simp [h]
/-- when a lot is finished, those below it keep their digits, those above get one less -/
theorem unfin_done {fin : List Int} (h : fin.Pairwise (· < ·)) (d j : Int) : unfin (sortI (fin ++ [unfin fin d])) j = if j < d then unfin fin j else unfin fin (j + 1) := by
  obtain ⟨_, d2, d3⟩ := unfin_spec h d
  have hs : (sortI (fin ++ [unfin fin d])).Pairwise (· < ·) := sortI_lt (List.nodup_append.mpr ⟨pw_nodup h, by simp, fun a ha b hb e => by simp at hb; subst hb; subst e; exact d2 ha⟩)
  have hp := sortI_perm (fin ++ [unfin fin d])
  have go : ∀ k, k ≠ d → j = k - (if unfin fin d ≤ unfin fin k then 1 else 0) → unfin (sortI (fin ++ [unfin fin d])) j = unfin fin k := fun k hk hj => by
    obtain ⟨_, k2, k3⟩ := unfin_spec h k
    have hne : unfin fin k ≠ unfin fin d := fun e => by
      rcases Int.lt_or_gt_of_ne hk with z | z
      · have := unfin_mono fin z; omega
      · have := unfin_mono fin z; omega
    have hm : unfin fin k ∉ sortI (fin ++ [unfin fin d]) := by
      rw [hp.mem_iff]; simp [k2, hne]
    have r := unfin_rank hs hm
    rw [cntLe_perm hp, cntLe_snoc] at r
    rw [show j = unfin fin k - (cntLe fin (unfin fin k) + if unfin fin d ≤ unfin fin k then 1 else 0) by split at hj <;> rename_i q <;> simp only [q, if_true, if_false] <;> omega]
    exact r
  by_cases c : j < d
  · rw [if_pos c]
    have := unfin_mono fin c
    exact go j (by omega) (by rw [if_neg (by omega)]; omega)
  · rw [if_neg c]
    have := unfin_mono fin (show d < j + 1 by omega)
    exact go (j + 1) (by omega) (by rw [if_pos (by omega)]; omega)
/-! ### the next places of the 25 least unfinished lots -/
structure Front (kv : List (Int × Int)) (fin : List Int) (front : List (Int × Int)) (fresh : Int) : Prop where
  len : front.length = 25
  at_ : ∀ j : Nat, j < 25 → front[j]? = some (unfin fin j, (getI kv (unfin fin j)).getD 0)
  fr : fresh = 25 + fin.length
  lt : ∀ x ∈ fin, x < fresh
  new : ∀ k, fresh ≤ k → (getI kv k).getD 0 = 0
theorem Front.last {kv : List (Int × Int)} {fin : List Int} {front : List (Int × Int)} {fresh : Int} (h : fin.Pairwise (· < ·)) (f : Front kv fin front fresh) : unfin fin 25 = fresh := by
  have c : cntLe fin fresh = fin.length := by
    unfold cntLe
    rw [List.filter_eq_self.mpr fun x hx => by have := f.lt x hx; simp; omega]
  have := unfin_rank h (L := fresh) fun z => by have := f.lt _ z; omega
  rw [c, f.fr] at this
  rw [f.fr, ← this]
  congr 1; omega
theorem Front.start : Front [] [] ((rngI 0 25).map fun y => (y, 0)) 25 := by
  refine ⟨by simp [rngI], fun j hj => ?_, by simp, by simp, by simp [getI]⟩
  simp [rngI, unfin, getI, hj]
/-- a place more in a lot -/
theorem Front.more {kv : List (Int × Int)} {fin : List Int} {front : List (Int × Int)} {fresh : Int} (h : fin.Pairwise (· < ·)) (f : Front kv fin front fresh) {d : Nat} (hd : d < 25) (p : Int) :
    Front (putI kv (unfin fin d) p) fin (front.take d ++ [(unfin fin d, p)] ++ front.drop (d + 1)) fresh := by
  have ll := f.last h
  have hlt := unfin_mono fin (show (d : Int) < 25 by omega)
  refine ⟨by simp [f.len]; omega, fun j hj => ?_, f.fr, f.lt, fun k hk => ?_⟩
  · rw [List.append_assoc, List.getElem?_append]
    simp only [List.length_take, f.len, Nat.min_eq_left (show d ≤ 25 by omega)]
    by_cases c : j < d
    · have := unfin_mono fin (show (j : Int) < d by omega)
      rw [if_pos c, List.getElem?_take, if_pos c, f.at_ j hj, getI_put, if_neg (by omega)]
    · rw [if_neg c]
      by_cases e : j = d
      · subst e; simp [getI_put]
      · have := unfin_mono fin (show (d : Int) < j by omega)
        rw [show j - d = (j - d - 1) + 1 by omega, List.singleton_append, List.getElem?_cons_succ, List.getElem?_drop, show d + 1 + (j - d - 1) = j by omega, f.at_ j hj, getI_put, if_neg (by omega)]
  · rw [getI_put, if_neg (by omega)]; exact f.new k hk
/-- a lot is finished -/
theorem Front.done {kv : List (Int × Int)} {fin : List Int} {front : List (Int × Int)} {fresh : Int} (h : fin.Pairwise (· < ·)) (f : Front kv fin front fresh) {d : Nat} (hd : d < 25) (p : Int) :
    Front (putI kv (unfin fin d) p) (sortI (fin ++ [unfin fin d])) (front.take d ++ front.drop (d + 1) ++ [(fresh, 0)]) (fresh + 1) := by
  have ll := f.last h
  have hlt := unfin_mono fin (show (d : Int) < 25 by omega)
  refine ⟨by simp [f.len]; omega, fun j hj => ?_, ?_, fun x hx => ?_, fun k hk => ?_⟩
  · rw [List.append_assoc, List.getElem?_append]
    simp only [List.length_take, f.len, Nat.min_eq_left (show d ≤ 25 by omega)]
    rw [unfin_done h]
    by_cases c : j < d
    · have := unfin_mono fin (show (j : Int) < d by omega)
      rw [if_pos c, List.getElem?_take, if_pos c, f.at_ j hj, if_pos (by omega), getI_put, if_neg (by omega)]
    · have := unfin_mono fin (show (d : Int) < (j : Int) + 1 by omega)
      rw [if_neg c, if_neg (by omega), getI_put, if_neg (by omega), List.getElem?_append]
      simp only [List.length_drop, f.len]
      by_cases e : j = 24
      · subst e
        rw [if_neg (by omega), show 24 - d - (25 - (d + 1)) = 0 by omega]
        have : ((24 : Nat) : Int) + 1 = 25 := rfl
        rw [this, ll, f.new _ (Int.le_refl _)]; rfl
      · rw [if_pos (by omega), List.getElem?_drop, show d + 1 + (j - d) = j + 1 by omega, f.at_ (j + 1) (by omega)]
        simp
  · rw [f.fr, (sortI_perm _).length_eq]; simp; omega
  · rw [(sortI_perm _).mem_iff] at hx
    simp at hx
    rcases hx with hx | hx
    · have := f.lt x hx; omega
    · omega
  · rw [getI_put, if_neg (by omega)]; exact f.new k (by omega)
/-! ### figures -/
/-- the value of figures, the least one ahead -/
def vr (b : Int) : List Int → Int
  | [] => 0
  | s :: t => s + b * vr b t
theorem vr_snoc (b : Int) (t : List Int) (s : Int) : vr b (t ++ [s]) = vr b t + s * b ^ t.length := by
  induction t with
  | nil => simp [vr]
  | cons x t ih =>
    simp only [List.cons_append, vr, ih, List.length_cons, Int.pow_succ]
    rw [Int.mul_add, Int.add_assoc]
    congr 2
    rw [Int.mul_comm b (s * b ^ t.length), Int.mul_assoc]
theorem vr_bd {b : Int} (hb : 1 ≤ b) {t : List Int} (h : ∀ x ∈ t, 0 ≤ x ∧ x < b) : 0 ≤ vr b t ∧ vr b t < b ^ t.length := by
  induction t with
  | nil => simp [vr]
  | cons s t ih =>
    obtain ⟨a, c⟩ := ih fun x hx => h x (by simp [hx])
    obtain ⟨s0, s1⟩ := h s (by simp)
    simp only [vr, List.length_cons, Int.pow_succ]
    have m0 : 0 ≤ b * vr b t := Int.mul_nonneg (by omega) a
    have m1 : b * (vr b t + 1) ≤ b * b ^ t.length := Int.mul_le_mul_of_nonneg_left (by omega) (by omega)
    rw [Int.mul_add, Int.mul_one] at m1
    rw [Int.mul_comm (b ^ t.length) b]
    omega
theorem pow_bd {b : Int} (h1 : 1 ≤ b) (h2 : b ≤ 20) : ∀ {n : Nat}, n ≤ 200 → 1 ≤ b ^ n ∧ b ^ n ≤ 20 ^ n
  | 0, _ => by simp
  | n + 1, h => by
    obtain ⟨a, c⟩ := pow_bd h1 h2 (n := n) (by omega)
    rw [Int.pow_succ, Int.pow_succ]
    have m1 : b ^ n * b ≤ 20 ^ n * 20 := Int.mul_le_mul c h2 (by omega) (by omega)
    have m2 : 1 * 1 ≤ b ^ n * b := Int.mul_le_mul a h1 (by omega) (by omega)
    omega
theorem pow20 {n : Nat} (h : n ≤ 200) : (20 : Int) ^ n ≤ 20 ^ 200 := by
  have : (20 : Nat) ^ n ≤ 20 ^ 200 := Nat.pow_le_pow_right (by decide) h
  exact_mod_cast this
end LW

end
section
set_option maxRecDepth 10000
set_option exponentiation.threshold 9000
namespace LW
open PySem PySem.Spec PyProof.Rows L2 Mv
theorem t_draw {c0 n : Int} {s : List Int} (h : Sr c0 s) (hn : 0 < n) (hn2 : okI n = true) (hc0 : c0 ≤ 1000000000) : OK (p__law_draw s n) fun r => 0 ≤ r.1 ∧ r.1 < n ∧ Sr (c0 + 1) r.2 := by
  obtain ⟨a, b, c, rfl, ha, hb, hb2, hc, hc2⟩ := h
  have m1 : okI (c + 1) = true := okI_nat (b := 1000000001) (by omega) (by omega) (by decide)
  have m2 : okI (b + 600011 * (c + 1)) = true := okI_nat (b := 1000000000000000000000000000000000000000000 + 600011 * 1000000001) (by omega) (by omega) (by decide)
  unfold p__law_draw
  refine ok_eq (show ixG [a, b, c] 0 = some a from rfl) ?_
  refine ok_if (fun ha2 => ?_) fun ha2 => ?_
  · refine ok_eq (show ixG [a, b, c] 0 = some a from rfl) (ok_eq (modG_ok hn) (ok_eq (show ixG [a, b, c] 0 = some a from rfl) (ok_eq (divG_ok hn hn2) (ok_eq (show stoG [a, b, c] 0 (a / n) = some [a / n, b, c] from rfl) (ok_some ?_)))))
    exact ⟨Int.emod_nonneg _ (by omega), Int.emod_lt_of_pos _ hn, _, _, _, rfl, Int.ediv_nonneg ha (by omega), hb, hb2, hc, by omega⟩
  · refine ok_eq (show ixG [a, b, c] 2 = some c from rfl) (ok_eq (show stoG [a, b, c] 2 (c + 1) = some [a, b, c + 1] from rfl) (ok_eq (show ixG [a, b, c + 1] 1 = some b from rfl) (ok_eq (show ixG [a, b, c + 1] 2 = some (c + 1) from rfl) ?_)))
    refine ok_eq (mulG_ok (by decide +kernel) m1) (ok_eq (powG_ok m2) (ok_eq (show ixG [a, b, c + 1] 2 = some (c + 1) from rfl) ?_))
    have q0 := Int.emod_nonneg ((b + 600011 * (c + 1)) ^ 3) (show (10 ^ 36 + 67 : Int) ≠ 0 by decide)
    have q1 := Int.emod_lt_of_pos ((b + 600011 * (c + 1)) ^ 3) (show (0 : Int) < 10 ^ 36 + 67 by decide)
    generalize (b + 600011 * (c + 1)) ^ 3 % (10 ^ 36 + 67) = x at q0 q1 ⊢
    have q2 : x * (c + 1) ≤ (10 ^ 36 + 67) * 1000000001 := Int.mul_le_mul (Int.le_of_lt q1) (by omega) (by omega) (by decide)
    have q3 : 0 ≤ x * (c + 1) := Int.mul_nonneg q0 (by omega)
    refine ok_eq (mulG_ok (okI_nat q0 (Int.le_of_lt q1) (by decide +kernel)) m1) ?_
    refine ok_eq (powG_ok (okI_nat (b := (10 ^ 36 + 67) * 1000000001 + 77773) (by omega) (by omega) (by decide +kernel))) (ok_eq (modG_ok hn) (ok_some ?_))
    exact ⟨Int.emod_nonneg _ (by omega), Int.emod_lt_of_pos _ hn, _, _, _, rfl, ha, hb, hb2, by omega, by omega⟩
theorem t_source {v k : Int} (hk : 0 ≤ k) (hk2 : k ≤ 1000) : OK (p__law_source v k) (Sr 0) := by
  unfold p__law_source
  have q0 := Int.emod_nonneg (absI v) (show (10 ^ 39 + 3 : Int) ≠ 0 by decide)
  have q1 := Int.emod_lt_of_pos (absI v) (show (0 : Int) < 10 ^ 39 + 3 by decide)
  generalize absI v % (10 ^ 39 + 3) = x at q0 q1 ⊢
  refine ok_eq (mulG_ok (okI_nat q0 (Int.le_of_lt q1) (by decide +kernel)) (by decide +kernel)) (ok_eq (mulG_ok (by decide +kernel) (okI_nat hk hk2 (by decide +kernel))) (ok_some ?_))
  refine ⟨_, _, _, rfl, ?_, ?_, ?_, by omega, by omega⟩
  · unfold mx2; split <;> omega
  · split <;> omega
  · split <;> omega
end LW

end
section
set_option maxRecDepth 10000
set_option exponentiation.threshold 9000
namespace LW
open PySem PySem.Spec PyProof.Rows L2 Mv
theorem t_int (v l m : Int) : p_is_integer v l m = some (decide (l ≤ v) && decide (v ≤ m)) := by
  unfold p_is_integer
  by_cases h : l ≤ v <;> simp [h]
end LW

end
section
set_option maxRecDepth 10000
set_option exponentiation.threshold 9000
namespace LW
open PySem PySem.Spec PyProof.Rows L2 Mv
theorem t_houses {h : Int} (h1 : 1 ≤ h) (h2 : h ≤ 20) : p_need_houses h = some () := by
  unfold p_need_houses
  simp [t_int, h1, h2]
end LW

end
section
set_option maxRecDepth 10000
set_option exponentiation.threshold 9000
namespace LW
open PySem PySem.Spec PyProof.Rows L2 Mv
/-! weavings -/
abbrev Ev := Str × Int
def sTake : Str := Str.ofString "take"
def sEnd : Str := Str.ofString "end"
def sFail : Str := Str.ofString "fail"
def sFall : Str := Str.ofString "fall"
def opStep (h : Int) (b : Bool) (e : Ev) : Bool := if e.2 = h then decide (e.1 = sTake) else b
/-- has the house an open deed? -/
def opn (l : List Ev) (h : Int) : Bool := l.foldl (opStep h) false
theorem opn_snoc (l : List Ev) (e : Ev) (h : Int) : opn (l ++ [e]) h = if e.2 = h then decide (e.1 = sTake) else opn l h := by
  unfold opn; rw [List.foldl_append]; rfl
structure EvOk (f : Int) (l : List Ev) (e : Ev) : Prop where
  word : e.1 = sTake ∨ e.1 = sEnd ∨ e.1 = sFail ∨ e.1 = sFall
  lo : 0 ≤ e.2
  hi : e.2 < f
  fits : e.1 = sFall ∨ opn l e.2 ≠ decide (e.1 = sTake)
inductive Wv (f : Int) : List Ev → Prop
  | nil : Wv f []
  | snoc {l : List Ev} {e : Ev} (h : Wv f l) (k : EvOk f l e) : Wv f (l ++ [e])
theorem snoc_cases {α : Type} (l : List α) : l = [] ∨ ∃ a x, l = a ++ [x] := by
  by_cases h : l = []
  · exact .inl h
  · exact .inr ⟨l.dropLast, l.getLast h, (List.dropLast_concat_getLast h).symm⟩
theorem Wv.inv {f : Int} {l : List Ev} (h : Wv f l) : l = [] ∨ ∃ a e, l = a ++ [e] ∧ Wv f a ∧ EvOk f a e := by
  cases h with
  | nil => exact .inl rfl
  | snoc h k => exact .inr ⟨_, _, rfl, h, k⟩
theorem Wv.at_ {f : Int} {l : List Ev} (h : Wv f l) {i : Nat} {e : Ev} (he : l[i]? = some e) : Wv f (l.take i) ∧ EvOk f (l.take i) e := by
  induction h with
  | nil => simp at he
  | snoc h k ih =>
    rename_i l e'
    by_cases hi : i < l.length
    · rw [List.getElem?_append_left hi] at he
      rw [List.take_append_of_le_length (by omega)]
      exact ih he
    · have hl := (List.getElem?_eq_some_iff.mp he).1
      simp at hl
      have hi2 : i = l.length := by omega
      subst hi2
      rw [List.getElem?_append_right (by omega)] at he
      simp at he
      subst he
      rw [List.take_left]
      exact ⟨h, k⟩
def ops (f : Int) (l : List Ev) : List Bool := (rngI 0 f).map (opn l)
theorem ops_len (f : Int) (l : List Ev) : (ops f l).length = f.toNat := by
  unfold ops; rw [List.length_map, rngI_len]; congr 1; omega
theorem ops_at {f : Int} {l : List Ev} {h : Int} (h0 : 0 ≤ h) (h1 : h < f) : (ops f l)[h.toNat]? = some (opn l h) := by
  unfold ops rngI
  rw [List.map_map, List.getElem?_map, List.getElem?_range (by omega)]
  simp only [Option.map_some, Function.comp]
  congr 2; omega
theorem ops_ix {f : Int} {l : List Ev} {h : Int} (h0 : 0 ≤ h) (h1 : h < f) : ixG (ops f l) h = some (opn l h) := ixG_int h0 (ops_at h0 h1)
theorem sto_nn {α : Type} {l : List α} {i : Int} {v : α} (h0 : 0 ≤ i) (h1 : i < l.length) : stoG l i v = some (l.set i.toNat v) := by
  obtain ⟨k, rfl⟩ := Int.eq_ofNat_of_zero_le h0
  exact stoG_nn (by omega)
theorem ops_sto {f : Int} {l : List Ev} {e : Ev} (h0 : 0 ≤ e.2) (h1 : e.2 < f) : stoG (ops f l) e.2 (decide (e.1 = sTake)) = some (ops f (l ++ [e])) := by
  rw [sto_nn h0 (by rw [ops_len]; omega)]
  congr 1
  refine List.ext_getElem? fun i => ?_
  by_cases hi : i < f.toNat
  · have a := ops_at (l := l ++ [e]) (h := (i : Int)) (f := f) (by omega) (by omega)
    have b := ops_at (l := l) (h := (i : Int)) (f := f) (by omega) (by omega)
    rw [Int.toNat_natCast] at a b
    rw [a, opn_snoc, List.getElem?_set]
    by_cases c : e.2 = i
    · rw [if_pos c, if_pos (by omega), if_pos (by rw [ops_len]; omega)]
    · rw [if_neg c, if_neg (by omega), b]
  · rw [List.getElem?_eq_none (by rw [List.length_set, ops_len]; omega), List.getElem?_eq_none (by rw [ops_len]; omega)]
theorem ops_nil {f : Int} (h0 : 0 ≤ f) (h1 : f ≤ 1000) : repG [false] f = some (ops f []) := by
  rw [repG_ok h0 (by omega) (by simp; omega)]
  congr 1
  unfold ops
  refine List.ext_getElem (by simp [rngI_len]) fun i h1 h2 => ?_
  have : ∀ x ∈ (List.replicate f.toNat [false]).flatten, x = false := by
    intro x hx
    obtain ⟨q, hq, hx⟩ := List.mem_flatten.mp hx
    have := (List.mem_replicate.mp hq).2
    subst this
    simpa using hx
  rw [this _ (List.getElem_mem h1), List.getElem_map]
  rfl
theorem deq_str (x y : Str) : deqG (.str x) (.str y) = some (decide (x = y)) := deqG_str x y
theorem deq_bool (x y : Bool) : deqG (.bool x) (.bool y) = some (decide (x = y)) := by
  cases x <;> cases y <;> decide +kernel
theorem Wv.filter {f : Int} {l : List Ev} (h : Wv f l) (k : Int) : Wv f (l.filter fun e => !decide (e.2 = k)) ∧ ∀ j, j ≠ k → opn (l.filter fun e => !decide (e.2 = k)) j = opn l j := by
  induction h with
  | nil => exact ⟨.nil, fun _ _ => rfl⟩
  | snoc h ok ih =>
    rename_i l e
    rw [List.filter_append]
    by_cases c : e.2 = k
    · rw [show [e].filter (fun e => !decide (e.2 = k)) = [] by simp [c], List.append_nil]
      refine ⟨ih.1, fun j hj => ?_⟩
      rw [ih.2 j hj, opn_snoc, if_neg (by omega)]
    · rw [show [e].filter (fun e => !decide (e.2 = k)) = [e] by simp [c]]
      refine ⟨.snoc ih.1 ⟨ok.word, ok.lo, ok.hi, by rw [ih.2 _ c]; exact ok.fits⟩, fun j hj => ?_⟩
      rw [opn_snoc, opn_snoc, ih.2 j hj]
theorem t_event {f : Int} {l : List Ev} {e : Ev} (k : EvOk f l e) : p_is_event f e = some true := by
  unfold p_is_event
  have : e.1 ∈ [Str.ofString "take", Str.ofString "end", Str.ofString "fail", Str.ofString "fall"] := by
    rcases k.word with h | h | h | h <;> rw [h] <;> simp [sTake, sEnd, sFail, sFall]
  rw [if_pos this, t_int, decide_eq_true k.lo, decide_eq_true (by have := k.hi; omega)]
  rfl
theorem t_wrong {f : Int} {l : List Ev} (f1 : 1 ≤ f) (f2 : f ≤ 20) (h : Wv f l) : p_wrong_event f l = some none := by
  refine ok_get ?_
  unfold p_wrong_event
  refine ok_eq (ops_nil (by omega) (by omega)) (ok_call (forR_all (fun i st => st = ops f (l.take i)) rfl fun i p st hp hs => ?_) ?_)
  · subst hs
    obtain ⟨hx, _⟩ := enumI_get l 0 i p hp
    obtain ⟨w, k⟩ := h.at_ hx
    obtain ⟨j, e⟩ := p
    dsimp only at hx k ⊢
    have st := ops_sto (l := l.take i) k.lo k.hi
    refine ok_eq (t_event k) (ok_ift rfl (ok_eq (deq_str _ _) (ok_if (fun hf => ?_) fun hf => ?_)))
    · refine ok_eq (ops_ix k.lo k.hi) (ok_eq (deq_str _ _) (ok_eq (deq_bool _ _) (ok_iff (fun z => ?_) (ok_eq (deq_str _ _) (ok_eq st (ok_some ⟨_, rfl, by rw [take_snoc hx]⟩))))))
      have z : opn (l.take i) e.2 = decide (e.1 = sTake) := of_decide_eq_true z
      rcases k.fits with q | q
      · exact hf (decide_eq_true q)
      · exact q z
    · exact ok_eq (deq_str _ _) (ok_eq st (ok_some ⟨_, rfl, by rw [take_snoc hx]⟩))
  · rintro _ ⟨s', rfl, _⟩
    exact ok_some rfl
theorem t_needw {f : Int} {l : List Ev} (f1 : 1 ≤ f) (f2 : f ≤ 20) (h : Wv f l) (hl : l.length ≤ 800) : p_need_weaving f l = some () := by
  unfold p_need_weaving
  rw [if_neg (by omega), t_wrong f1 f2 h]
  rfl
theorem t_isw {f : Int} {l : List Ev} (f1 : 1 ≤ f) (f2 : f ≤ 20) (h : Wv f l) (hl : l.length ≤ 800) : p_is_weaving f l = some true := by
  unfold p_is_weaving
  rw [t_houses f1 f2, if_pos (by omega), t_wrong f1 f2 h]
  rfl
end LW

end
section
set_option maxRecDepth 10000
set_option exponentiation.threshold 9000
namespace LW
open PySem PySem.Spec PyProof.Rows L2 Mv
theorem t_acts {c0 f m : Int} {s : List Int} {b : Bool} (h : Sr c0 s) (hc : c0 ≤ 1000000) (f1 : 1 ≤ f) (f2 : f ≤ 20) (m0 : 0 ≤ m) (m1 : m ≤ 800) : OK (p__law_acts s f m b) fun r => Wv f r.1 ∧ r.1.length = m.toNat ∧ Sr (c0 + 2 * m) r.2 := by
  unfold p__law_acts
  refine ok_eq (ops_nil (by omega) (by omega)) (ok_eq rngG_any ?_)
  refine ok_call (forP_ok (fun i (st : List Int × List Bool × List (Str × Int)) => Wv f st.2.2 ∧ st.2.2.length = i ∧ st.2.1 = ops f st.2.2 ∧ Sr (c0 + 2 * i) st.1) ⟨.nil, rfl, rfl, h.mono (by omega)⟩ fun i y st hy ⟨w, l1, l2, l3⟩ => ?_) fun st ⟨w, l1, l2, l3⟩ => ok_some ⟨w, by rw [l1, rngI_len]; omega, l3.mono (by rw [rngI_len]; omega)⟩
  obtain ⟨_, hi⟩ := rngI_get hy
  obtain ⟨src, opened, found⟩ := st
  dsimp only at w l1 l2 l3 ⊢
  subst l2
  refine ok_call (t_draw l3 (by omega) (okI_nat (b := 20) (by omega) (by omega) (by decide +kernel)) (by omega)) fun r8 ⟨a0, a1, h1⟩ => ?_
  refine ok_call (t_draw h1 (by decide) (by decide +kernel) (by omega)) fun r9 ⟨b0, b1, h2⟩ => ?_
  have sr := h2.mono (show c0 + 2 * (i : Int) + 1 + 1 ≤ c0 + 2 * ((i + 1 : Nat) : Int) by omega)
  have add : ∀ (wd : Str), EvOk f found (wd, r8.1) → ∀ v, v = decide (wd = sTake) → OK ((appG found (wd, r8.1)).bind fun x10 => (stoG (ops f found) r8.1 v).bind fun x11 => some (x11, x10)) fun z => Wv f z.2 ∧ z.2.length = i + 1 ∧ z.1 = ops f z.2 := fun wd k v hv => by
    subst hv
    exact ok_eq (appG_ok (by omega)) (ok_eq (ops_sto (e := (wd, r8.1)) a0 a1) (ok_some ⟨.snoc w k, by simp [l1], rfl⟩))
  have ne1 : ¬ Str.ofString "fall" = sTake := by decide +kernel
  have ne2 : ¬ Str.ofString "end" = sTake := by decide +kernel
  have ne3 : ¬ Str.ofString "fail" = sTake := by decide +kernel
  have mid : OK ((ixG (ops f found) r8.1).bind fun x12 =>
            if x12 = true then
              (ixG ([(Str.ofString "end"), (Str.ofString "end"), (Str.ofString "fail")]) (r9.1 % 3)).bind fun x13 =>
              (appG found (x13, r8.1)).bind fun x14 =>
              (stoG (ops f found) r8.1 false).bind fun x15 =>
              some (x15, x14)
            else
              (appG found ((Str.ofString "take"), ((), r8.1).2)).bind fun x16 =>
              (stoG (ops f found) r8.1 true).bind fun x17 =>
              some (x17, x16)) fun z => Wv f z.2 ∧ z.2.length = i + 1 ∧ z.1 = ops f z.2 := by
    refine ok_eq (ops_ix a0 a1) (ok_if (fun ho => ?_) fun ho => ?_)
    · have : ∃ wd, ixG ([(Str.ofString "end"), (Str.ofString "end"), (Str.ofString "fail")]) (r9.1 % 3) = some wd ∧ (wd = sEnd ∨ wd = sFail) := by
        have q0 := Int.emod_nonneg r9.1 (show (3 : Int) ≠ 0 by decide)
        have q1 := Int.emod_lt_of_pos r9.1 (show (0 : Int) < 3 by decide)
        generalize r9.1 % 3 = q at q0 q1 ⊢
        obtain ⟨i, rfl⟩ := Int.eq_ofNat_of_zero_le q0
        match i, q1 with
        | 0, _ => exact ⟨_, rfl, .inl rfl⟩
        | 1, _ => exact ⟨_, rfl, .inl rfl⟩
        | 2, _ => exact ⟨_, rfl, .inr rfl⟩
        | n + 3, z => omega
      obtain ⟨wd, e, hw⟩ := this
      have nt : ¬ wd = sTake := by rcases hw with rfl | rfl; exact ne2; exact ne3
      refine ok_eq e (add wd ⟨?_, a0, a1, .inr ?_⟩ false (decide_eq_false nt).symm)
      · rcases hw with rfl | rfl
        · exact .inr (.inl rfl)
        · exact .inr (.inr (.inl rfl))
      · dsimp only
        rw [ho, decide_eq_false nt]; decide
    · have ho : opn found r8.1 = false := by simpa using ho
      exact add sTake ⟨.inl rfl, a0, a1, .inr (by dsimp only; rw [ho]; simp)⟩ true (by simp)
  refine ok_call (P := fun z => Wv f z.2 ∧ z.2.length = i + 1 ∧ z.1 = ops f z.2) ?_ fun z ⟨z1, z2, z3⟩ => ok_some ⟨z1, z2, z3, sr⟩
  refine ok_if (fun _ => ok_if (fun _ => ?_) fun _ => ?_) fun _ => ?_
  · exact add sFall ⟨.inr (.inr (.inr rfl)), a0, a1, .inl rfl⟩ false (decide_eq_false ne1).symm
  · exact ok_call mid fun z hz => ok_some hz
  · exact ok_call mid fun z hz => ok_some hz
end LW

end
section
set_option maxRecDepth 10000
set_option exponentiation.threshold 9000
namespace LW
open PySem PySem.Spec PyProof.Rows L2 Mv
theorem mem_rngI {lo hi x : Int} : x ∈ rngI lo hi ↔ lo ≤ x ∧ x < hi := by
  unfold rngI
  rw [List.mem_map]
  constructor
  · rintro ⟨i, hi, rfl⟩
    rw [List.mem_range] at hi
    omega
  · rintro ⟨h1, h2⟩
    exact ⟨(x - lo).toNat, List.mem_range.mpr (by omega), by omega⟩
theorem deq_nil (l : List Int) : deqG (D.list (l.map D.int)) (D.list (([] : List Int).map D.int)) = some l.isEmpty := by
  cases l with
  | nil => exact deqG_self shp_ints
  | cons x l =>
    have e1 : (D.list ((x :: l).map D.int)).shp 60 = true := shp_ints
    have e2 : (D.list (([] : List Int).map D.int)).shp 60 = true := shp_ints
    unfold deqG deq
    split
    · rename_i h _; cases h
    · rw [e1, e2]
      simp [D.toPy, D.toPys, PyData.eqv, PyData.eqvAll]
end LW

end
section
set_option maxRecDepth 10000
set_option exponentiation.threshold 9000
namespace LW
open PySem PySem.Spec PyProof.Rows L2 Mv
/-! deeds -/
abbrev Dd := Int × Int × Option Int × Str
def sOpen : Str := Str.ofString "open"
def close (i : Int) (e : Ev) (d : Dd) : Dd := if d.1 = e.2 ∧ d.2.2.2 = sOpen then (d.1, d.2.1, some i, e.1) else d
def dstep (i : Int) (e : Ev) (ds : List Dd) : List Dd := ds.map (close i e) ++ if e.1 = sTake then [(e.2, i, none, sOpen)] else []
def deeds (l : List Ev) : List Dd := (enumI 0 l).foldl (fun ds p => dstep p.1 p.2 ds) []
theorem enumI_snoc {α : Type} (l : List α) (x : α) : ∀ n, enumI n (l ++ [x]) = enumI n l ++ [(((n + l.length : Nat) : Int), x)] := by
  induction l with
  | nil => intro n; rfl
  | cons y l ih =>
    intro n
    simp only [List.cons_append, enumI, ih, List.length_cons]
    congr 3
    congr 1; omega
theorem deeds_snoc (l : List Ev) (e : Ev) : deeds (l ++ [e]) = dstep (l.length : Int) e (deeds l) := by
  unfold deeds
  rw [enumI_snoc, List.foldl_append]
  simp
theorem word_ne {f : Int} {l : List Ev} {e : Ev} (k : EvOk f l e) : e.1 ≠ sOpen := by
  rcases k.word with h | h | h | h <;> rw [h] <;> decide +kernel
/-- where the open deed of a house stands -/
structure OA (ds : List Dd) (h : Int) (v : Option Int) : Prop where
  is_ : ∀ k, v = some k → 0 ≤ k ∧ ∃ b, ds[k.toNat]? = some (h, b, none, sOpen)
  one : ∀ (j : Nat) (d : Dd), ds[j]? = some d → d.1 = h → d.2.2.2 = sOpen → v = some (j : Int)
theorem OA.other {ds : List Dd} {h : Int} {v : Option Int} (o : OA ds h v) {i : Int} {e : Ev} (hne : e.2 ≠ h) : OA (dstep i e ds) h v := by
  have cl : ∀ d : Dd, d.1 = h → close i e d = d := fun d hd => by unfold close; rw [if_neg (by omega)]
  have c1 : ∀ d : Dd, (close i e d).1 = d.1 := fun d => by unfold close; split <;> rfl
  refine ⟨fun k hk => ?_, fun j d hj hd hw => ?_⟩
  · obtain ⟨k0, b, hb⟩ := o.is_ k hk
    refine ⟨k0, b, ?_⟩
    unfold dstep
    rw [List.getElem?_append_left (by rw [List.length_map]; exact (List.getElem?_eq_some_iff.mp hb).1), List.getElem?_map, hb, Option.map_some, cl _ rfl]
  · unfold dstep at hj
    by_cases q : j < ds.length
    · rw [List.getElem?_append_left (by rw [List.length_map]; exact q), List.getElem?_map] at hj
      obtain ⟨d0, e0, rfl⟩ := Option.map_eq_some_iff.mp hj
      rw [c1] at hd
      rw [cl _ hd] at hw
      exact o.one j d0 e0 hd hw
    · rw [List.getElem?_append_right (by rw [List.length_map]; omega)] at hj
      have := List.mem_of_getElem? hj
      split at this
      · simp only [List.mem_singleton] at this
        subst this
        exact absurd hd hne
      · simp at this
theorem OA.noop {ds : List Dd} {h : Int} (o : OA ds h none) {i : Int} {e : Ev} (he : e.2 = h) : ds.map (close i e) = ds := by
  refine List.ext_getElem? fun j => ?_
  rw [List.getElem?_map]
  cases q : ds[j]? with
  | none => rfl
  | some d =>
    rw [Option.map_some]
    congr 1
    unfold close
    rw [if_neg]
    rintro ⟨h1, h2⟩
    have := o.one j d q (h1.trans he) h2
    cases this
theorem t_deeds {f : Int} {l : List Ev} (f1 : 1 ≤ f) (f2 : f ≤ 20) (h : Wv f l) (hl : l.length ≤ 800) : p_deeds_of f l = some (deeds l) := by
  refine ok_get ?_
  unfold p_deeds_of
  refine ok_eq (t_houses f1 f2) (ok_eq (t_needw f1 f2 h hl) (ok_eq (repG_ok (by omega) (by omega) (by simp; omega)) ?_))
  refine ok_call (forP_ok (fun i (st : List Dd × List (Option Int)) => st.1 = deeds (l.take i) ∧ st.1.length ≤ i ∧ st.2.length = f.toNat ∧ ∀ k, 0 ≤ k → k < f → ∃ v, st.2[k.toNat]? = some v ∧ OA st.1 k v ∧ v.isSome = opn (l.take i) k) ⟨rfl, by simp, by simp, fun k k0 k1 => ⟨none, ?_, ⟨fun _ z => (nomatch z), fun j d z => by simp at z⟩, rfl⟩⟩ fun i p st hp ⟨h1, h2, h3, h4⟩ => ?_) fun st ⟨h1, _⟩ => ok_some (by rw [h1, enumI_len, List.take_length])
  · have e : ∀ (m : Nat), (List.replicate m [(none : Option Int)]).flatten = List.replicate m none := by
      intro m
      induction m with
      | zero => rfl
      | succ m ih => rw [List.replicate_succ, List.flatten_cons, ih]; rfl
    dsimp only
    rw [e, List.getElem?_replicate, if_pos (by omega)]
  obtain ⟨hx, hi⟩ := enumI_get l 0 i p hp
  obtain ⟨w, k⟩ := h.at_ hx
  obtain ⟨n, e⟩ := p
  obtain ⟨ds, os⟩ := st
  dsimp only at hx hi k h1 h2 h3 h4 ⊢
  have hil := (List.getElem?_eq_some_iff.mp hx).1
  have hn : n = (i : Int) := by omega
  subst hn
  have e0 := k.lo
  have e1 := k.hi
  have dn : deeds (l.take (i + 1)) = dstep (i : Int) e ds := by
    rw [take_snoc hx, deeds_snoc, h1, List.length_take, Nat.min_eq_left (by omega)]
  obtain ⟨v, hv, ov, vo⟩ := h4 e.2 e0 e1
  -- the other houses
  have oth : ∀ (os' : List (Option Int)) (u : Option Int), os' = os.set e.2.toNat u → OA (dstep (i : Int) e ds) e.2 u → u.isSome = decide (e.1 = sTake) → ∀ k, 0 ≤ k → k < f → ∃ v, os'[k.toNat]? = some v ∧ OA (dstep (i : Int) e ds) k v ∧ v.isSome = opn (l.take (i + 1)) k := by
    intro os' u hos hu hu2 j j0 j1
    subst hos
    rw [take_snoc hx]
    by_cases c : e.2 = j
    · subst c
      exact ⟨u, by rw [List.getElem?_set, if_pos rfl, if_pos (by omega)], hu, by rw [opn_snoc, if_pos rfl]; exact hu2⟩
    · obtain ⟨v', a1, a2, a3⟩ := h4 j j0 j1
      exact ⟨v', by rw [List.getElem?_set, if_neg (by omega)]; exact a1, a2.other c, by rw [opn_snoc, if_neg c]; exact a3⟩
  refine ok_join (ok_eq (deq_str _ _) (ok_if (fun ht => ?_) fun ht => ?_))
  · have ht : e.1 = sTake := of_decide_eq_true ht
    have vn : v = none := by
      have : opn (l.take i) e.2 = false := by
        rcases k.fits with q | q
        · rw [ht] at q; exact absurd q (by decide +kernel)
        · rw [decide_eq_true ht] at q; simpa using q
      rw [this] at vo
      cases v with
      | none => rfl
      | some _ => cases vo
    subst vn
    have dd : dstep (i : Int) e ds = ds ++ [(e.2, (i : Int), none, sOpen)] := by unfold dstep; rw [ov.noop rfl, if_pos ht]
    refine ok_eq (sto_nn e0 (by omega)) (ok_eq (appG_ok (by omega)) (ok_some (ok_some ⟨?_, ?_, ?_, ?_⟩)))
    · dsimp only; rw [dn, dd]; rfl
    · simp; omega
    · simp [h3]
    · have := oth (os.set e.2.toNat (some (ds.length : Int))) (some (ds.length : Int)) rfl ?_ (by rw [decide_eq_true ht]; rfl)
      · rw [dd] at this; exact this
      · rw [dd]
        refine ⟨fun k hk => ?_, fun j d hj hd hw => ?_⟩
        · cases hk
          exact ⟨by omega, (i : Int), by simp⟩
        · by_cases q : j < ds.length
          · rw [List.getElem?_append_left q] at hj
            have := ov.one j d hj hd hw
            cases this
          · have := (List.getElem?_eq_some_iff.mp hj).1
            simp at this
            rw [show j = ds.length by omega]
  · have ht : ¬ e.1 = sTake := fun z => ht (decide_eq_true z)
    have dd : dstep (i : Int) e ds = ds.map (close (i : Int) e) := by unfold dstep; rw [if_neg ht, List.append_nil]
    refine ok_join (ok_eq (ixG_int e0 hv) (ok_if (fun hs => ?_) fun hs => ?_))
    · cases v with
      | none => exact absurd rfl hs
      | some u =>
        obtain ⟨u0, b, hb⟩ := ov.is_ u rfl
        have ul := (List.getElem?_eq_some_iff.mp hb).1
        refine ok_eq (ixG_int e0 hv) (ok_eq rfl (ok_eq (ixG_int u0 hb) (ok_eq rfl (ok_eq (sto_nn u0 (by omega)) (ok_eq (sto_nn e0 (by omega)) (ok_some (ok_some (ok_some ⟨?_, ?_, ?_, ?_⟩))))))))
        · dsimp only
          rw [dn, dd]
          refine List.ext_getElem? fun j => ?_
          rw [List.getElem?_set, List.getElem?_map]
          by_cases c : u.toNat = j
          · subst c
            rw [if_pos rfl, if_pos ul, hb, Option.map_some]
            unfold close
            rw [if_pos ⟨rfl, rfl⟩]
          · rw [if_neg c]
            cases q : ds[j]? with
            | none => rfl
            | some d =>
              rw [Option.map_some]
              congr 1
              unfold close
              rw [if_neg]
              rintro ⟨z1, z2⟩
              have := ov.one j d q z1 z2
              have : u = (j : Int) := Option.some.inj this
              omega
        · simp; omega
        · simp [h3]
        · have := oth (os.set e.2.toNat none) none rfl ?_ (by rw [decide_eq_false ht]; rfl)
          · have es : ds.set u.toNat (e.2, b, some (i : Int), e.1) = dstep (i : Int) e ds := by
              rw [dd]
              refine List.ext_getElem? fun j => ?_
              rw [List.getElem?_set, List.getElem?_map]
              by_cases c : u.toNat = j
              · subst c
                rw [if_pos rfl, if_pos ul, hb, Option.map_some]
                unfold close
                rw [if_pos ⟨rfl, rfl⟩]
              · rw [if_neg c]
                cases q : ds[j]? with
                | none => rfl
                | some d =>
                  rw [Option.map_some]
                  congr 1
                  unfold close
                  rw [if_neg]
                  rintro ⟨z1, z2⟩
                  have := ov.one j d q z1 z2
                  have : u = (j : Int) := Option.some.inj this
                  omega
            dsimp only
            rw [es]; exact this
          · rw [dd]
            refine ⟨fun _ z => (nomatch z), fun j d hj hd hw => ?_⟩
            rw [List.getElem?_map] at hj
            obtain ⟨d0, q, rfl⟩ := Option.map_eq_some_iff.mp hj
            unfold close at hd hw
            split at hw
            · exact absurd hw (word_ne k)
            · rename_i hc
              rw [if_neg hc] at hd
              exact absurd ⟨hd, hw⟩ hc
    · have vn : v = none := by cases v with | none => rfl | some _ => exact absurd (by simp) hs
      subst vn
      have dd2 : dstep (i : Int) e ds = ds := by rw [dd, ov.noop rfl]
      refine ok_some (ok_some (ok_some ⟨by dsimp only; rw [dn, dd2], by dsimp only; omega, h3, ?_⟩))
      have := oth os none (by
        refine List.ext_getElem? fun j => ?_
        rw [List.getElem?_set]
        by_cases c : e.2.toNat = j
        · subst c; rw [if_pos rfl, if_pos (by omega), hv]
        · rw [if_neg c]) (by rw [dd2]; exact ov) (by rw [decide_eq_false ht]; rfl)
      rw [dd2] at this
      exact this
end LW

end
section
set_option maxRecDepth 10000
set_option exponentiation.threshold 9000
namespace LW
open PySem PySem.Spec PyProof.Rows L2 Mv
def evH (l : List Ev) (k : Int) : Int := ((l[k.toNat]?).map (·.2)).getD 0
def evW (l : List Ev) (k : Int) : Str := ((l[k.toNat]?).map (·.1)).getD sOpen
def nextK (l : List Ev) (s h : Int) : Option Int := ((rngI (s + 1) l.length).filter fun k => decide (evH l k = h)).head?
def lawOf (l : List Ev) (p : Int × Ev) : List Dd := if p.2.1 = sTake then [(p.2.2, p.1, nextK l p.1 p.2.2, match nextK l p.1 p.2.2 with | none => sOpen | some k => evW l k)] else []
def LD (l : List Ev) : List Dd := (enumI 0 l).flatMap (lawOf l)
theorem take1 {l : List Int} : l.take 1 = match l.head? with | none => [] | some k => [k] := by cases l <;> rfl
theorem t_ldeeds {l : List Ev} (hl : l.length ≤ 800) : p__law_deeds l = some (LD l) := by
  refine ok_get ?_
  unfold p__law_deeds
  refine ok_call (forP_ok (fun i (st : List Dd) => st = ((enumI 0 l).take i).flatMap (lawOf l) ∧ st.length ≤ i) ⟨rfl, by simp⟩ fun i p st hp ⟨hs, hn⟩ => ?_) fun st ⟨h, _⟩ => ok_some (by rw [h, List.take_length]; rfl)
  obtain ⟨hx, hi⟩ := enumI_get l 0 i p hp
  have hil := (List.getElem?_eq_some_iff.mp hx).1
  obtain ⟨n, e⟩ := p
  dsimp only at hx hi ⊢
  rw [take_snoc hp, List.flatMap_append, ← hs]
  simp only [List.flatMap_cons, List.flatMap_nil, List.append_nil]
  refine ok_join (ok_eq (deq_str _ _) (ok_if (fun ht => ?_) fun ht => ?_))
  · have ht : e.1 = sTake := of_decide_eq_true ht
    refine ok_eq rngG_any ?_
    rw [lcG_filter (p := fun k => decide (evH l k = e.2)) (g := fun k => k) (fun k hk => by
      obtain ⟨k0, k1⟩ := mem_rngI.mp hk
      have q : l[k.toNat]? = some (l[k.toNat]'(by omega)) := List.getElem?_eq_getElem (by omega)
      rw [ixG_int (by omega) q]
      have : evH l k = (l[k.toNat]'(by omega)).2 := by unfold evH; rw [q]; rfl
      rw [this]
      by_cases c : (l[k.toNat]'(by omega)).2 = e.2 <;> simp [c]) (by rw [rngI_len]; omega)]
    rw [List.map_id']
    refine ok_eq rfl ?_
    obtain ⟨r, er, _, _, hr⟩ := sli_ok (l := (rngI (n + 1) l.length).filter fun k => decide (evH l k = e.2)) (n := 1) (by decide) (by decide)
    refine ok_eq er ?_
    have hr : r = match nextK l n e.2 with | none => [] | some k => [k] := by rw [hr]; exact take1
    subst hr
    unfold lawOf
    rw [if_pos ht]
    cases q : nextK l n e.2 with
    | none =>
      refine ok_join (ok_eq (deq_nil []) (ok_ift rfl (ok_eq (appG_ok (by omega)) (ok_some (ok_some (ok_some ⟨?_, ?_⟩))))))
      · rfl
      · simp; omega
    | some k =>
      have hk := List.mem_filter.mp (List.mem_of_head? q)
      obtain ⟨k0, k1⟩ := mem_rngI.mp hk.1
      have qk : l[k.toNat]? = some (l[k.toNat]'(by omega)) := List.getElem?_eq_getElem (by omega)
      refine ok_join (ok_eq (deq_nil [k]) (ok_iff (by simp) (ok_eq (show ixG [k] 0 = some k from rfl) (ok_eq (show ixG [k] 0 = some k from rfl) (ok_eq (ixG_int (by omega) qk) (ok_eq (appG_ok (by omega)) (ok_some (ok_some (ok_some ⟨?_, ?_⟩)))))))))
      · dsimp only
        have : evW l k = (l[k.toNat]'(by omega)).1 := by unfold evW; rw [qk]; rfl
        rw [this]
      · simp; omega
  · have ht : ¬ e.1 = sTake := fun z => ht (decide_eq_true z)
    refine ok_some (ok_some ⟨?_, by omega⟩)
    unfold lawOf
    rw [if_neg ht, List.append_nil]
theorem rngI_succ {a b : Int} (h : a ≤ b) : rngI a (b + 1) = rngI a b ++ [b] := by
  unfold rngI
  rw [show (b + 1 - a).toNat = (b - a).toNat + 1 by omega, List.range_succ, List.map_append]
  simp; omega
theorem nextK_snoc (l : List Ev) (e : Ev) {s : Int} (h : Int) (s0 : 0 ≤ s) (s1 : s < l.length) : nextK (l ++ [e]) s h = match nextK l s h with | some k => some k | none => if e.2 = h then some (l.length : Int) else none := by
  unfold nextK
  rw [show (((l ++ [e]).length : Nat) : Int) = (l.length : Int) + 1 by simp, rngI_succ (by omega), List.filter_append]
  have c1 : (rngI (s + 1) l.length).filter (fun k => decide (evH (l ++ [e]) k = h)) = (rngI (s + 1) l.length).filter fun k => decide (evH l k = h) := by
    refine List.filter_congr fun k hk => ?_
    obtain ⟨k0, k1⟩ := mem_rngI.mp hk
    unfold evH
    rw [List.getElem?_append_left (by omega)]
  have c2 : evH (l ++ [e]) (l.length : Int) = e.2 := by unfold evH; simp
  rw [c1]
  cases q : (rngI (s + 1) l.length).filter fun k => decide (evH l k = h) with
  | nil =>
    by_cases c : e.2 = h <;> simp [c2, c]
  | cons k r => simp
theorem nextK_self (l : List Ev) (h : Int) : nextK l ((l.length : Int) - 1) h = none := by
  unfold nextK
  rw [show (l.length : Int) - 1 + 1 = l.length by omega]
  unfold rngI
  simp
theorem fm_congr {α β : Type} {f g : α → List β} : ∀ {l : List α}, (∀ x ∈ l, f x = g x) → l.flatMap f = l.flatMap g
  | [], _ => rfl
  | x :: l, h => by rw [List.flatMap_cons, List.flatMap_cons, h x (by simp), fm_congr fun y hy => h y (by simp [hy])]
theorem LD_snoc {l : List Ev} (hw : ∀ e ∈ l, e.1 ≠ sOpen) (e : Ev) : LD (l ++ [e]) = dstep (l.length : Int) e (LD l) := by
  unfold LD dstep
  rw [enumI_snoc, List.flatMap_append, List.map_flatMap]
  congr 1
  · refine fm_congr fun p hp => ?_
    obtain ⟨i, hi⟩ := List.getElem?_of_mem hp
    obtain ⟨hx, hn⟩ := enumI_get l 0 i p hi
    have hil := (List.getElem?_eq_some_iff.mp hx).1
    unfold lawOf
    by_cases ht : p.2.1 = sTake
    · rw [if_pos ht, if_pos ht, nextK_snoc l e p.2.2 (by omega) (by omega)]
      cases q : nextK l p.1 p.2.2 with
      | some k =>
        have hk := List.mem_filter.mp (List.mem_of_head? q)
        obtain ⟨k0, k1⟩ := mem_rngI.mp hk.1
        have qk : l[k.toNat]? = some (l[k.toNat]'(by omega)) := List.getElem?_eq_getElem (by omega)
        have w1 : evW l k = (l[k.toNat]'(by omega)).1 := by unfold evW; rw [qk]; rfl
        have w2 : evW (l ++ [e]) k = evW l k := by unfold evW; rw [List.getElem?_append_left (by omega)]
        have w3 := hw _ (List.getElem_mem (show k.toNat < l.length by omega))
        simp only [List.map_cons, List.map_nil, close, w2, w1]
        rw [if_neg (fun z => w3 z.2)]
      | none =>
        simp only [List.map_cons, List.map_nil, close]
        by_cases c : e.2 = p.2.2
        · have w : evW (l ++ [e]) (l.length : Int) = e.1 := by unfold evW; simp
          simp [c, w]
        · rw [if_neg c, if_neg (fun z => c z.1.symm)]
    · rw [if_neg ht, if_neg ht]; rfl
  · simp only [List.flatMap_cons, List.flatMap_nil, List.append_nil, Nat.zero_add]
    unfold lawOf
    dsimp only
    have := nextK_self (l ++ [e]) e.2
    rw [show (((l ++ [e]).length : Nat) : Int) - 1 = l.length by simp] at this
    rw [this]
theorem Wv.words {f : Int} {l : List Ev} (h : Wv f l) : ∀ e ∈ l, e.1 ≠ sOpen := by
  induction h with
  | nil => intro e h; simp at h
  | snoc h k ih =>
    intro e he
    rcases List.mem_append.mp he with he | he
    · exact ih e he
    · simp only [List.mem_singleton] at he; subst he; exact word_ne k
theorem LD_eq {f : Int} {l : List Ev} (h : Wv f l) : LD l = deeds l := by
  induction h with
  | nil => rfl
  | snoc h k ih => rw [LD_snoc h.words, deeds_snoc, ih]
def wh (ds : List Dd) : List (Int × Str) := ds.map fun d => (d.1, d.2.2.2)
def wstep (e : Ev) (ws : List (Int × Str)) : List (Int × Str) := ws.map (fun w => if w.1 = e.2 ∧ w.2 = sOpen then (w.1, e.1) else w) ++ if e.1 = sTake then [(e.2, sOpen)] else []
theorem wh_step (i : Int) (e : Ev) (ds : List Dd) : wh (dstep i e ds) = wstep e (wh ds) := by
  unfold wh dstep wstep
  rw [List.map_append, List.map_map, List.map_map]
  congr 1
  · refine List.map_congr_left fun d _ => ?_
    simp only [Function.comp, close]
    split <;> rfl
  · split <;> rfl
theorem wh_filter (l : List Ev) (k : Int) : (wh (deeds l)).filter (fun w => !decide (w.1 = k)) = wh (deeds (l.filter fun e => !decide (e.2 = k))) := by
  have sn : ∀ n (l : List Ev), l.length = n → (wh (deeds l)).filter (fun w => !decide (w.1 = k)) = wh (deeds (l.filter fun e => !decide (e.2 = k))) := by
    intro n
    induction n with
    | zero => intro l hl; rw [List.length_eq_zero_iff.mp hl]; rfl
    | succ n ih =>
      intro l hl
      rcases snoc_cases l with rfl | ⟨a, e, rfl⟩
      · simp at hl
      · have ih := ih a (by simpa using hl)
        rw [deeds_snoc, wh_step, List.filter_append]
        have st : ∀ ws : List (Int × Str), (wstep e ws).filter (fun w => !decide (w.1 = k)) = if e.2 = k then ws.filter (fun w => !decide (w.1 = k)) else wstep e (ws.filter fun w => !decide (w.1 = k)) := by
          intro ws
          unfold wstep
          rw [List.filter_append, List.filter_map]
          have c1 : ((fun w : Int × Str => !decide (w.1 = k)) ∘ fun w => if w.1 = e.2 ∧ w.2 = sOpen then (w.1, e.1) else w) = fun w => !decide (w.1 = k) := by
            funext w
            simp only [Function.comp]
            split <;> rfl
          rw [c1]
          by_cases c : e.2 = k
          · rw [if_pos c]
            have : (if e.1 = sTake then [(e.2, sOpen)] else []).filter (fun w : Int × Str => !decide (w.1 = k)) = [] := by split <;> simp [c]
            rw [this, List.append_nil]
            refine (List.map_congr_left fun w hw => ?_).trans (List.map_id _)
            have := (List.mem_filter.mp hw).2
            rw [if_neg (fun z => by simp at this; omega)]; rfl
          · rw [if_neg c]
            congr 1
            split <;> simp [c]
        rw [st, ih]
        by_cases c : e.2 = k
        · rw [if_pos c, show [e].filter (fun e => !decide (e.2 = k)) = [] by simp [c], List.append_nil]
        · rw [if_neg c, show [e].filter (fun e => !decide (e.2 = k)) = [e] by simp [c], deeds_snoc, wh_step]
  exact sn _ l rfl
/-- bounds of deeds -/
structure DdOk (d : Dd) : Prop where
  a : 0 ≤ d.1 ∧ d.1 < 10 ^ 4
  b : 0 ≤ d.2.1 ∧ d.2.1 < 10 ^ 4
  c : ∀ k, d.2.2.1 = some k → 0 ≤ k ∧ k < 10 ^ 4
  w : d.2.2.2 = sTake ∨ d.2.2.2 = sEnd ∨ d.2.2.2 = sFail ∨ d.2.2.2 = sFall ∨ d.2.2.2 = sOpen
theorem deeds_ok {f : Int} {l : List Ev} (f2 : f ≤ 20) (h : Wv f l) (hl : l.length ≤ 800) : (∀ d ∈ deeds l, DdOk d) ∧ (deeds l).length ≤ l.length := by
  induction h with
  | nil => exact ⟨by intro d h; simp [deeds, enumI] at h, by simp [deeds, enumI]⟩
  | snoc h k ih =>
    rename_i l e
    have ll : (l ++ [e]).length = l.length + 1 := by simp
    obtain ⟨i1, i2⟩ := ih (by omega)
    have lo := k.lo
    have hi := k.hi
    rw [deeds_snoc]
    refine ⟨fun d hd => ?_, ?_⟩
    · unfold dstep at hd
      rcases List.mem_append.mp hd with hd | hd
      · obtain ⟨d0, h0, rfl⟩ := List.mem_map.mp hd
        have q := i1 d0 h0
        unfold close
        split
        · exact ⟨q.a, q.b, fun k' hk => by cases hk; omega, by
            rcases k.word with z | z | z | z
            · exact .inl z
            · exact .inr (.inl z)
            · exact .inr (.inr (.inl z))
            · exact .inr (.inr (.inr (.inl z)))⟩
        · exact q
      · split at hd
        · simp only [List.mem_singleton] at hd
          subst hd
          exact ⟨by dsimp only; omega, by dsimp only; omega, fun k' hk => (nomatch hk), .inr (.inr (.inr (.inr rfl)))⟩
        · simp at hd
    · unfold dstep
      rw [List.length_append, List.length_map, ll]
      split <;> simp <;> omega
theorem ROw {n : Nat} {x : Str} (h : x = sTake ∨ x = sEnd ∨ x = sFail ∨ x = sFall ∨ x = sOpen) : RO 8 n (.str x) := by
  rcases h with rfl | rfl | rfl | rfl | rfl <;> exact ⟨by cases n <;> (simp only [D.shp]; decide +kernel), by decide +kernel, by decide +kernel⟩
theorem ROi {n : Nat} {i : Int} (h0 : 0 ≤ i) (h : i < 10 ^ 4) : RO 8 n (.int i) := (RO.int (k := 4) (by decide) (by decide) (by omega)).mono (by decide)
theorem RO_dd {n : Nat} {ds : List Dd} (h : ∀ d ∈ ds, DdOk d) (hl : ds.length ≤ 800) : RO 40000 (n + 2) (.list (ds.map fun p : (Int × Int × Option Int × Str) => D.tup [(D.int p.1), (D.int p.2.1), (eO p.2.2.1), (D.str p.2.2.2)])) := by
  refine (RO.map (m := 43) (n := n + 1) fun d hd => ?_).mono (by omega)
  have q := h d hd
  refine (RO.tup (m := 8) (n := n) fun x hx => ?_).mono (by simp)
  simp only [List.mem_cons, List.not_mem_nil, or_false] at hx
  rcases hx with rfl | rfl | rfl | rfl
  · exact ROi q.a.1 q.a.2
  · exact ROi q.b.1 q.b.2
  · cases c : d.2.2.1 with
    | none => exact RO.none.mono (by decide)
    | some k => exact ROi (q.c k c).1 (q.c k c).2
  · exact ROw q.w
theorem RO_ev {n : Nat} {f : Int} {l : List Ev} (f2 : f ≤ 20) (h : Wv f l) (hl : l.length ≤ 800) : RO 40000 (n + 2) (.list (l.map fun p : (Str × Int) => D.tup [(D.str p.1), (D.int p.2)])) := by
  refine (RO.map (m := 23) (n := n + 1) fun e he => ?_).mono (by omega)
  obtain ⟨i, hi⟩ := List.getElem?_of_mem he
  have k := (h.at_ hi).2
  have lo := k.lo
  have hi := k.hi
  refine (RO.tup (m := 8) (n := n) fun x hx => ?_).mono (by simp)
  simp only [List.mem_cons, List.not_mem_nil, or_false] at hx
  rcases hx with rfl | rfl
  · exact ROw (by
      rcases k.word with z | z | z | z
      · exact .inl z
      · exact .inr (.inl z)
      · exact .inr (.inr (.inl z))
      · exact .inr (.inr (.inr (.inl z))))
  · exact ROi lo (by omega)
theorem RO2 {m n : Nat} {a b : D} (h1 : RO m n a) (h2 : RO m n b) : RO (2 + 2 * (m + 2)) (n + 1) (.list [a, b]) := by
  refine (RO.list (m := m) (n := n) (ds := [a, b]) fun d hd => ?_).mono (by simp)
  simp only [List.mem_cons, List.not_mem_nil, or_false] at hd
  rcases hd with rfl | rfl
  · exact h1
  · exact h2
theorem t_without {f k : Int} {l : List Ev} (f1 : 1 ≤ f) (f2 : f ≤ 20) (h : Wv f l) (hl : l.length ≤ 800) (k0 : 0 ≤ k) (k1 : k < f) : p_without_house f l k = some (l.filter fun e => !decide (e.2 = k)) := by
  refine ok_get ?_
  unfold p_without_house
  refine ok_eq (t_houses f1 f2) (ok_eq (t_needw f1 f2 h hl) (ok_eq (show p_need_number k 0 (f - 1) = some () from ?_) ?_))
  · unfold p_need_number
    rw [t_int, decide_eq_true k0, decide_eq_true (show k ≤ f - 1 by omega)]
    rfl
  · rw [lcG_filter (p := fun e => !decide (e.2 = k)) (g := fun e => e) (fun e _ => by by_cases c : e.2 = k <;> simp [c]) (by omega), List.map_id']
    exact ok_eq rfl (ok_some rfl)
theorem t_right {c0 f : Int} {s : List Int} {l : List Ev} (hs : Sr c0 s) (hc : c0 ≤ 1000000) (f1 : 1 ≤ f) (f2 : f ≤ 20) (h : Wv f l) (hl : l.length ≤ 800) : OK (p__law_right s f l) fun r => r.1 = true := by
  have q : ∀ x : Str, deqG (.str x) (.str x) = some true := fun x => by rw [deqG_str]; simp
  obtain ⟨dk, dl⟩ := deeds_ok f2 h hl
  have td := t_deeds f1 f2 h hl
  have re : RO 40000 60 _ := RO_ev (n := 58) f2 h hl
  have rd : RO 40000 59 _ := RO_dd (n := 57) dk (by omega)
  have rd' : RO 40000 60 _ := RO_dd (n := 58) dk (by omega)
  unfold p__law_right
  refine ok_eq (re.ok (by decide)) (ok_eq (t_ldeeds hl) ?_)
  rw [LD_eq h]
  refine ok_eq td (ok_eq td (ok_eq ((RO2 rd rd).ok (by decide)) (ok_eq ((RO2 rd rd).ok (by decide)) (ok_eq (q _) (ok_iff (fun z => z rfl) ?_)))))
  refine ok_eq (appG_ok (by rw [List.length_map]; dsimp only; omega)) (ok_eq td (ok_eq (deqG_self rd'.shp) (ok_iff (fun z => z rfl) ?_)))
  refine ok_call (t_draw hs (by omega) (okI_nat (b := 20) (by omega) (by omega) (by decide +kernel)) (by omega)) fun r11 ⟨k0, k1, _⟩ => ?_
  rw [lcG_filter (p := fun e => !decide (e.2 = r11.1)) (g := fun e => e) (fun e _ => by by_cases c : e.2 = r11.1 <;> simp [c]) (by omega), List.map_id']
  have wf := (h.filter r11.1).1
  have lf : (l.filter fun e => !decide (e.2 = r11.1)).length ≤ 800 := Nat.le_trans (List.length_filter_le ..) hl
  have tw := t_without f1 f2 h hl k0 k1
  have rr : RO 40000 59 _ := RO_ev (n := 57) f2 wf lf
  have rr' : RO 40000 60 _ := RO_ev (n := 58) f2 wf lf
  refine ok_eq rfl (ok_eq tw (ok_eq tw (ok_eq ((RO2 rr rr).ok (by decide)) (ok_eq ((RO2 rr rr).ok (by decide)) (ok_eq (q _) (ok_iff (fun z => z rfl) (ok_eq (t_isw f1 f2 wf lf) (ok_ift rfl ?_))))))))
  refine ok_eq (re.ok (by decide)) (ok_eq (q _) (ok_iff (fun z => z rfl) ?_))
  refine ok_eq (appG_ok (by rw [List.length_map]; exact Nat.le_trans lf (by decide))) (ok_eq tw (ok_eq (deqG_self rr'.shp) (ok_iff (fun z => z rfl) ?_)))
  refine ok_eq (t_deeds f1 f2 wf lf) ?_
  obtain ⟨dk2, dl2⟩ := deeds_ok f2 wf lf
  rw [lcG_all (g := fun d : Dd => (d.1, d.2.2.2)) (fun _ _ => rfl) (Nat.le_trans dl2 (Nat.le_trans lf (by decide)))]
  refine ok_eq rfl ?_
  rw [lcG_filter (p := fun d : Dd => !decide (d.1 = r11.1)) (g := fun d => (d.1, d.2.2.2)) (fun d _ => by by_cases c : d.1 = r11.1 <;> simp [c]) (by omega)]
  refine ok_eq rfl ?_
  have e : ((deeds l).filter fun d : Dd => !decide (d.1 = r11.1)).map (fun d => (d.1, d.2.2.2)) = (deeds (l.filter fun e => !decide (e.2 = r11.1))).map fun d => (d.1, d.2.2.2) := by
    have := wh_filter l r11.1
    unfold wh at this
    rw [List.filter_map] at this
    exact this
  rw [e]
  have rp : RO 40000 60 (.list (((deeds (l.filter fun e => !decide (e.2 = r11.1))).map fun d : Dd => (d.1, d.2.2.2)).map fun p : (Int × Str) => D.tup [(D.int p.1), (D.str p.2)])) := by
    refine (RO.map (m := 23) (n := 59) fun d hd => ?_).mono (by rw [List.length_map]; omega)
    obtain ⟨d0, h0, rfl⟩ := List.mem_map.mp hd
    have q := dk2 d0 h0
    refine (RO.tup (m := 8) (n := 58) fun x hx => ?_).mono (by simp)
    simp only [List.mem_cons, List.not_mem_nil, or_false] at hx
    rcases hx with rfl | rfl
    · exact ROi q.a.1 q.a.2
    · exact ROw q.w
  exact ok_eq (deqG_self rp.shp) (ok_some rfl)
theorem t_law {script : List Int} (hl : script.length ≤ 63) : p_law script = some true := by
  refine ok_get ?_
  unfold p_law
  obtain ⟨x2, e2, hx2⟩ := head_ok (m := 12) hl (by decide) (by decide)
  refine ok_eq (catG_ok (by simp; omega)) (ok_eq e2 ?_)
  obtain ⟨b, eb⟩ := deq_ex (a := D.list (script.map D.int)) (b := D.list (([] : List Int).map D.int)) shp_ints shp_ints
  refine ok_call (forR_all (fun _ _ => True) trivial fun i p st hp _ => ?_) ?_
  · obtain ⟨hx, hj⟩ := enumI_get x2 0 i p hp
    have hi := (List.getElem?_eq_some_iff.mp hx).1
    refine ok_call (t_source (by omega) (by omega)) fun src h0 => ?_
    refine ok_call (t_draw h0 (by decide) (by decide +kernel) (by omega)) fun r11 ⟨a0, a1, h1⟩ => ?_
    refine ok_call (t_draw h1 (by decide) (by decide +kernel) (by omega)) fun r12 ⟨c0, c1, h2⟩ => ?_
    have : ∃ x, ixG [(1 : Int), 2, 1 + r11.1, 20] r12.1 = some x ∧ 1 ≤ x ∧ x ≤ 20 := by
      obtain ⟨i, hi⟩ := Int.eq_ofNat_of_zero_le c0
      rw [hi] at c1 ⊢
      match i, c1 with
      | 0, _ => exact ⟨_, rfl, by omega, by omega⟩
      | 1, _ => exact ⟨_, rfl, by omega, by omega⟩
      | 2, _ => exact ⟨_, rfl, by omega, by omega⟩
      | 3, _ => exact ⟨_, rfl, by omega, by omega⟩
      | n + 4, z => omega
    obtain ⟨f, ef, f1, f2⟩ := this
    refine ok_eq ef ?_
    have hd : OK ((ixG [(6 : Int), 61] (if (!b) = true then 1 else 0)).bind fun x => (p__law_draw r12.2 x).bind fun r => some (r.1, r.2)) fun z => (0 ≤ z.1 ∧ z.1 ≤ 800) ∧ Sr 6 z.2 := by
      have : ∃ x, ixG [(6 : Int), 61] (if (!b) = true then 1 else 0) = some x ∧ 0 < x ∧ x ≤ 200 := by cases b <;> exact ⟨_, rfl, by decide, by decide⟩
      obtain ⟨x, e, x0, x1⟩ := this
      refine ok_eq e (ok_call (t_draw h2 x0 (okI_nat (b := 200) (by omega) (by omega) (by decide +kernel)) (by omega)) fun r ⟨a0, a1, h1⟩ => ok_some ⟨⟨a0, by dsimp only; omega⟩, h1.mono (by omega)⟩)
    refine ok_call (P := fun z => (0 ≤ z.1 ∧ z.1 ≤ 800) ∧ Sr 6 z.2) (ok_if (fun _ => ok_eq eb (ok_if (fun _ => ok_some ⟨⟨show (0 : Int) ≤ 800 by decide, show (800 : Int) ≤ 800 by decide⟩, h2.mono (by omega)⟩) fun _ => ok_eq eb hd)) fun _ => ok_eq eb hd) fun z ⟨⟨z0, z1⟩, h4⟩ => ?_
    refine ok_call (t_acts h4 (by omega) f1 f2 z0 z1) fun r22 ⟨w, l1, h5⟩ => ?_
    exact ok_call (t_right h5 (by omega) f1 f2 w (by omega)) fun r23 hr => ok_ift hr (ok_some ⟨_, rfl, trivial⟩)
  · rintro _ ⟨s', rfl, _⟩
    dsimp only
    exact ok_of (x := true) (by decide +kernel) rfl
theorem law_true (ns : List Int) (hl : ns.length ≤ 63) (_ : ∀ z ∈ ns, Builtin.Int.intBits z ≤ 1048576) : F_law.run [.fz (.list (ns.map D.int))] = some (.fz (.bool true), []) := m_law (t_law hl)
end LW

end
open PySem PySem.W PyProof.Rows
set_option maxRecDepth 100000 in
set_option maxHeartbeats 0 in
theorem PySem.Challenge.cw_holesleft_k03_deeds_and_weavings_without_holds : PySem.Challenge.rw_holesleft_k03_deeds_and_weavings_without.Holds := by
  w_on; o_law; k_head; (case hw => w_witness2)
  k_fill
  refine Mv.walkG (l := PySem.Challenge.rw_holesleft_k03_deeds_and_weavings_without) (n := 63) (lv := 7) (x := "script") (f := LW.F_law) rfl (by decide) rfl ⟨rfl, by decide, by decide⟩ (fun w h Y => PySem.W.kIn_of Y) ?F rfl LW.law_true
  case F =>
    intro w mg fa h KX G hmg
    refine' LW.all_mk KX G hmg ?a0 ?l0 ?c0 ?k0 ?a1 ?l1 ?c1 ?k1 ?a2 ?l2 ?c2 ?k2 ?a3 ?l3 ?c3 ?k3 ?a4 ?l4 ?c4 ?k4 ?a5 ?l5 ?c5 ?k5 ?a6 ?l6 ?c6 ?k6 ?a7 ?l7 ?c7 ?k7 ?a8 ?l8 ?c8 ?k8 ?a9 ?l9 ?c9 ?k9 ?a10 ?l10 ?c10 ?k10 ?a11 ?l11 ?c11 ?k11 ?a12 ?l12 ?c12 ?k12 ?a13 ?l13 ?c13 ?k13 ?a14 ?l14 ?c14 ?k14 ?z0 ?z1 ?z2 ?z3 ?z4 ?z5 ?z6 ?z7 ?z8 ?z9 ?z10 ?z11 ?z12 ?v0 ?v1 ?u1 ?v2 ?v3 ?v4
    (case a0 => k_is)
    (case l0 => k_is)
    (case c0 => k_is)
    (case k0 => k_is)
    (case a1 => k_is)
    (case l1 => k_is)
    (case c1 => k_is)
    (case k1 => k_is)
    (case a2 => k_is)
    (case l2 => k_is)
    (case c2 => k_is)
    (case k2 => k_is)
    (case a3 => k_is)
    (case l3 => k_is)
    (case c3 => k_is)
    (case k3 => k_is)
    (case a4 => k_is)
    (case l4 => k_is)
    (case c4 => k_is)
    (case k4 => k_is)
    (case a5 => k_is)
    (case l5 => k_is)
    (case c5 => k_is)
    (case k5 => k_is)
    (case a6 => k_is)
    (case l6 => k_is)
    (case c6 => k_is)
    (case k6 => k_is)
    (case a7 => k_is)
    (case l7 => k_is)
    (case c7 => k_is)
    (case k7 => k_is)
    (case a8 => k_is)
    (case l8 => k_is)
    (case c8 => k_is)
    (case k8 => k_is)
    (case a9 => k_is)
    (case l9 => k_is)
    (case c9 => k_is)
    (case k9 => k_is)
    (case a10 => k_is)
    (case l10 => k_is)
    (case c10 => k_is)
    (case k10 => k_is)
    (case a11 => k_is)
    (case l11 => k_is)
    (case c11 => k_is)
    (case k11 => k_is)
    (case a12 => k_is)
    (case l12 => k_is)
    (case c12 => k_is)
    (case k12 => k_is)
    (case a13 => k_is)
    (case l13 => k_is)
    (case c13 => k_is)
    (case k13 => k_is)
    (case a14 => k_is)
    (case l14 => k_is)
    (case c14 => k_is)
    (case k14 => k_is)
    (case z0 => k_is)
    (case z1 => k_is)
    (case z2 => k_is)
    (case z3 => k_is)
    (case z4 => k_is)
    (case z5 => k_is)
    (case z6 => k_is)
    (case z7 => k_is)
    (case z8 => k_is)
    (case z9 => k_is)
    (case z10 => k_is)
    (case z11 => k_is)
    (case z12 => k_is)
    (case v0 => k_is)
    (case v1 => k_is)
    (case u1 => k_is)
    (case v2 => k_is)
    (case v3 => k_is)
    (case v4 => k_is)
