import PyProof.Rows.All
import Wide.All
import OpenK.AllK
import Wide.FinOn
import HandS.ForMost
import PyProof.ReprReads
import KE.SortData
import KE.DataMinMax
import KE.DataEq
import KE.DataCmp
import HandS.EndBits
import HandS.WideBits
import HandS.Conv
import HandS.Deep
import HandS.SortInts
import HandS.TupAny
import HandS.TupMul
import HandS.Strs
import HandS.SortKw
import HandS.Zip
import HandS.IsInst
import PyProof.ReprRoads
import HandS.AnyAll
import KE.GoesMore
import HandS.Style
import HandS.Small
import HandS.TryOnly
import HandS.SetFor
import PyProof.FactsAll.list_3
import HandS.SetKeys
import PyProof.SetRoads
import PyProof.Rows.SetFrom
import HandS.SetBool
import PySem.Challenge.RW_holesleft_k21_lots_heard_behind
set_option Elab.async false
set_option linter.all false
section
namespace Mv
open PySem L2
inductive D where
  | none | bool (b : Bool) | int (i : Int) | str (s : Str)
  | list (xs : List D) | tup (xs : List D) | dict (ks : List Key) (xs : List D)
  | ins (fs : List Str) (xs : List D)
    | ltp (xs : List D)
  deriving Inhabited
inductive T where
  | fz (d : D) | lst (ts : List T) | tup (ts : List T) | dct (ks : List Key) (ts : List T)
  deriving Inhabited
mutual
def T.toD : T → D
  | .fz d => d
  | .lst ts => .list (T.toDs ts)
  | .tup ts => .tup (T.toDs ts)
  | .dct ks ts => .dict ks (T.toDs ts)
def T.toDs : List T → List D
  | [] => []
  | t :: ts => T.toD t :: T.toDs ts
end
mutual
def D.toPy : D → PyData
  | .none => .none | .bool b => .bool b | .int i => .int i | .str s => .str s
  | .list xs => .list (D.toPys xs)
  | .tup xs => .tuple (D.toPys xs)
  | .dict _ _ => .dict [] | .ins _ _ => .dict [] | .ltp _ => .dict []
def D.toPys : List D → List PyData
  | [] => []
  | d :: ds => D.toPy d :: D.toPys ds
end
mutual
def D.shp : Nat → D → Bool
  | _, .none => true | _, .bool _ => true | _, .int _ => true | _, .str x => PyData.strOk x
  | 0, .list _ => false | 0, .tup _ => false
  | n + 1, .list xs => D.shps n xs
  | n + 1, .tup xs => D.shps n xs
  | _, .dict _ _ => false | _, .ins _ _ => false | _, .ltp _ => false
def D.shps : Nat → List D → Bool
  | _, [] => true
  | n, d :: ds => D.shp n d && D.shps n ds
end
mutual
def D.shpE : Nat → D → Bool
  | _, .none => true | _, .bool _ => true | _, .int _ => true | _, .str x => PyData.strOk x
  | 0, .list _ => false | 0, .tup _ => false
  | n + 1, .list xs => D.shpsE n xs
  | n + 1, .tup xs => D.shpsE n xs
  | _, .dict [] [] => true
  | _, .dict _ _ => false | _, .ins _ _ => false | _, .ltp _ => false
def D.shpsE : Nat → List D → Bool
  | _, [] => true
  | n, d :: ds => D.shpE n d && D.shpsE n ds
end
def T.unfz : T → Option D
  | .fz d => some d
  | _ => .none
def T.unfzs : List T → Option (List D)
  | [] => some []
  | t :: ts => match T.unfz t, T.unfzs ts with
    | some d, some ds => some (d :: ds)
    | _, _ => .none
def fzs (ds : List D) : List T := ds.map T.fz
def T.fl (ds : List D) : T := .lst (fzs ds)
def T.flat : T → Option (List D)
  | .fz (.list ds) => some ds
  | .lst ts => T.unfzs ts
  | _ => .none
def mkTup (ts : List T) : T := match T.unfzs ts with
  | some ds => .fz (.tup ds)
  | .none => .tup ts
inductive Slot where
  | no | ow (t : T) | io (t : T) | al (i k : Nat) | lk
  deriving Inhabited
abbrev Env := List Slot
inductive Val where
  | t (t : T) | pt (i : Nat) (k : Option Nat)
  deriving Inhabited
def slotT : Option Slot → Option T
  | some (.ow t) => some t
  | some (.io t) => some t
  | _ => .none
def getPt (ρ : Env) (i : Nat) : Option Nat → Option T
  | .none => slotT ρ[i]?
  | some k => match slotT ρ[i]? with
    | some (.lst ts) => ts[k]?
    | _ => .none
def rdName (ρ : Env) (i : Nat) : Option Val := match ρ[i]? with
  | some (.ow t) => some (match t with | .fz d => .t (.fz d) | _ => .pt i .none)
  | some (.io t) => some (match t with | .fz d => .t (.fz d) | _ => .pt i .none)
  | some (.al j k) => match getPt ρ j (some k) with
    | some (.fz d) => some (.t (.fz d))
    | some _ => some (.pt j (some k))
    | .none => .none
  | _ => .none
def resolve (ρ : Env) : Val → Option T
  | .t t => some t
  | .pt i k => getPt ρ i k
def setSlotT (ρ : Env) (i : Nat) (t : T) : Option Env := match ρ[i]? with
  | some (.ow _) => some (ρ.set i (.ow t))
  | some (.io _) => some (ρ.set i (.io t))
  | _ => .none
def setPt (ρ : Env) (i : Nat) (k : Option Nat) (t : T) : Option Env := match k with
  | .none => setSlotT ρ i t
  | some k => match slotT ρ[i]? with
    | some (.lst ts) => if k < ts.length then setSlotT ρ i (.lst (ts.set k t)) else .none
    | _ => .none
def fzVal (ρ : Env) : Val → Option (T × Env)
  | .t t => some (t, ρ)
  | .pt i k => match getPt ρ i k, k, ρ[i]? with
    | some _, .none, some (.io _) => .none
    | some t, k, _ => (setPt ρ i k (.fz t.toD)).map fun ρ' => (.fz t.toD, ρ')
    | .none, _, _ => .none
def fzVals (ρ : Env) : List Val → Option (List T × Env)
  | [] => some ([], ρ)
  | v :: vs => match fzVal ρ v with
    | some (t, ρ1) => match fzVals ρ1 vs with
      | some (ts, ρ2) => some (t :: ts, ρ2)
      | .none => .none
    | .none => .none
def kill (j : Nat) (k : Option Nat) : Slot → Slot
  | .al i l => if i = j ∧ (k = .none ∨ k = some l) then .no else .al i l
  | s => s
def kills (j : Nat) (k : Option Nat) (ρ : Env) : Env := ρ.map (kill j k)
def bindS (ρ : Env) (i : Nat) (v : Val) : Option Env := match ρ[i]? with
  | some (.io _) => .none
  | some .lk => .none
  | .none => .none
  | some _ => match v with
    | .t t => some ((kills i .none ρ).set i (.ow t))
    | .pt j (some k) => if j = i then .none else match getPt ρ j (some k) with
      | some _ => some ((kills i .none ρ).set i (.al j k))
      | .none => .none
    | .pt _ .none => .none
def okI (i : Int) : Bool := decide (i.natAbs < 2 ^ 8192)
def intOp (op : Operator) (i j : Int) : Option Int := match op with
  | .Add => some (i + j)
  | .Sub => some (i - j)
  | .Mult => if okI i && okI j then some (i * j) else .none
  | .FloorDiv => if decide (0 < j) && okI j then some (i / j) else .none
  | .Mod => if decide (0 < j) then some (i % j) else .none
  | .Pow => if decide (0 ≤ j) && decide (j ≤ 1000) && okI i then some (i ^ j.toNat) else .none
  | _ => .none
def okLen (n : Nat) : Bool := decide (n ≤ sizeLine)
def addT (a b : T) : Option T := match a, b with
  | .fz (.int i), .fz (.int j) => some (.fz (.int (i + j)))
  | .fz (.str x), .fz (.str y) => if okLen (x.length + y.length) then some (.fz (.str (x ++ y))) else .none
  | .fz (.tup xs), .fz (.tup ys) => if okLen (xs.length + ys.length) then some (.fz (.tup (xs ++ ys))) else .none
  | a, b => match a.flat, b.flat with
    | some xs, some ys => if okLen (xs.length + ys.length) then some (.fl (xs ++ ys)) else .none
    | _, _ => .none
def mulT (a b : T) : Option T := match a, b with
  | .fz (.int i), .fz (.int j) => if okI i && okI j then some (.fz (.int (i * j))) else .none
  | .lst ts, .fz (.int j) => match T.unfzs ts with
    | some ds => if decide (-(2 ^ 63) ≤ j) && decide (j < 2 ^ 63) && okLen (ds.length * j.toNat) then some (.fl (List.replicate j.toNat ds).flatten) else .none
    | .none => .none
  | .fz (.tup ds), .fz (.int j) => if decide (1 ≤ j) && decide (j ≤ 1000) && decide (1 ≤ ds.length) && decide (ds.length ≤ 1000) then some (.fz (.tup (List.replicate j.toNat ds).flatten)) else .none
  | _, _ => .none
def arT (op : Operator) (a b : T) : Option T := match a, b with
  | .fz (.int i), .fz (.int j) => (intOp op i j).map fun k => .fz (.int k)
  | _, _ => .none
def binT (op : Operator) (a b : T) : Option T := match op with
  | .Add => addT a b
  | .Mult => mulT a b
  | op => arT op a b
def deq (a b : D) : Option Bool := match a, b with
  | .str x, .str y => some (decide (x = y))
  | a, b => if a.shp 60 && b.shp 60 then some (PyData.eqv a.toPy b.toPy) else .none
def isNone : T → Bool
  | .fz .none => true
  | _ => false
def keyOf : D → Option Key
  | .int i => some (.inl i)
  | .str s => some (.inr s)
  | _ => .none
def keyD : Key → D
  | .inl i => .int i
  | .inr s => .str s
def itemsD (ks : List Key) (ds : List D) : List D := (ks.zip ds).map fun p => .ltp [keyD p.1, p.2]
def flatD : D → Bool
  | .none => true | .bool _ => true | .int _ => true | .str _ => true
  | _ => false
def inT (x b : T) : Option Bool := match b with
  | .dct ks _ => match x with
    | .fz d => (keyOf d).map fun k => ks.any fun k' => decide (k' = k)
    | _ => .none
  | .fz (.dict ks _) => match x with
    | .fz d => (keyOf d).map fun k => ks.any fun k' => decide (k' = k)
    | _ => .none
  | .fz (.tup ds) => match x with
    | .fz d => if (flatD d && ds.all flatD) || (d.shp 60 && D.shps 60 ds) then some (ds.any fun z => PyData.eqv z.toPy d.toPy) else .none
    | _ => .none
  | b => match b.flat with
    | some ds => if x.toD.shp 60 && D.shps 60 ds then some (ds.any fun z => PyData.eqv z.toPy x.toD.toPy) else .none
    | .none => .none
def D.isN : D → Bool
  | .none => true
  | _ => false
def ltD (d e : D) : Option Bool := if d.shp 60 && e.shp 60 && PySem.W.alike d.toPy e.toPy && !d.isN then some (PySem.W.dataLt d.toPy e.toPy) else .none
def cmpT (op : CmpOp) (a b : T) : Option Bool := match op with
  | .Eq => deq a.toD b.toD
  | .NotEq => (deq a.toD b.toD).map (!·)
  | .Is => if isNone b then some (isNone a) else match a, b with | .fz (.bool x), .fz (.bool y) => some (decide (x = y)) | .fz .none, .fz (.bool _) => some false | _, _ => .none
  | .IsNot => if isNone b then some (!isNone a) else match a, b with | .fz (.bool x), .fz (.bool y) => some (!decide (x = y)) | .fz .none, .fz (.bool _) => some true | _, _ => .none
  | .In => inT a b
  | .NotIn => (inT a b).map (!·)
  | .Lt => match a, b with | .fz (.int i), .fz (.int j) => some (decide (i < j)) | a, b => ltD a.toD b.toD
  | .LtE => match a, b with | .fz (.int i), .fz (.int j) => some (decide (i ≤ j)) | _, _ => .none
  | .Gt => match a, b with | .fz (.int i), .fz (.int j) => some (decide (j < i)) | _, _ => .none
  | .GtE => match a, b with | .fz (.int i), .fz (.int j) => some (decide (j ≤ i)) | _, _ => .none
def place (i : Int) (n : Nat) : Option Nat := ixN n i
def findK (k : Key) : List Key → List α → Option α
  | k' :: ks, x :: xs => if k' = k then some x else findK k ks xs
  | _, _ => .none
def placeK (k : Key) : List Key → Nat → Option Nat
  | [], _ => .none
  | k' :: ks, n => if k' = k then some n else placeK k ks (n + 1)
def dictOf : T → Option (List Key × List T)
  | .dct ks ts => some (ks, ts)
  | .fz (.dict ks ds) => some (ks, fzs ds)
  | _ => .none
def dGet (ks : List Key) (ts : List T) : T → Option D
  | .fz d => match keyOf d with
    | some k => match findK k ks ts with
      | some t => T.unfz t
      | .none => .none
    | .none => .none
  | _ => .none
def getIx (a : T) (i : T) : Option (T × Option Nat) := match a, i with
  | .fz (.list ds), .fz (.int i) => match place i ds.length with
    | some k => (ds[k]?).map fun d => (.fz d, .none)
    | .none => .none
  | .fz (.tup ds), .fz (.int i) => match place i ds.length with
    | some k => (ds[k]?).map fun d => (.fz d, .none)
    | .none => .none
  | .lst ts, .fz (.int i) => match place i ts.length with
    | some k => (ts[k]?).map fun t => (t, some k)
    | .none => .none
  | .tup ts, .fz (.int i) => match place i ts.length with
    | some k => (ts[k]?).map fun t => (t, .none)
    | .none => .none
  | _, _ => .none
def ixVal (ρ : Env) (a : Val) (i : T) : Option Val := match a with
  | .t t => (getIx t i).map fun p => .t p.1
  | .pt j l => match getPt ρ j l with
    | some t => match getIx t i with
      | some (.fz d, _) => some (.t (.fz d))
      | some (_, some k) => if l = .none then some (.pt j (some k)) else .none
      | _ => .none
    | .none => .none
def setIx (a : T) (i : T) (t : T) : Option T := match a, i with
  | .lst ts, .fz (.int i) => match place i ts.length with
    | some k => some (.lst (ts.set k t))
    | .none => .none
  | .dct ks ts, .fz d => match keyOf d, T.unfz t with
    | some k, some d => match placeK k ks 0 with
      | some n => if decide (ks.length < sizeLine) then some (.dct ks (ts.set n (.fz d))) else .none
      | .none => if decide (ks.length < sizeLine) then some (.dct (ks ++ [k]) (ts ++ [.fz d])) else .none
    | _, _ => .none
  | _, _ => .none
def ixPlace (a : T) (i : T) : Option Nat := match a, i with
  | .lst ts, .fz (.int i) => place i ts.length
  | _, _ => .none
def kIx (ρ : Env) (j : Nat) (k : Option Nat) (x i : T) : Env := match k with | .none => kills j (ixPlace x i) ρ | some _ => ρ
def appT (a : T) (t : T) : Option T := match a with
  | .lst ts => if decide (ts.length < sizeLine) then some (.lst (ts ++ [t])) else .none
  | _ => .none
def truT : T → Option Bool
  | .fz (.bool b) => some b
  | .fz .none => some false
  | .fz (.int i) => some (i != 0)
  | .fz (.list ds) => some (!ds.isEmpty)
  | .fz (.tup ds) => some (!ds.isEmpty)
  | .lst ts => some (!ts.isEmpty)
  | .dct ks _ => some (!ks.isEmpty)
  | _ => .none
def D.isE : D → Bool
  | .dict [] [] => true
  | _ => false
def reprOk (d : D) : Bool := d.shpE 60 && PyData.showable d.toPy && decide (d.toPy.shown.length ≤ sizeLine)
def intsOf : List D → Option (List Int)
  | [] => some []
  | .int i :: ds => (intsOf ds).map (i :: ·)
  | _ => .none
def boolsOf : List D → Option (List Bool)
  | [] => some []
  | .bool i :: ds => (boolsOf ds).map (i :: ·)
  | _ => .none
def sortI (ns : List Int) : List Int := ns.mergeSort (fun a b => decide (a ≤ b))
def nubI : List Int → List Int
  | [] => []
  | n :: ns => if n ∈ ns then nubI ns else n :: nubI ns
def keysI : List Key → Option (List Int)
  | [] => some []
  | .inl i :: ks => (keysI ks).map (i :: ·)
  | _ => .none
def maxI (n : Int) : List Int → Int
  | [] => n
  | m :: ms => maxI (if m > n then m else n) ms
def minI (n : Int) : List Int → Int
  | [] => n
  | m :: ms => minI (if m < n then m else n) ms
def T.seqT : T → Option (List D)
  | .fz (.tup ds) => some ds
  | a => a.flat
def tupB : D → Bool
  | .tup (_ :: _) => true
  | _ => false
def ordB : D → Bool
  | .none => false | .tup _ => false
  | _ => true
def sortOk (ds : List D) : Bool := D.shps 60 ds && (ds.all fun d => ds.all fun d' => PySem.W.alike d.toPy d'.toPy) && (ds.all tupB || ds.all ordB)
def sortD (ds : List D) : List D := ds.mergeSort (PySem.W.dataLe false D.toPy)
def T.noIns : T → Bool
  | .fz (.ins _ _) => false | .fz (.ltp _) => false
  | _ => true
inductive Blt where
  | tuple | len | abs | int | list | repr | sorted | all | any | sum | max1 | min1 | max2 | min2 | divmod | isint | isbool | isstr | islist | istup
  deriving DecidableEq
def appB (f : Blt) (ts : List T) : Option T := match f, ts with
  | .len, [.fz (.list ds)] => some (.fz (.int ds.length))
  | .len, [.fz (.tup ds)] => some (.fz (.int ds.length))
  | .len, [.lst ts] => some (.fz (.int ts.length))
  | .abs, [.fz (.int i)] => some (.fz (.int (if i < 0 then -i else i)))
  | .int, [.fz (.int i)] => some (.fz (.int i))
  | .int, [.fz (.bool b)] => some (.fz (.int (if b then 1 else 0)))
  | .list, [a] => (a.seqT).map T.fl
  | .tuple, [a] => (a.seqT).map fun ds => .fz (.tup ds)
  | .repr, [a] => if reprOk a.toD then some (.fz (.str a.toD.toPy.shown)) else .none
  | .sorted, [a] => match a.seqT with
    | some ds => if sortOk ds then some (.fl (sortD ds)) else .none
    | .none => .none
  | .all, [a] => match a.flat with
    | some ds => (boolsOf ds).map fun bs => .fz (.bool (bs.all id))
    | .none => .none
  | .any, [a] => match a.flat with
    | some ds => (boolsOf ds).map fun bs => .fz (.bool (bs.any id))
    | .none => .none
  | .sum, [a] => match a.flat with
    | some ds => (intsOf ds).map fun ns => .fz (.int ns.sum)
    | .none => .none
  | .max1, [a] => match a.seqT with
    | some ds => match intsOf ds with
      | some (n :: ns) => some (.fz (.int (maxI n ns)))
      | _ => .none
    | .none => .none
  | .min1, [a] => match a.seqT with
    | some ds => match intsOf ds with
      | some (n :: ns) => some (.fz (.int (minI n ns)))
      | _ => .none
    | .none => .none
  | .max2, [.fz (.int i), .fz (.int j)] => some (.fz (.int (if j > i then j else i)))
  | .min2, [.fz (.int i), .fz (.int j)] => some (.fz (.int (if j < i then j else i)))
  | .divmod, [.fz (.int i), .fz (.int j)] => if decide (0 < j) && okI j then some (.fz (.ltp [.int (i / j), .int (i % j)])) else .none
  | .isint, [a] => if a.noIns then some (.fz (.bool (match a with | .fz (.int _) => true | .fz (.bool _) => true | _ => false))) else .none
  | .isbool, [a] => if a.noIns then some (.fz (.bool (match a with | .fz (.bool _) => true | _ => false))) else .none
  | .isstr, [a] => if a.noIns then some (.fz (.bool (match a with | .fz (.str _) => true | _ => false))) else .none
  | .islist, [a] => if a.noIns then some (.fz (.bool (match a with | .fz (.list _) => true | .lst _ => true | _ => false))) else .none
  | .istup, [a] => if a.noIns then some (.fz (.bool (match a with | .fz (.tup _) => true | .tup _ => true | _ => false))) else .none
  | _, _ => .none
def findF (f : Str) : List Str → List D → Option D
  | g :: gs, d :: ds => if g = f then some d else findF f gs ds
  | _, _ => .none
inductive Ox where
  | fld (f : Str) | maxd | mind | dict (ks : List Str) | reprl | lset | sset | inr (neg : Bool)
  deriving DecidableEq
def Ox.any : Ox → Bool
  | .reprl => true
  | _ => false
def appX2 (o : Ox) (ts : List T) : Option T := match o, ts with
  | .lset, [a] => match a.flat.bind intsOf with
    | some ns => if decide (ns.length ≤ 4000) then some (.fz (.int ((nubI ns).length : Nat))) else .none
    | .none => .none
  | .sset, [a] => match a.flat.bind intsOf with
    | some ns => if decide (ns.length ≤ 4000) then some (T.fl ((sortI (nubI ns)).map D.int)) else .none
    | .none => .none
  | .inr neg, [.fz (.int i), .fz (.int j)] => some (.fz (.bool (neg != decide (0 ≤ i ∧ i < j))))
  | _, _ => .none
def appX (o : Ox) (ts : List T) : Option T := match o, ts with
  | .reprl, ts => if reprOk (.list (T.toDs ts)) then some (.fz (.str (D.list (T.toDs ts)).toPy.shown)) else .none
  | .fld f, [.fz (.ins fs ds)] => (findF f fs ds).map T.fz
  | .dict ks, ts => if decide ks.Nodup && decide (ks.length = ts.length) && decide (1 ≤ ks.length) && decide (ks.length ≤ 15) then (T.unfzs ts).map fun ds => .dct (ks.map .inr) (fzs ds) else .none
  | .maxd, [a, .fz (.int d)] => match a.seqT with
    | some ds => match intsOf ds with
      | some [] => some (.fz (.int d))
      | some (n :: ns) => some (.fz (.int (maxI n ns)))
      | .none => .none
    | .none => .none
  | .mind, [a, .fz (.int d)] => match a.seqT with
    | some ds => match intsOf ds with
      | some [] => some (.fz (.int d))
      | some (n :: ns) => some (.fz (.int (minI n ns)))
      | .none => .none
    | .none => .none
  | o, ts => appX2 o ts
inductive Tgt where
  | nm (i : Nat) | tp (is : List Nat)
  deriving DecidableEq
mutual
inductive C where
  | var (i : Nat) | mv (i : Nat) | kst (d : D) | gl (g : Nat) | fzv (c : C)
  | tup (es : Cs) | list (es : Cs) | dict0
  | bin (op : Operator) (a b : C) | neg (a : C) | notv (a : C)
  | boolop (op : BoolOp) (a b : C)
  | cmp (op : CmpOp) (a b : C) | chain (o1 o2 : CmpOp) (a b c : C)
  | ite (c : Tc) (a b : C)
  | ix (a i : C) | sl (a : C) (lo hi : Co)
  | call (k : Nat) (es : Cs) | callk (k : Nat) (perm : List Nat) (es : Cs)
  | blt (f : Blt) (es : Cs) | ext (o : Ox) (es : Cs)
  | get2 (o k d : C) | get1 (o k : C)
  | rv (a : C) | lrg1 (a : C) | lrg2 (a b : C) | cnt (o k : C) | cntd (o k : C) | thw (c : C) | idx (o k : C)
  | lc (own : List (Str × Nat)) (tg : Tgt) (it : I) (tests : Tco) (elt : C)
  | lci (own : List (Str × Nat)) (i : Nat) (tg : Tgt) (tests : Tco) (elt : C)
inductive Tc where
  | val (c : C) | not (t : Tc) | bool (op : BoolOp) (ts : Tcs) | cmp (op : CmpOp) (a b : C) | chain (o1 o2 : CmpOp) (a b c : C) | inr (neg : Bool) (a b : C)
inductive Tcs where
  | one (t : Tc) | cons (t : Tc) (ts : Tcs)
inductive Tco where
  | none | some (t : Tc)
inductive Cs where
  | nil | cons (c : C) (cs : Cs)
inductive Co where
  | none | some (c : C)
inductive I where
  | seq (c : C) | rng1 (a : C) | rng2 (a b : C) | rngd (a b c : C) | enum (c : C) | brw (c : C) | zip (a b : C)
end
mutual
inductive S where
  | set (i : Nat) (c : C) | setT (is : List Nat) (c : C) | setL (is : List Nat) (c : C) | par (is : List Nat) (es : Cs)
    | unp (is : List Nat) (c : C)
  | sto (b i c : C) | aug (i : Nat) (op : Operator) (c : C)
  | app (b c : C)
  | exp (c : C) | ret (c : C) | retN
  | ite (c : Tc) (a b : Ss)
  | for (tg : Tgt) (it : I) (b : Ss) | fori (i : Nat) (tg : Tgt) (b : Ss) | forl (i : Nat) (tg : Tgt) (b : Ss)
  | augS (b i : C) (op : Operator) (c : C) | sdf (b k v : C) | augL (i : Nat) (c : C)
    | fgo (x j : Nat) (n : Option Nat)
  | while (fuel : Nat) (c : Tc) (b : Ss)
  | pass | cont | brk | stuck
inductive Ss where
  | nil | cons (s : S) (ss : Ss)
end
structure Fn where
  io : List Bool
  run : List T → Option (T × List T)
structure Gam where
  fns : List Fn
  gls : List D
mutual
def C.wr : C → Bool
  | .var _ => false | .mv _ => false | .kst _ => false | .gl _ => false | .fzv c => c.wr
  | .tup es => es.wr | .list es => es.wr | .dict0 => false
  | .bin _ a b => a.wr || b.wr | .neg a => a.wr | .notv a => a.wr
  | .boolop _ a b => a.wr || b.wr
  | .cmp _ a b => a.wr || b.wr | .chain _ _ a b c => a.wr || b.wr || c.wr
  | .ite c a b => c.wr || a.wr || b.wr
  | .ix a i => a.wr || i.wr | .sl a lo hi => a.wr || lo.wr || hi.wr
  | .call _ _ => true | .callk _ _ _ => true
  | .blt _ es => es.wr | .ext _ es => es.wr
  | .get2 o k d => o.wr || k.wr || d.wr | .get1 o k => o.wr || k.wr
  | .rv a => a.wr | .lrg1 a => a.wr | .lrg2 a b => a.wr || b.wr | .cnt o k => o.wr || k.wr | .cntd o k => o.wr || k.wr | .thw _ => false | .idx o k => o.wr || k.wr
  | .lc _ _ _ _ _ => true | .lci _ _ _ _ _ => true
def Tc.wr : Tc → Bool
  | .val c => c.wr | .not t => t.wr | .bool _ ts => ts.wr | .cmp _ a b => a.wr || b.wr | .chain _ _ a b c => a.wr || b.wr || c.wr | .inr _ a b => a.wr || b.wr
def Tcs.wr : Tcs → Bool
  | .one t => t.wr | .cons t ts => t.wr || ts.wr
def Cs.wr : Cs → Bool
  | .nil => false
  | .cons c cs => c.wr || cs.wr
def Co.wr : Co → Bool
  | .none => false
  | .some c => c.wr
end
def Tco.wr : Tco → Bool
  | .none => false
  | .some t => t.wr
def I.isBrw : I → Bool
  | .brw _ => true
  | _ => false
def stands (v : Val) (wr : Bool) : Bool := match v with
  | .pt _ (some _) => !wr
  | _ => true
def wipeE (ρ : Env) : List Nat → Env
  | [] => ρ
  | o :: os => (kills o .none (wipeE ρ os)).set o .no
def keepS : Option Slot → Slot
  | some (.ow (.fz d)) => .ow (.fz d)
  | _ => .no
def restore (ρ1 : Env) (own : List Nat) (ρ5 : Env) : Env := match own with
  | [] => ρ5
  | o :: os => (restore ρ1 os ρ5).set o (keepS ρ1[o]?)
def ownOk (_ : Env) (_ : List Nat) : Bool := true
def bindD (ρ : Env) : Tgt → D → Option Env
  | .nm i, d => bindS ρ i (.t (.fz d))
  | .tp is, .tup ds => if is.length = ds.length then go ρ is ds else .none
  | .tp is, .ltp ds => if is.length = ds.length then go ρ is ds else .none
  | .tp _, _ => .none
where go (ρ : Env) : List Nat → List D → Option Env
  | i :: is, d :: ds => (bindS ρ i (.t (.fz d))).bind fun ρ1 => go ρ1 is ds
  | _, _ => some ρ
def bindTs (ρ : Env) : List Nat → List T → Option Env
  | [], [] => some ρ
  | i :: is, t :: ts => (bindS ρ i (.t t)).bind fun ρ1 => bindTs ρ1 is ts
  | _, _ => .none
def bindVs (ρ : Env) : List Nat → List Val → Option Env
  | [], [] => some ρ
  | i :: is, v :: vs => (bindS ρ i v).bind fun ρ1 => bindVs ρ1 is vs
  | _, _ => .none
def D.imm : D → Bool
  | .none => true | .bool _ => true | .int _ => true | .str _ => true
  | .list _ => false | .dict _ _ => false | .ins _ _ => false | .ltp _ => false
  | .tup xs => D.imms xs
where D.imms : List D → Bool
  | [] => true
  | d :: ds => D.imm d && D.imms ds
mutual
def T.imm : T → Bool
  | .fz d => d.imm
  | .lst ts => T.imms ts | .tup ts => T.imms ts | .dct _ ts => T.imms ts
def T.imms : List T → Bool
  | [] => true
  | t :: ts => T.imm t && T.imms ts
end
def frzSl : Slot → Slot
  | .ow t => .ow (.fz t.toD)
  | .io t => .ow (.fz t.toD)
  | _ => .no
def frzAll (ρ : Env) : Env := ρ.map frzSl
def D.scal : D → Bool
  | .none => true | .bool _ => true | .int _ => true | .str _ => true
  | _ => false
def argTs (ρ : Env) : List Bool → List Val → Option (List T)
  | [], [] => some []
  | true :: io, .pt i .none :: vs => match slotT ρ[i]?, argTs ρ io vs with
    | some t, some ts => some (t :: ts)
    | _, _ => .none
  | false :: io, v :: vs => match resolve ρ v, argTs ρ io vs with
    | some t, some ts => some (.fz t.toD :: ts)
    | _, _ => .none
  | _, _ => .none
def putIo (ρ : Env) : List Bool → List Val → List T → Option Env
  | [], [], [] => some ρ
  | true :: io, .pt i .none :: vs, t :: ts => (setSlotT ρ i t).bind fun ρ1 => putIo ρ1 io vs ts
  | false :: io, _ :: vs, ts => putIo ρ io vs ts
  | _, _, _ => .none
def ioSlots : List Bool → List Val → List Nat
  | true :: io, .pt i .none :: vs => i :: ioSlots io vs
  | _ :: io, _ :: vs => ioSlots io vs
  | _, _ => []
def killAll (ρ : Env) : List Nat → Env
  | [] => ρ
  | i :: is => kills i .none (killAll ρ is)
def rdSlots : List Bool → List Val → List Nat
  | false :: io, .pt i _ :: vs => i :: rdSlots io vs
  | _ :: io, _ :: vs => rdSlots io vs
  | _, _ => []
mutual
def T.noTup : T → Bool
  | .fz _ => true
  | .lst ts => T.noTups ts | .tup _ => false | .dct _ ts => T.noTups ts
def T.noTups : List T → Bool
  | [] => true
  | t :: ts => T.noTup t && T.noTups ts
end
def brOk (ρ : Env) (is : List Nat) : Bool := is.all fun i => match slotT ρ[i]? with
  | some t => t.noTup
  | .none => false
def ioOk (io : List Bool) (vs : List Val) : Bool := decide (ioSlots io vs).Nodup && (rdSlots io vs).all fun i => !(ioSlots io vs).contains i
def callF (f : Fn) (ρ : Env) (vs : List Val) : Option (T × Env) :=
  if ioOk f.io vs then
    match argTs ρ f.io vs with
    | some ts => match f.run ts with
      | some (t, ios) =>
        if (rdSlots f.io vs).isEmpty || (t.imm && T.imms ios && brOk ρ (rdSlots f.io vs)) then (putIo (killAll ρ (ioSlots f.io vs)) f.io vs ios).map fun ρ1 => (t, ρ1)
        else .none
      | .none => .none
    | .none => .none
  else .none
def resolves (ρ : Env) : List Val → Option (List T)
  | [] => some []
  | v :: vs => match resolve ρ v, resolves ρ vs with
    | some t, some ts => some (t :: ts)
    | _, _ => .none
def permV (perm : List Nat) (vs : List Val) : Option (List Val) := match perm with
  | [] => some []
  | i :: is => match vs[i]?, permV is vs with
    | some v, some r => some (v :: r)
    | _, _ => .none
def T.int? : T → Option Int
  | .fz (.int i) => some i
  | _ => .none
def okR (_ : Int) : Bool := true
def okR0 (i : Int) : Bool := decide (-(2 ^ 62) ≤ i) && decide (i < 2 ^ 62)
def rangeD (lo hi : Int) : List D := (List.range (hi - lo).toNat).map fun (n : Nat) => D.int (lo + (n : Int))
def rangeB (lo hi : Int) : List D := (List.range (lo - hi).toNat).map fun (n : Nat) => D.int (lo - (n : Int))
def enumD : Nat → List D → List D
  | _, [] => []
  | n, d :: ds => .ltp [.int n, d] :: enumD (n + 1) ds
def zipD (ds es : List D) : List D := (ds.zip es).map fun p => .ltp [p.1, p.2]
def slD (ds : List D) (lo hi : Option Int) : List D := (ds.drop (HT.sIx ds.length 0 lo)).take (HT.sIx ds.length ds.length hi - HT.sIx ds.length 0 lo)
def slT (a : T) (lo hi : Option Int) : Option T := match a with
  | .fz (.tup ds) => some (.fz (.tup (slD ds lo hi)))
  | a => (a.flat).map fun ds => .fl (slD ds lo hi)
def okB : Option Int → Bool
  | .none => true
  | some i => decide (-(2 ^ 62) ≤ i) && decide (i < 2 ^ 62)
def lcLoop (f : Env → D → Option (Option T × Env)) (own : List Nat) (ρ : Env) : List D → List T → Option (List T × Env)
  | [], acc => some (acc, ρ)
  | d :: ds, acc => match f ρ d with
    | some (some t, ρ1) => lcLoop f own (wipeE ρ1 own) ds (acc ++ [t])
    | some (.none, ρ1) => lcLoop f own (wipeE ρ1 own) ds acc
    | .none => .none
def Val.isT : Val → Bool
  | .t _ => true
  | _ => false
def tailT (vs : List Val) : Bool := vs.tail.all Val.isT
def okRg (i j : Int) : Bool := okR0 i && okR0 j && decide ((j - i).toNat ≤ 1000000)
def idxD (d : D) : List D → Nat → Option Nat
  | [], _ => .none
  | z :: zs, n => if PyData.eqv z.toPy d.toPy = true then some n else idxD d zs (n + 1)
mutual
def evC (G : Gam) : C → Env → Option (Val × Env)
  | .var i, ρ => (rdName ρ i).map fun v => (v, ρ)
  | .mv i, ρ => match ρ[i]? with
    | some (.ow t) => some (.t t, (kills i .none ρ).set i .no)
    | _ => .none
  | .kst d, ρ => some (.t (.fz d), ρ)
  | .gl g, ρ => (G.gls[g]?).map fun d => (.t (.fz d), ρ)
  | .fzv c, ρ => match evC G c ρ with
    | some (v, ρ1) => (fzVal ρ1 v).map fun p => (.t (.fz p.1.toD), p.2)
    | .none => .none
  | .tup es, ρ => match evs G es ρ with
    | some (vs, ρ1) => (fzVals ρ1 vs).map fun p => (.t (mkTup p.1), p.2)
    | .none => .none
  | .list es, ρ => match evs G es ρ with
    | some (vs, ρ1) => (fzVals ρ1 vs).map fun p => (.t (.lst p.1), p.2)
    | .none => .none
  | .dict0, ρ => some (.t (.dct [] []), ρ)
  | .bin op a b, ρ => match evC G a ρ with
    | some (va, ρ1) => match evC G b ρ1 with
      | some (vb, ρ2) => if stands va b.wr then match resolve ρ2 va, resolve ρ2 vb with
          | some x, some y => (binT op x y).map fun t => (.t t, ρ2)
          | _, _ => .none
        else .none
      | .none => .none
    | .none => .none
  | .neg a, ρ => match evC G a ρ with
    | some (.t (.fz (.int i)), ρ1) => some (.t (.fz (.int (-i))), ρ1)
    | _ => .none
  | .notv a, ρ => match evC G a ρ with
    | some (.t (.fz (.bool b)), ρ1) => some (.t (.fz (.bool (!b))), ρ1)
    | _ => .none
  | .boolop op a b, ρ => match evC G a ρ with
    | some (.t (.fz (.bool k)), ρ1) => if (decide (op = .And)) = k then evC G b ρ1 else some (.t (.fz (.bool k)), ρ1)
    | _ => .none
  | .cmp op a b, ρ => match evC G a ρ with
    | some (va, ρ1) => match evC G b ρ1 with
      | some (vb, ρ2) => if stands va b.wr then match resolve ρ2 va, resolve ρ2 vb with
          | some x, some y => (cmpT op x y).map fun t => (.t (.fz (.bool t)), ρ2)
          | _, _ => .none
        else .none
      | .none => .none
    | .none => .none
  | .chain o1 o2 a b c, ρ => match evC G a ρ with
    | some (.t x, ρ1) => match evC G b ρ1 with
      | some (.t y, ρ2) => match cmpT o1 x y with
        | some false => some (.t (.fz (.bool false)), ρ2)
        | some true => match evC G c ρ2 with
          | some (.t z, ρ3) => (cmpT o2 y z).map fun t => (.t (.fz (.bool t)), ρ3)
          | _ => .none
        | .none => .none
      | _ => .none
    | _ => .none
  | .ite c a b, ρ => match evT G c ρ with
    | some (true, ρ1) => evC G a ρ1
    | some (false, ρ1) => evC G b ρ1
    | .none => .none
  | .ix a i, ρ => match evC G a ρ with
    | some (va, ρ1) => match evC G i ρ1 with
      | some (.t vi, ρ2) => if stands va i.wr then match resolve ρ2 va with
          | some x => match dictOf x with
            | some (ks, ts) => (dGet ks ts vi).map fun d => (.t (.fz d), ρ2)
            | .none => (ixVal ρ2 va vi).map fun v => (v, ρ2)
          | .none => .none
        else .none
      | _ => .none
    | .none => .none
  | .sl a lo hi, ρ => match evC G a ρ with
    | some (va, ρ1) => match evO G lo ρ1 with
      | some (l, ρ2) => match evO G hi ρ2 with
        | some (h, ρ3) => if stands va (lo.wr || hi.wr) && okB l && okB h then match resolve ρ3 va with
            | some x => (slT x l h).map fun t => (.t t, ρ3)
            | .none => .none
          else .none
        | .none => .none
      | .none => .none
    | .none => .none
  | .call k es, ρ => match G.fns[k]? with
    | some f => match evs G es ρ with
      | some (vs, ρ1) => (callF f ρ1 vs).map fun p => (.t p.1, p.2)
      | .none => .none
    | .none => .none
  | .callk k perm es, ρ => match G.fns[k]? with
    | some f => match evs G es ρ with
      | some (vs, ρ1) => match permV perm vs with
        | some ws => (callF f ρ1 ws).map fun p => (.t p.1, p.2)
        | .none => .none
      | .none => .none
    | .none => .none
  | .blt f es, ρ => match evs G es ρ with
    | some (vs, ρ1) => match resolves ρ1 vs with
      | some ts => (appB f ts).map fun t => (.t t, ρ1)
      | .none => .none
    | .none => .none
  | .ext o es, ρ => match evs G es ρ with
    | some (vs, ρ1) => if o.any || tailT vs then match resolves ρ1 vs with
      | some ts => (appX o ts).map fun t => (.t t, ρ1)
      | .none => .none
      else .none
    | .none => .none
  | .get2 o k d, ρ => match evC G o ρ with
    | some (va, ρ1) => match evC G k ρ1 with
      | some (.t (.fz key), ρ2) => match evC G d ρ2 with
        | some (.t (.fz dft), ρ3) => if stands va (k.wr || d.wr) && ((resolve ρ1 va).bind dictOf).isSome then match (resolve ρ3 va).bind dictOf, keyOf key with
            | some (ks, ts), some kk => match findK kk ks ts with
              | some (.fz x) => some (.t (.fz x), ρ3)
              | some _ => .none
              | .none => some (.t (.fz dft), ρ3)
            | _, _ => .none
          else .none
        | _ => .none
      | _ => .none
    | _ => .none
  | .get1 _ _, _ => .none
  | .rv a, ρ => match evC G a ρ with
    | some (va, ρ1) => match resolve ρ1 va with
      | some x => (x.flat).map fun ds => (.t (T.fl ds.reverse), ρ1)
      | .none => .none
    | .none => .none
  | .lrg1 a, ρ => match evC G a ρ with
    | some (.t (.fz (.int i)), ρ1) => if okRg 0 i then some (.t (T.fl (rangeD 0 i)), ρ1) else .none
    | _ => .none
  | .lrg2 a b, ρ => match evC G a ρ with
    | some (.t (.fz (.int i)), ρ1) => match evC G b ρ1 with
      | some (.t (.fz (.int j)), ρ2) => if okRg i j then some (.t (T.fl (rangeD i j)), ρ2) else .none
      | _ => .none
    | _ => .none
  | .cnt o k, ρ => match evC G o ρ with
    | some (va, ρ1) => match evC G k ρ1 with
      | some (.t (.fz (.int i)), ρ2) => if stands va k.wr && ((resolve ρ1 va).bind T.flat).isSome then match ((resolve ρ2 va).bind T.flat).bind intsOf with
          | some ns => some (.t (.fz (.int (ns.count i : Nat))), ρ2)
          | .none => .none
        else .none
      | _ => .none
    | .none => .none
  | .thw c, ρ => match evC G c (frzAll ρ) with
    | some (.t (.fz d), _) => if d.scal then some (.t (.fz d), ρ) else .none
    | _ => .none
  | .cntd o k, ρ => match evC G o ρ with
    | some (va, ρ1) => match evC G k ρ1 with
      | some (.t (.fz d), ρ2) => if stands va k.wr && ((resolve ρ1 va).bind T.flat).isSome then match (resolve ρ2 va).bind T.flat with
          | some ds => if d.shp 60 && D.shps 60 ds then some (.t (.fz (.int ((ds.countP fun z => PyData.eqv z.toPy d.toPy : Nat) : Int))), ρ2) else .none
          | .none => .none
        else .none
      | _ => .none
    | .none => .none
  | .idx o k, ρ => match evC G o ρ with
    | some (.t (.fz (.tup ds)), ρ1) => match evC G k ρ1 with
      | some (.t (.fz d), ρ2) => if d.shp 60 && D.shps 60 ds then (idxD d ds 0).map fun j => (.t (.fz (.int (j : Nat))), ρ2) else .none
      | _ => .none
    | some (va, ρ1) => match evC G k ρ1 with
      | some (.t (.fz d), ρ2) => if stands va k.wr && ((resolve ρ1 va).bind T.flat).isSome then match (resolve ρ2 va).bind T.flat with
          | some ds => if (flatD d && ds.all flatD) || (d.shp 60 && D.shps 60 ds) then (idxD d ds 0).map fun j => (.t (.fz (.int (j : Nat))), ρ2) else .none
          | .none => .none
        else .none
      | _ => .none
    | .none => .none
  | .lc own tg it tests elt, ρ => match evI G it ρ with
    | some (ds, ρ1) => if ownOk ρ1 (own.map (·.2)) then
        match lcLoop (fun ρ d => (bindD ρ tg d).bind fun ρ2 => match evTo G tests ρ2 with
          | some (true, ρ3) => match evC G elt ρ3 with
            | some (v, ρ4) => (fzVal ρ4 v).map fun p => (some p.1, p.2)
            | .none => .none
          | some (false, ρ3) => some (.none, ρ3)
          | .none => .none) (own.map (·.2)) (wipeE ρ1 (own.map (·.2))) ds [] with
        | some (ts, ρ5) => if decide (ts.length ≤ sizeLine) then some (.t (.lst ts), restore ρ1 (own.map (·.2)) ρ5) else .none
        | .none => .none
      else .none
    | .none => .none
  | .lci own i tg tests elt, ρ => match ρ[i]? with
    | some (.ow (.dct ks ts0)) => match T.unfzs ts0 with
      | some ds => if ds.all flatD && ownOk ((kills i .none ρ).set i .no) (own.map (·.2)) then
          match lcLoop (fun ρ d => (bindD ρ tg d).bind fun ρ2 => match evTo G tests ρ2 with
            | some (true, ρ3) => match evC G elt ρ3 with
              | some (v, ρ4) => (fzVal ρ4 v).map fun p => (some p.1, p.2)
              | .none => .none
            | some (false, ρ3) => some (.none, ρ3)
            | .none => .none) (own.map (·.2)) (wipeE ((kills i .none ρ).set i .no) (own.map (·.2))) (itemsD ks ds) [] with
          | some (ts, ρ5) => if decide (ts.length ≤ sizeLine) then some (.t (.lst ts), (kills i .none (restore ((kills i .none ρ).set i .no) (own.map (·.2)) ρ5)).set i (.ow (.dct ks ts0))) else .none
          | .none => .none
        else .none
      | .none => .none
    | _ => .none
def evs (G : Gam) : Cs → Env → Option (List Val × Env)
  | .nil, ρ => some ([], ρ)
  | .cons c cs, ρ => match evC G c ρ with
    | some (v, ρ1) => match evs G cs ρ1 with
      | some (vs, ρ2) => if stands v cs.wr then some (v :: vs, ρ2) else .none
      | .none => .none
    | .none => .none
def evO (G : Gam) : Co → Env → Option (Option Int × Env)
  | .none, ρ => some (.none, ρ)
  | .some c, ρ => match evC G c ρ with
    | some (.t (.fz (.int i)), ρ1) => some (some i, ρ1)
    | _ => .none
def evT (G : Gam) : Tc → Env → Option (Bool × Env)
  | .not a, ρ => (evT G a ρ).map fun p => (!p.1, p.2)
  | .bool op ts, ρ => evB G op ts ρ
  | .inr neg a b, ρ => match evC G a ρ with
    | some (va, ρ1) => match evC G b ρ1 with
      | some (vb, ρ2) => if stands va b.wr then match resolve ρ2 va, resolve ρ2 vb with
          | some (.fz (.int i)), some (.fz (.int n)) => some (neg != decide (0 ≤ i ∧ i < n), ρ2)
          | _, _ => .none
        else .none
      | .none => .none
    | .none => .none
  | .cmp op a b, ρ => match evC G a ρ with
    | some (va, ρ1) => match evC G b ρ1 with
      | some (vb, ρ2) => if stands va b.wr then match resolve ρ2 va, resolve ρ2 vb with
          | some x, some y => (cmpT op x y).map fun t => (t, ρ2)
          | _, _ => .none
        else .none
      | .none => .none
    | .none => .none
  | .chain o1 o2 a b c, ρ => match evC G a ρ with
    | some (.t x, ρ1) => match evC G b ρ1 with
      | some (.t y, ρ2) => match cmpT o1 x y with
        | some false => some (false, ρ2)
        | some true => match evC G c ρ2 with
          | some (.t z, ρ3) => (cmpT o2 y z).map fun t => (t, ρ3)
          | _ => .none
        | .none => .none
      | _ => .none
    | _ => .none
  | .val c, ρ => match evC G c ρ with
    | some (v, ρ1) => match resolve ρ1 v with
      | some t => (truT t).map fun b => (b, ρ1)
      | .none => .none
    | .none => .none
def evB (G : Gam) (op : BoolOp) : Tcs → Env → Option (Bool × Env)
  | .one t, ρ => evT G t ρ
  | .cons t ts, ρ => match evT G t ρ with
    | some (b, ρ1) => if (decide (op = .And)) = b then evB G op ts ρ1 else some (b, ρ1)
    | .none => .none
def evTo (G : Gam) : Tco → Env → Option (Bool × Env)
  | .none, ρ => some (true, ρ)
  | .some t, ρ => evT G t ρ
def evI (G : Gam) : I → Env → Option (List D × Env)
  | .seq c, ρ => match evC G c ρ with
    | some (v, ρ1) => match fzVal ρ1 v with
      | some (t, ρ2) => match t.toD with
        | .list ds => some (ds, ρ2)
        | .tup ds => some (ds, ρ2)
        | _ => .none
      | .none => .none
    | .none => .none
  | .rng1 a, ρ => match evC G a ρ with
    | some (.t (.fz (.int i)), ρ1) => if okR i then some (rangeD 0 i, ρ1) else .none
    | _ => .none
  | .rng2 a b, ρ => match evC G a ρ with
    | some (.t (.fz (.int i)), ρ1) => match evC G b ρ1 with
      | some (.t (.fz (.int j)), ρ2) => if okR i && okR j then some (rangeD i j, ρ2) else .none
      | _ => .none
    | _ => .none
  | .rngd a b c, ρ => match evC G a ρ with
    | some (.t (.fz (.int i)), ρ1) => match evC G b ρ1 with
      | some (.t (.fz (.int j)), ρ2) => match evC G c ρ2 with
        | some (.t (.fz (.int k)), ρ3) => if okR0 i && okR0 j && decide (k = -1) then some (rangeB i j, ρ3) else .none
        | _ => .none
      | _ => .none
    | _ => .none
  | .enum c, ρ => match evC G c ρ with
    | some (v, ρ1) => match fzVal ρ1 v with
      | some (t, ρ2) => match t.toD with
        | .list ds => some (enumD 0 ds, ρ2)
        | _ => .none
      | .none => .none
    | .none => .none
  | .brw c, ρ => match evC G c ρ with
    | some (v, ρ1) => match resolve ρ1 v with
      | some t => (t.flat).map fun ds => (ds, ρ1)
      | .none => .none
    | .none => .none
  | .zip a b, ρ => match evC G a ρ with
    | some (.t (.fz (.list xs)), ρ1) => match evC G b ρ1 with
      | some (.t (.fz (.list ys)), ρ2) => some (zipD xs ys, ρ2)
      | _ => .none
    | some (.t (.fz (.tup xs)), ρ1) => match evC G b ρ1 with
      | some (.t (.fz (.tup ys)), ρ2) => some (zipD xs ys, ρ2)
      | some (.t (.fz (.list ys)), ρ2) => some (zipD xs ys, ρ2)
      | _ => .none
    | _ => .none
end
inductive Out where
  | nx (ρ : Env) | rt (t : T) (ρ : Env) | bk (ρ : Env) | ct (ρ : Env)
  deriving Inhabited
def forLoop (f : Env → D → Option Out) (ρ : Env) : List D → Option Out
  | [] => some (.nx ρ)
  | d :: ds => match f ρ d with
    | some (.nx ρ1) => forLoop f ρ1 ds
    | some (.ct ρ1) => forLoop f ρ1 ds
    | some (.bk ρ1) => some (.nx ρ1)
    | r => r
def whLoop (t : Env → Option (Bool × Env)) (f : Env → Option Out) : Nat → Env → Option Out
  | 0, _ => .none
  | n + 1, ρ => match t ρ with
    | some (true, ρ1) => match f ρ1 with
      | some (.nx ρ2) => whLoop t f n ρ2
      | some (.ct ρ2) => whLoop t f n ρ2
      | some (.bk ρ2) => some (.nx ρ2)
      | r => r
    | some (false, ρ1) => some (.nx ρ1)
    | .none => .none
def augT (op : Operator) (x y : T) : Option T := match x, y with
  | .fz (.int i), .fz (.int j) => (intOp op i j).map fun k => .fz (.int k)
  | _, _ => .none
def rdInt (x i : T) : Option Int := match x with
  | .dct ks ts => match dGet ks ts i with
    | some (.int n) => some n
    | _ => .none
  | .lst ts => match getIx (.lst ts) i with
    | some (.fz (.int n), _) => some n
    | _ => .none
  | _ => .none
def foriEnd (i : Nat) (d : T) : Out → Option Out
  | .nx ρ => match ρ[i]? with
    | some .lk => some (.nx ((kills i .none ρ).set i (.ow d)))
    | _ => .none
  | .rt t ρ => some (.rt t ((kills i .none ρ).set i .no))
  | _ => .none
def forlEnd (i : Nat) (t : T) : Out → Option Out
  | .nx ρ => match ρ[i]? with
    | some .lk => some (.nx ((kills i .none ρ).set i (.io t)))
    | _ => .none
  | .rt v ρ => match ρ[i]? with
    | some .lk => some (.rt v ((kills i .none ρ).set i (.io t)))
    | _ => .none
  | _ => .none
def kidsV (j : Nat) : Nat → List T → List Val
  | _, [] => []
  | k, t :: ts => (match t with | .fz d => Val.t (.fz d) | _ => .pt j (some k)) :: kidsV j (k + 1) ts
def parOk (is : List Nat) (vs : List Val) : Bool := decide is.Nodup && vs.all fun v => match v with
  | .pt j (some _) => !is.contains j
  | _ => true
def frSl : Option Slot → Bool
  | .none => false | some (.io _) => false | some .lk => false
  | _ => true
def kidOk (n : Nat) : T → Bool
  | .lst us => decide (us.length + n < sizeLine)
  | _ => false
mutual
def evS (G : Gam) : S → Env → Option Out
  | .set i c, ρ => match evC G c ρ with
    | some (v, ρ1) => (bindS ρ1 i v).map .nx
    | .none => .none
  | .setT is c, ρ => match evC G c ρ with
    | some (.t (.fz (.tup ds)), ρ1) => (bindTs ρ1 is (fzs ds)).map .nx
    | some (.t (.fz (.ltp ds)), ρ1) => (bindTs ρ1 is (fzs ds)).map .nx
    | some (.t (.tup ts), ρ1) => (bindTs ρ1 is ts).map .nx
    | _ => .none
  | .setL is c, ρ => match evC G c ρ with
    | some (.t t, ρ1) => match t.flat with
      | some ds => (bindTs ρ1 is (fzs ds)).map .nx
      | .none => .none
    | _ => .none
  | .unp is c, ρ => match evC G c ρ with
    | some (.pt j .none, ρ1) => match getPt ρ1 j .none with
      | some (.lst ts) => if parOk is (kidsV j 0 ts) then (bindVs ρ1 is (kidsV j 0 ts)).map .nx else .none
      | _ => .none
    | _ => .none
  | .par is es, ρ => match evs G es ρ with
    | some (vs, ρ1) => if parOk is vs then (bindVs ρ1 is vs).map .nx else .none
    | .none => .none
  | .sto b i c, ρ => match evC G c ρ with
    | some (vc, ρ1) => match fzVal ρ1 vc with
      | some (t, ρ2) => match evC G b ρ2 with
        | some (.pt j k, ρ3) => match evC G i ρ3 with
          | some (.t vi, ρ4) => if stands (.pt j k) i.wr then match getPt ρ4 j k with
              | some x => match setIx x vi t with
                | some y => (setPt (kIx ρ4 j k x vi) j k y).map .nx
                | .none => .none
              | .none => .none
            else .none
          | _ => .none
        | _ => .none
      | .none => .none
    | .none => .none
  | .aug i op c, ρ => match rdName ρ i with
    | some (.t x) => match evC G c ρ with
      | some (.t y, ρ1) => match augT op x y with
        | some t => (bindS ρ1 i (.t t)).map .nx
        | .none => .none
      | _ => .none
    | _ => .none
  | .augS b i op c, ρ => match evC G b ρ with
    | some (.pt j k, ρ1) => match evC G i ρ1 with
      | some (.t vi, ρ2) => if stands (.pt j k) (i.wr || c.wr) then match getPt ρ2 j k with
          | some x1 => match rdInt x1 vi with
            | some n => match evC G c ρ2 with
              | some (.t (.fz (.int m)), ρ3) => match getPt ρ3 j k with
                | some x => match augT op (.fz (.int n)) (.fz (.int m)) with
                  | some r => match setIx x vi r with
                    | some y => (setPt (kIx ρ3 j k x vi) j k y).map .nx
                    | .none => .none
                  | .none => .none
                | .none => .none
              | _ => .none
            | .none => .none
          | .none => .none
        else .none
      | _ => .none
    | _ => .none
  | .fgo x j no, ρ => match ρ[j]? with
    | some (.ow (.lst ts)) => if decide (x ≠ j) && frSl ρ[x]? && decide (no.getD ts.length ≤ ts.length) && (ts.take (no.getD ts.length)).all (kidOk (no.getD ts.length)) then
        some (.nx ((kills x .none ((kills j .none ρ).set j .no)).set x .no))
      else .none
    | _ => .none
  | .augL i c, ρ => match rdName ρ i with
    | some (.pt j .none) => match evC G c ρ with
      | some (.t (.lst ts2), ρ1) => match T.unfzs ts2, getPt ρ1 j .none with
        | some ds, some (.lst ts1) => if decide (j = i) && okLen (ts1.length + ds.length) then (setPt ρ1 j .none (.lst (ts1 ++ fzs ds))).map .nx else .none
        | _, _ => .none
      | _ => .none
    | _ => .none
  | .sdf b kc vc, ρ => match evC G b ρ with
    | some (.pt j k, ρ1) => match getPt ρ1 j k with
      | some (.dct _ _) => match evC G kc ρ1 with
        | some (.t (.fz dk), ρ2) => match evC G vc ρ2 with
          | some (.t (.fz d), ρ3) => if stands (.pt j k) (kc.wr || vc.wr) then match getPt ρ3 j k with
              | some (.dct ks ts) => match keyOf dk with
                | some kk => if decide (ks.length < sizeLine) then match findK kk ks ts with
                    | some _ => some (.nx ρ3)
                    | .none => match setIx (.dct ks ts) (.fz dk) (.fz d) with
                      | some y => (setPt (kIx ρ3 j k (.dct ks ts) (.fz dk)) j k y).map .nx
                      | .none => .none
                  else .none
                | .none => .none
              | _ => .none
            else .none
          | _ => .none
        | _ => .none
      | _ => .none
    | _ => .none
  | .app b c, ρ => match evC G b ρ with
    | some (.pt j k, ρ1) => match getPt ρ1 j k with
      | some (.lst _) => match evC G c ρ1 with
        | some (v, ρ2) => match fzVal ρ2 v with
          | some (t, ρ3) => if stands (.pt j k) c.wr then match getPt ρ3 j k with
              | some x => match appT x t with
                | some y => (setPt ρ3 j k y).map .nx
                | .none => .none
              | .none => .none
            else .none
          | .none => .none
        | .none => .none
      | _ => .none
    | _ => .none
  | .exp c, ρ => (evC G c ρ).map fun p => .nx p.2
  | .ret c, ρ => match evC G c ρ with
    | some (v, ρ1) => (fzVal ρ1 v).map fun p => .rt p.1 p.2
    | .none => .none
  | .retN, ρ => some (.rt (.fz .none) ρ)
  | .ite c a b, ρ => match evT G c ρ with
    | some (true, ρ1) => evSs G a ρ1
    | some (false, ρ1) => evSs G b ρ1
    | .none => .none
  | .for tg it b, ρ => match evI G it ρ with
    | some (ds, ρ1) => forLoop (fun ρ d => (bindD ρ tg d).bind fun ρ2 => evSs G b ρ2) ρ1 ds
    | .none => .none
  | .fori i tg b, ρ => match ρ[i]? with
    | some (.ow (.dct ks ts0)) => match T.unfzs ts0 with
      | some ds => if ds.all flatD then
          (forLoop (fun ρ d => (bindD ρ tg d).bind fun ρ2 => evSs G b ρ2) ((kills i .none ρ).set i .lk) (itemsD ks ds)).bind (foriEnd i (.dct ks ts0))
        else .none
      | .none => .none
    | _ => .none
  | .forl i tg b, ρ => match ρ[i]? with
    | some (.io (.lst ts)) => match T.unfzs ts with
      | some ds => (forLoop (fun ρ d => (bindD ρ tg d).bind fun ρ2 => evSs G b ρ2) ((kills i .none ρ).set i .lk) ds).bind (forlEnd i (.lst ts))
      | .none => .none
    | _ => .none
  | .while fuel c b, ρ => whLoop (evT G c) (evSs G b) fuel ρ
  | .pass, ρ => some (.nx ρ)
  | .cont, ρ => some (.ct ρ)
  | .brk, ρ => some (.bk ρ)
  | .stuck, _ => .none
def evSs (G : Gam) : Ss → Env → Option Out
  | .nil, ρ => some (.nx ρ)
  | .cons s ss, ρ => match evS G s ρ with
    | some (.nx ρ1) => evSs G ss ρ1
    | r => r
end
def ioOuts (ρ : Env) : List Bool → Nat → Option (List T)
  | [], _ => some []
  | true :: io, i => match ρ[i]? with
    | some (.io t) => (ioOuts ρ io (i + 1)).map (t :: ·)
    | _ => .none
  | false :: io, i => ioOuts ρ io (i + 1)
def start0 (io : List Bool) (ts : List T) : Env := (List.zip io ts).map fun p => if p.1 then .io p.2 else .ow p.2
def runDef (G : Gam) (io : List Bool) (n : Nat) (body : Ss) (ts : List T) : Option (T × List T) :=
  if ts.length = io.length then
    match evSs G body (start0 io ts ++ List.replicate (n - ts.length) .no) with
    | some (.rt t ρ) => (ioOuts ρ io 0).map fun os => (t, os)
    | some (.nx ρ) => (ioOuts ρ io 0).map fun os => (.fz .none, os)
    | _ => .none
  else .none
end Mv

end
section
namespace Mv
open PySem PySem.Spec PyProof.Rows L2
def WrL (K : PySem.W.Frag) (c : String) (a : Addr) (xs : List V) : Prop :=
  ∃ (o : Obj) (its : Array Value) (n : Nat), K.lookup a = some o ∧ o.cls = .type c ∧ o.dict = none ∧ o.data = .seq its n ∧ its.size ≤ sizeLine ∧ Vals xs its.toList
def LstF (K : PySem.W.Frag) (F : Addr → Prop) (H : Hp) (a : Addr) (xs : List V) : Prop := (F a ∧ Rd H a (.lst xs)) ∨ WrL K "list" a xs
def TupF (K : PySem.W.Frag) (F : Addr → Prop) (H : Hp) (a : Addr) (xs : List V) : Prop := (F a ∧ ∃ o, o.dict = none ∧ H a = some (.frz o (.tup xs))) ∨ WrL K "tuple" a xs
theorem LstF.sq {K F H a xs} (h : LstF K F H a xs) : SqL K H a xs := by
  rcases h with ⟨_, h⟩ | ⟨o, its, n, h1, h2, h3, h4, h5, h6⟩
  · exact .inl h
  · exact .inr ⟨o, its, n, h1, h2, h3, h4, h5, h6⟩
theorem TupF.sq {K F H a xs} (h : TupF K F H a xs) : SqT K H a xs := by
  rcases h with ⟨_, o, _, h⟩ | ⟨o, its, n, h1, h2, h3, h4, h5, h6⟩
  · exact .inl (.inr ⟨o, h⟩)
  · exact .inr ⟨o, its, n, h1, h2, h4, h5, h6⟩
theorem rdKeep {H H' : Hp} {a : Addr} {u : HO} (h : Rd H a u) (k : ∀ o, H a = some o → H' a = some o) : Rd H' a u := by
  rcases h with h | ⟨o, h⟩
  · exact .inl (k _ h)
  · exact .inr ⟨o, k _ h⟩
mutual
def RepD (K : PySem.W.Frag) (F : Addr → Prop) (H : Hp) : V → D → Prop
  | v, .none => v = .non
  | v, .bool b => v = .bl b
  | v, .int i => v = .int i
  | v, .str s => v = .str s
  | v, .list ds => ∃ a vs, v = .ref a ∧ LstF K F H a vs ∧ RepDs K F H vs ds
  | v, .tup ds => ∃ a vs, v = .ref a ∧ TupF K F H a vs ∧ RepDs K F H vs ds
  | v, .ltp ds => ∃ a vs, v = .ref a ∧ F a ∧ Rd H a (.tup vs) ∧ RepDs K F H vs ds
  | v, .dict ks ds => ∃ a vs, v = .ref a ∧ F a ∧ H a = some (.dK (ks.zip vs)) ∧ vs.length = ks.length ∧ ks.Nodup ∧ RepDs K F H vs ds
  | v, .ins fs ds => ∃ a C dx vs, v = .ref a ∧ F a ∧ H a = some (.ins C dx (fs.zip vs)) ∧ vs.length = fs.length ∧ fs.Nodup ∧ Cls K C ∧ (∀ f ∈ fs, NoAttr K C f) ∧ RepDs K F H vs ds
def RepDs (K : PySem.W.Frag) (F : Addr → Prop) (H : Hp) : List V → List D → Prop
  | [], [] => True
  | v :: vs, d :: ds => RepD K F H v d ∧ RepDs K F H vs ds
  | [], _ :: _ => False
  | _ :: _, [] => False
end
mutual
def TRep (K : PySem.W.Frag) (F : Addr → Prop) (H : Hp) : V → T → List Addr → Prop
  | v, .fz d, fp => fp = [] ∧ RepD K F H v d
  | v, .lst ts, fp => ∃ a vs fq, v = .ref a ∧ fp = a :: fq ∧ ¬ F a ∧ H a = some (.lst vs) ∧ TReps K F H vs ts fq
  | v, .tup ts, fp => ∃ a vs fq, v = .ref a ∧ fp = a :: fq ∧ ¬ F a ∧ (∃ o, o.dict = none ∧ H a = some (.frz o (.tup vs))) ∧ TReps K F H vs ts fq
  | v, .dct ks ts, fp => ∃ a vs fq, v = .ref a ∧ fp = a :: fq ∧ ¬ F a ∧ H a = some (.dK (ks.zip vs)) ∧ vs.length = ks.length ∧ ks.Nodup ∧ TReps K F H vs ts fq
def TReps (K : PySem.W.Frag) (F : Addr → Prop) (H : Hp) : List V → List T → List Addr → Prop
  | [], [], fp => fp = []
  | v :: vs, t :: ts, fp => ∃ f1 f2, fp = f1 ++ f2 ∧ TRep K F H v t f1 ∧ TReps K F H vs ts f2
  | [], _ :: _, _ => False
  | _ :: _, [], _ => False
end
section
variable {K : PySem.W.Frag} {F F' : Addr → Prop} {H H' : Hp}
mutual
theorem RepD.mono (hF : ∀ a, F a → F' a) (hk : ∀ a o, F a → H a = some o → H' a = some o) : ∀ (d : D) (v : V), RepD K F H v d → RepD K F' H' v d
  | .none, v, h => by simpa only [RepD] using h
  | .bool b, v, h => by simpa only [RepD] using h
  | .int i, v, h => by simpa only [RepD] using h
  | .str s, v, h => by simpa only [RepD] using h
  | .list ds, v, h => by
    simp only [RepD] at h ⊢
    obtain ⟨a, vs, rfl, hl, hr⟩ := h
    exact ⟨a, vs, rfl, hl.imp (fun hl => ⟨hF a hl.1, rdKeep hl.2 fun o => hk a o hl.1⟩) id, RepDs.mono hF hk ds vs hr⟩
  | .tup ds, v, h => by
    simp only [RepD] at h ⊢
    obtain ⟨a, vs, rfl, hl, hr⟩ := h
    refine ⟨a, vs, rfl, ?_, RepDs.mono hF hk ds vs hr⟩
    rcases hl with ⟨f, o, z, r⟩ | w
    · exact .inl ⟨hF a f, o, z, hk a _ f r⟩
    · exact .inr w
  | .ltp ds, v, h => by
    simp only [RepD] at h ⊢
    obtain ⟨a, vs, rfl, f, r, hr⟩ := h
    exact ⟨a, vs, rfl, hF a f, rdKeep r fun o => hk a o f, RepDs.mono hF hk ds vs hr⟩
  | .dict ks ds, v, h => by
    simp only [RepD] at h ⊢
    obtain ⟨a, vs, rfl, f, hl, hn, hd, hr⟩ := h
    exact ⟨a, vs, rfl, hF a f, hk a _ f hl, hn, hd, RepDs.mono hF hk ds vs hr⟩
  | .ins fs ds, v, h => by
    simp only [RepD] at h ⊢
    obtain ⟨a, C, dx, vs, rfl, f, hl, hn, hd, hc, ha, hr⟩ := h
    exact ⟨a, C, dx, vs, rfl, hF a f, hk a _ f hl, hn, hd, hc, ha, RepDs.mono hF hk ds vs hr⟩
theorem RepDs.mono (hF : ∀ a, F a → F' a) (hk : ∀ a o, F a → H a = some o → H' a = some o) : ∀ (ds : List D) (vs : List V), RepDs K F H vs ds → RepDs K F' H' vs ds
  | [], [], h => by simp only [RepDs]
  | [], _ :: _, h => by simp only [RepDs] at h
  | _ :: _, [], h => by simp only [RepDs] at h
  | d :: ds, v :: vs, h => by
    simp only [RepDs] at h ⊢
    exact ⟨RepD.mono hF hk d v h.1, RepDs.mono hF hk ds vs h.2⟩
end
mutual
theorem TRep.mono (hF : ∀ a, F a → F' a) : ∀ (t : T) (v : V) (fp : List Addr), (∀ a ∈ fp, ¬ F' a) → (∀ a o, (F a ∨ a ∈ fp) → H a = some o → H' a = some o) → TRep K F H v t fp → TRep K F' H' v t fp
  | .fz d, v, fp, hn, hk, h => by
    simp only [TRep] at h ⊢
    exact ⟨h.1, RepD.mono hF (fun a o f => hk a o (.inl f)) d v h.2⟩
  | .lst ts, v, fp, hn, hk, h => by
    simp only [TRep] at h ⊢
    obtain ⟨a, vs, fq, rfl, rfl, nf, ha, hr⟩ := h
    exact ⟨a, vs, fq, rfl, rfl, hn a List.mem_cons_self, hk a _ (.inr List.mem_cons_self) ha, TReps.mono hF ts vs fq (fun b hb => hn b (List.mem_cons_of_mem _ hb)) (fun b o hb => hk b o (hb.imp id (List.mem_cons_of_mem _))) hr⟩
  | .tup ts, v, fp, hn, hk, h => by
    simp only [TRep] at h ⊢
    obtain ⟨a, vs, fq, rfl, rfl, nf, ⟨o, z, ha⟩, hr⟩ := h
    exact ⟨a, vs, fq, rfl, rfl, hn a List.mem_cons_self, ⟨o, z, hk a _ (.inr List.mem_cons_self) ha⟩, TReps.mono hF ts vs fq (fun b hb => hn b (List.mem_cons_of_mem _ hb)) (fun b o hb => hk b o (hb.imp id (List.mem_cons_of_mem _))) hr⟩
  | .dct ks ts, v, fp, hn, hk, h => by
    simp only [TRep] at h ⊢
    obtain ⟨a, vs, fq, rfl, rfl, nf, ha, hl, hd, hr⟩ := h
    exact ⟨a, vs, fq, rfl, rfl, hn a List.mem_cons_self, hk a _ (.inr List.mem_cons_self) ha, hl, hd, TReps.mono hF ts vs fq (fun b hb => hn b (List.mem_cons_of_mem _ hb)) (fun b o hb => hk b o (hb.imp id (List.mem_cons_of_mem _))) hr⟩
theorem TReps.mono (hF : ∀ a, F a → F' a) : ∀ (ts : List T) (vs : List V) (fp : List Addr), (∀ a ∈ fp, ¬ F' a) → (∀ a o, (F a ∨ a ∈ fp) → H a = some o → H' a = some o) → TReps K F H vs ts fp → TReps K F' H' vs ts fp
  | [], [], fp, _, _, h => by simpa only [TReps] using h
  | [], _ :: _, fp, _, _, h => by simp only [TReps] at h
  | _ :: _, [], fp, _, _, h => by simp only [TReps] at h
  | t :: ts, v :: vs, fp, hn, hk, h => by
    simp only [TReps] at h ⊢
    obtain ⟨f1, f2, rfl, h1, h2⟩ := h
    exact ⟨f1, f2, rfl, TRep.mono hF t v f1 (fun b hb => hn b (List.mem_append_left _ hb)) (fun b o hb => hk b o (hb.imp id (List.mem_append_left _))) h1,
      TReps.mono hF ts vs f2 (fun b hb => hn b (List.mem_append_right _ hb)) (fun b o hb => hk b o (hb.imp id (List.mem_append_right _))) h2⟩
end
mutual
theorem TRep.fps : ∀ (t : T) (v : V) (fp : List Addr), TRep K F H v t fp → ∀ b ∈ fp, ¬ F b ∧ H b ≠ none
  | .fz d, v, fp, h => by
    simp only [TRep] at h
    rw [h.1]; intro b hb; cases hb
  | .lst ts, v, fp, h => by
    simp only [TRep] at h
    obtain ⟨a, vs, fq, rfl, rfl, nf, ha, hr⟩ := h
    intro b hb
    rcases List.mem_cons.mp hb with rfl | hb
    · exact ⟨nf, by rw [ha]; simp⟩
    · exact TReps.fps ts vs fq hr b hb
  | .tup ts, v, fp, h => by
    simp only [TRep] at h
    obtain ⟨a, vs, fq, rfl, rfl, nf, ⟨o, z, ha⟩, hr⟩ := h
    intro b hb
    rcases List.mem_cons.mp hb with rfl | hb
    · exact ⟨nf, by rw [ha]; simp⟩
    · exact TReps.fps ts vs fq hr b hb
  | .dct ks ts, v, fp, h => by
    simp only [TRep] at h
    obtain ⟨a, vs, fq, rfl, rfl, nf, ha, hl, hd, hr⟩ := h
    intro b hb
    rcases List.mem_cons.mp hb with rfl | hb
    · exact ⟨nf, by rw [ha]; simp⟩
    · exact TReps.fps ts vs fq hr b hb
theorem TReps.fps : ∀ (ts : List T) (vs : List V) (fp : List Addr), TReps K F H vs ts fp → ∀ b ∈ fp, ¬ F b ∧ H b ≠ none
  | [], [], fp, h => by
    simp only [TReps] at h
    rw [h]; intro b hb; cases hb
  | [], _ :: _, fp, h => by simp only [TReps] at h
  | _ :: _, [], fp, h => by simp only [TReps] at h
  | t :: ts, v :: vs, fp, h => by
    simp only [TReps] at h
    obtain ⟨f1, f2, rfl, h1, h2⟩ := h
    intro b hb
    rcases List.mem_append.mp hb with hb | hb
    · exact TRep.fps t v f1 h1 b hb
    · exact TReps.fps ts vs f2 h2 b hb
end
mutual
theorem TRep.fz (hF : ∀ a, F a → F' a) : ∀ (t : T) (v : V) (fp : List Addr), (∀ a ∈ fp, F' a) → TRep K F H v t fp → RepD K F' H v t.toD
  | .fz d, v, fp, hn, h => by
    simp only [TRep] at h
    simp only [T.toD]
    exact RepD.mono hF (fun _ _ _ e => e) d v h.2
  | .lst ts, v, fp, hn, h => by
    simp only [TRep] at h
    simp only [T.toD, RepD]
    obtain ⟨a, vs, fq, rfl, rfl, nf, ha, hr⟩ := h
    exact ⟨a, vs, rfl, .inl ⟨hn a List.mem_cons_self, .inl ha⟩, TReps.fz hF ts vs fq (fun b hb => hn b (List.mem_cons_of_mem _ hb)) hr⟩
  | .tup ts, v, fp, hn, h => by
    simp only [TRep] at h
    simp only [T.toD, RepD]
    obtain ⟨a, vs, fq, rfl, rfl, nf, ⟨o, z, ha⟩, hr⟩ := h
    exact ⟨a, vs, rfl, .inl ⟨hn a List.mem_cons_self, o, z, ha⟩, TReps.fz hF ts vs fq (fun b hb => hn b (List.mem_cons_of_mem _ hb)) hr⟩
  | .dct ks ts, v, fp, hn, h => by
    simp only [TRep] at h
    simp only [T.toD, RepD]
    obtain ⟨a, vs, fq, rfl, rfl, nf, ha, hl, hd, hr⟩ := h
    exact ⟨a, vs, rfl, hn a List.mem_cons_self, ha, hl, hd, TReps.fz hF ts vs fq (fun b hb => hn b (List.mem_cons_of_mem _ hb)) hr⟩
theorem TReps.fz (hF : ∀ a, F a → F' a) : ∀ (ts : List T) (vs : List V) (fp : List Addr), (∀ a ∈ fp, F' a) → TReps K F H vs ts fp → RepDs K F' H vs (T.toDs ts)
  | [], [], fp, hn, h => by simp only [T.toDs, RepDs]
  | [], _ :: _, fp, _, h => by simp only [TReps] at h
  | _ :: _, [], fp, _, h => by simp only [TReps] at h
  | t :: ts, v :: vs, fp, hn, h => by
    simp only [TReps] at h
    simp only [T.toDs, RepDs]
    obtain ⟨f1, f2, rfl, h1, h2⟩ := h
    exact ⟨TRep.fz hF t v f1 (fun b hb => hn b (List.mem_append_left _ hb)) h1, TReps.fz hF ts vs f2 (fun b hb => hn b (List.mem_append_right _ hb)) h2⟩
end
theorem RepDs.len : ∀ {ds : List D} {vs : List V}, RepDs K F H vs ds → vs.length = ds.length
  | [], [], _ => rfl
  | [], _ :: _, h => by simp only [RepDs] at h
  | _ :: _, [], h => by simp only [RepDs] at h
  | d :: ds, v :: vs, h => by simp only [RepDs] at h; simp [RepDs.len h.2]
theorem TReps.len : ∀ {ts : List T} {vs : List V} {fp}, TReps K F H vs ts fp → vs.length = ts.length
  | [], [], _, _ => rfl
  | [], _ :: _, _, h => by simp only [TReps] at h
  | _ :: _, [], _, h => by simp only [TReps] at h
  | d :: ds, v :: vs, _, h => by
    simp only [TReps] at h
    obtain ⟨f1, f2, rfl, h1, h2⟩ := h
    simp [TReps.len h2]
abbrev RD (K : PySem.W.Frag) (H : Hp) (v : V) (d : D) : Prop := RepD K (fun _ => True) H v d
abbrev RDs (K : PySem.W.Frag) (H : Hp) (vs : List V) (ds : List D) : Prop := RepDs K (fun _ => True) H vs ds
theorem TRep.rd {t v fp} (h : TRep K F H v t fp) : RD K H v t.toD := TRep.fz (fun _ _ => trivial) t v fp (fun _ _ => trivial) h
theorem RepD.rd {d v} (h : RepD K F H v d) : RD K H v d := RepD.mono (fun _ _ => trivial) (fun _ _ _ e => e) d v h
mutual
theorem RD.dp : ∀ (d : D) (v : V) (n : Nat), D.shp n d = true → RD K H v d → Dp K H v d.toPy
  | .none, v, n, s, h => by
    have h : v = .non := by simpa only [RD, RepD] using h
    subst h; simp only [D.toPy]; exact .non
  | .bool b, v, n, s, h => by
    have h : v = .bl b := by simpa only [RD, RepD] using h
    subst h; simp only [D.toPy]; exact .bl b
  | .int b, v, n, s, h => by
    have h : v = .int b := by simpa only [RD, RepD] using h
    subst h; simp only [D.toPy]; exact .int b
  | .str b, v, n, s, h => by
    have h : v = .str b := by simpa only [RD, RepD] using h
    subst h; simp only [D.toPy]; exact .str b
  | .list ds, v, 0, s, h => by simp [D.shp] at s
  | .list ds, v, n + 1, s, h => by
    simp only [RD, RepD] at h
    obtain ⟨a, vs, rfl, hl, hr⟩ := h
    simp only [D.shp] at s
    simp only [D.toPy]
    exact .lst hl.sq (RDs.dp ds vs n s hr)
  | .tup ds, v, 0, s, h => by simp [D.shp] at s
  | .tup ds, v, n + 1, s, h => by
    simp only [RD, RepD] at h
    obtain ⟨a, vs, rfl, hl, hr⟩ := h
    simp only [D.shp] at s
    simp only [D.toPy]
    exact .tup hl.sq (RDs.dp ds vs n s hr)
  | .dict ks ds, v, n, s, h => by cases n <;> simp [D.shp] at s
  | .ins ks ds, v, n, s, h => by cases n <;> simp [D.shp] at s
  | .ltp ds, v, n, s, h => by cases n <;> simp [D.shp] at s
theorem RDs.dp : ∀ (ds : List D) (vs : List V) (n : Nat), D.shps n ds = true → RDs K H vs ds → DpAll K H vs (D.toPys ds)
  | [], [], n, s, h => by simp only [D.toPys]; exact .nil
  | [], _ :: _, _, _, h => by simp only [RDs, RepDs] at h
  | _ :: _, [], _, _, h => by simp only [RDs, RepDs] at h
  | d :: ds, v :: vs, n, s, h => by
    simp only [RDs, RepDs] at h
    have s' : D.shp n d = true ∧ D.shps n ds = true := by cases n <;> simpa [D.shps] using s
    simp only [D.toPys]
    exact .cons (RD.dp d v n s'.1 h.1) (RDs.dp ds vs n s'.2 h.2)
end
end
end Mv

end
section
namespace Mv
open PySem PySem.Spec PyProof.Rows L2
abbrev Fp := Nat → List Addr
def SlotR (K : PySem.W.Frag) (iov : Nat → Option V) (F : Addr → Prop) (H : Hp) (σ : L2.St) (ex : List Nat) (fp : Fp) (i : Nat) : Slot → Prop
  | .no => fp i = []
  | .ow t => ∃ v, σ[i]? = some (some v) ∧ TRep K F H v t (fp i)
  | .io t => ∃ v, σ[i]? = some (some v) ∧ iov i = some v ∧ TRep K F H v t (fp i)
  | .al j k => fp i = [] ∧ (j ∈ ex ∨ ∃ v a vs, σ[i]? = some (some v) ∧ σ[j]? = some (some (.ref a)) ∧ H a = some (.lst vs) ∧ vs[k]? = some v ∧ (F a ∨ a ∈ fp j))
  | .lk => fp i = [] ∧ ∃ v, σ[i]? = some (some v) ∧ iov i = some v
structure SR (K : PySem.W.Frag) (iov : Nat → Option V) (ex : List Nat) (F : Addr → Prop) (H : Hp) (σ : L2.St) (ρ : Env) (fp : Fp) : Prop where
  len : ρ.length = σ.length
  slot : ∀ (i : Nat) (s : Slot), ρ[i]? = some s → i ∉ ex → SlotR K iov F H σ ex fp i s
  exc : ∀ i, i ∈ ex → fp i = []
  out : ∀ i : Nat, ρ[i]? = none → fp i = []
  nod : ∀ i, (fp i).Nodup
  dis : ∀ i j b, b ∈ fp i → b ∈ fp j → i = j
  trk : ∀ b, F b → H b ≠ none
def VR (K : PySem.W.Frag) (F : Addr → Prop) (H : Hp) (σ : L2.St) : Val → V → List Addr → Prop
  | .t t, v, fpv => TRep K F H v t fpv
  | .pt i none, v, fpv => fpv = [] ∧ σ[i]? = some (some v)
  | .pt i (some k), v, fpv => fpv = [] ∧ ∃ a vs, σ[i]? = some (some (.ref a)) ∧ H a = some (.lst vs) ∧ vs[k]? = some v
def VRs (K : PySem.W.Frag) (F : Addr → Prop) (H : Hp) (σ : L2.St) : List Val → List V → List Addr → Prop
  | [], [], fpv => fpv = []
  | a :: as, v :: vs, fpv => ∃ f1 f2, fpv = f1 ++ f2 ∧ VR K F H σ a v f1 ∧ VRs K F H σ as vs f2
  | [], _ :: _, _ => False
  | _ :: _, [], _ => False
structure Post (F : Addr → Prop) (H : Hp) (fp : Fp) (F' : Addr → Prop) (H' : Hp) (fp' : Fp) (fpv : List Addr) (wr : Bool) : Prop where
  sub : ∀ b, F b → F' b
  new : ∀ b, F' b → F b ∨ (∃ i, b ∈ fp i) ∨ H b = none
  keep : ∀ b o, H b = some o → (wr = false ∨ ∀ i, b ∉ fp i) → H' b = some o
  there : ∀ b, H b ≠ none → H' b ≠ none
  fresh : ∀ i b, b ∈ fp' i → (∃ j, b ∈ fp j) ∨ H b = none
  freshv : ∀ b, b ∈ fpv → (∃ j, b ∈ fp j) ∨ H b = none
  disv : ∀ i b, b ∈ fp' i → b ∉ fpv
  nodv : fpv.Nodup
section
variable {K : PySem.W.Frag} {iov : Nat → Option V} {ex : List Nat} {F F1 F2 F' : Addr → Prop} {H H1 H2 H' : Hp} {σ : L2.St} {ρ ρ' : Env} {fp fp1 fp2 fp' : Fp} {fpv fpa fpb : List Addr} {wr wr1 wr2 : Bool}
theorem SR.fpF (S : SR K iov ex F H σ ρ fp) : ∀ i b, b ∈ fp i → ¬ F b ∧ H b ≠ none := by
  intro i b hb
  cases e : ρ[i]? with
  | none => rw [S.out i e] at hb; cases hb
  | some s =>
    by_cases hx : i ∈ ex
    · rw [S.exc i hx] at hb; cases hb
    have r := S.slot i s e hx
    cases s with
    | no => have r : fp i = [] := r; rw [r] at hb; cases hb
    | lk => have r : fp i = [] := r.1; rw [r] at hb; cases hb
    | ow t => obtain ⟨v, _, r⟩ := r; exact TRep.fps t v _ r b hb
    | io t => obtain ⟨v, _, _, r⟩ := r; exact TRep.fps t v _ r b hb
    | al j k => have r : fp i = [] := r.1; rw [r] at hb; cases hb
theorem VR.fps {a : Val} {v : V} (h : VR K F H σ a v fpv) : ∀ b ∈ fpv, ¬ F b ∧ H b ≠ none := by
  cases a with
  | t t => exact TRep.fps t v _ h
  | pt i k => cases k with
    | none => have h : fpv = [] := h.1; rw [h]; intro b hb; cases hb
    | some k => have h : fpv = [] := h.1; rw [h]; intro b hb; cases hb
theorem VRs.fps : ∀ {as : List Val} {vs : List V} {fpv}, VRs K F H σ as vs fpv → ∀ b ∈ fpv, ¬ F b ∧ H b ≠ none
  | [], [], _, h => by have h : _ = [] := h; rw [h]; intro b hb; cases hb
  | [], _ :: _, _, h => h.elim
  | _ :: _, [], _, h => h.elim
  | a :: as, v :: vs, _, h => by
    obtain ⟨f1, f2, rfl, h1, h2⟩ := h
    intro b hb
    rcases List.mem_append.mp hb with hb | hb
    · exact h1.fps b hb
    · exact VRs.fps h2 b hb
theorem VRs.len : ∀ {as : List Val} {vs : List V} {fpv}, VRs K F H σ as vs fpv → as.length = vs.length
  | [], [], _, h => rfl
  | [], _ :: _, _, h => h.elim
  | _ :: _, [], _, h => h.elim
  | a :: as, v :: vs, _, h => by
    obtain ⟨f1, f2, rfl, h1, h2⟩ := h
    simp [VRs.len h2]
theorem Post.refl (S : SR K iov ex F H σ ρ fp) : Post F H fp F H fp [] wr :=
  ⟨fun _ h => h, fun _ h => .inl h, fun _ _ h _ => h, fun _ h => h, fun i b h => .inl ⟨i, h⟩, fun _ h => (nomatch h), fun _ _ _ h => (nomatch h), List.nodup_nil⟩
theorem Post.wrT (P : Post F H fp F' H' fp' fpv wr) : Post F H fp F' H' fp' fpv true :=
  ⟨P.sub, P.new, fun b o h e => P.keep b o h (e.elim (fun z => (nomatch z)) .inr), P.there, P.fresh, P.freshv, P.disv, P.nodv⟩
theorem Post.off (P : Post F H fp F' H' fp' fpv wr) (h : ∀ b ∈ fpa, ¬ F b ∧ H b ≠ none) (hd : ∀ i b, b ∈ fp i → b ∉ fpa) : ∀ b ∈ fpa, ¬ F' b := fun b hb f => by
  rcases P.new b f with f | ⟨i, f⟩ | f
  · exact (h b hb).1 f
  · exact hd i b f hb
  · exact (h b hb).2 f
theorem Post.tmp (P : Post F H fp F' H' fp' fpv wr) (hfp : ∀ i b, b ∈ fp i → ¬ F b) {t : T} {v : V} (h : TRep K F H v t fpa) (hd : ∀ i b, b ∈ fp i → b ∉ fpa) : TRep K F' H' v t fpa :=
  TRep.mono P.sub t v fpa (P.off (TRep.fps t v _ h) hd) (fun a o ha e => P.keep a o e (.inr fun i hi => ha.elim (hfp i a hi) (hd i a hi))) h
theorem Post.tmps (P : Post F H fp F' H' fp' fpv wr) (hfp : ∀ i b, b ∈ fp i → ¬ F b) {t : List T} {v : List V} (h : TReps K F H v t fpa) (hd : ∀ i b, b ∈ fp i → b ∉ fpa) : TReps K F' H' v t fpa :=
  TReps.mono P.sub t v fpa (P.off (TReps.fps t v _ h) hd) (fun a o ha e => P.keep a o e (.inr fun i hi => ha.elim (hfp i a hi) (hd i a hi))) h
theorem VR.step (P : Post F H fp F' H' fp' fpv wr) (hfp : ∀ i b, b ∈ fp i → ¬ F b) {a : Val} {v : V} (h : VR K F H σ a v fpa) (hd : ∀ i b, b ∈ fp i → b ∉ fpa) (st : stands a wr = true) : VR K F' H' σ a v fpa := by
  cases a with
  | t t => exact P.tmp hfp h hd
  | pt i k => cases k with
    | none => exact h
    | some k =>
      obtain ⟨e, a, vs, h1, h2, h3⟩ := h
      have w : wr = false := by simpa [stands] using st
      exact ⟨e, a, vs, h1, P.keep a _ h2 (.inl w), h3⟩
theorem Post.trans (P : Post F H fp F1 H1 fp1 fpa wr1) (Q : Post F1 H1 fp1 F2 H2 fp2 fpb wr2) (ha : ∀ b ∈ fpa, ¬ F1 b ∧ H1 b ≠ none) : Post F H fp F2 H2 fp2 (fpa ++ fpb) (wr1 || wr2) where
  sub := fun b h => Q.sub b (P.sub b h)
  new := fun b h => by
    rcases Q.new b h with h | ⟨i, h⟩ | h
    · exact P.new b h
    · rcases P.fresh i b h with ⟨j, h⟩ | h
      · exact .inr (.inl ⟨j, h⟩)
      · exact .inr (.inr h)
    · refine .inr (.inr ?_)
      cases e : H b with
      | none => rfl
      | some o => exact absurd h (P.there b (by rw [e]; simp))
  keep := fun b o h w => by
    have h1 : H1 b = some o := P.keep b o h (w.imp (fun z => by cases wr1 <;> simp_all) id)
    refine Q.keep b o h1 ?_
    rcases w with w | w
    · exact .inl (by cases wr2 <;> simp_all)
    · refine .inr fun i hi => ?_
      rcases P.fresh i b hi with ⟨j, z⟩ | z
      · exact w j z
      · rw [h] at z; cases z
  there := fun b h => Q.there b (P.there b h)
  fresh := fun i b h => by
    rcases Q.fresh i b h with ⟨j, z⟩ | z
    · exact P.fresh j b z
    · refine .inr ?_
      cases e : H b with
      | none => rfl
      | some o => exact absurd z (P.there b (by rw [e]; simp))
  freshv := fun b h => by
    rcases List.mem_append.mp h with h | h
    · exact P.freshv b h
    · rcases Q.freshv b h with ⟨j, z⟩ | z
      · exact P.fresh j b z
      · refine .inr ?_
        cases e : H b with
        | none => rfl
        | some o => exact absurd z (P.there b (by rw [e]; simp))
  disv := fun i b h => by
    intro z
    rcases List.mem_append.mp z with z | z
    · rcases Q.fresh i b h with ⟨j, w⟩ | w
      · exact P.disv j b w z
      · exact (ha b z).2 w
    · exact Q.disv i b h z
  nodv := by
    refine List.nodup_append.mpr ⟨P.nodv, Q.nodv, fun a ha' b hb e => ?_⟩
    subst e
    rcases Q.freshv a hb with ⟨j, w⟩ | w
    · exact P.disv j a w ha'
    · exact (ha a ha').2 w
theorem Post.drop (P : Post F H fp F' H' fp' (fpa ++ fpb) wr) : Post F H fp F' H' fp' fpb wr :=
  ⟨P.sub, P.new, P.keep, P.there, P.fresh, fun b h => P.freshv b (List.mem_append_right _ h), fun i b h z => P.disv i b h (List.mem_append_right _ z), (List.nodup_append.mp P.nodv).2.1⟩
theorem Post.drop0 (P : Post F H fp F' H' fp' fpv wr) : Post F H fp F' H' fp' [] wr :=
  ⟨P.sub, P.new, P.keep, P.there, P.fresh, fun b h => (nomatch h), fun i b h z => (nomatch z), List.nodup_nil⟩
theorem TReps.get : ∀ {ts : List T} {vs : List V} {fq : List Addr} {k : Nat} {t : T} {v : V}, TReps K F H vs ts fq → ts[k]? = some t → vs[k]? = some v → ∃ f1 f2 f3, fq = f1 ++ f2 ++ f3 ∧ TRep K F H v t f2
  | [], [], fq, k, t, v, h, e, _ => by simp at e
  | [], _ :: _, _, _, _, _, h, _, _ => by simp only [TReps] at h
  | _ :: _, [], _, _, _, _, h, _, _ => by simp only [TReps] at h
  | t0 :: ts, v0 :: vs, fq, 0, t, v, h, e1, e2 => by
    simp only [TReps] at h
    obtain ⟨f1, f2, rfl, h1, h2⟩ := h
    simp at e1 e2
    subst e1 e2
    exact ⟨[], f1, f2, rfl, h1⟩
  | t0 :: ts, v0 :: vs, fq, k + 1, t, v, h, e1, e2 => by
    simp only [TReps] at h
    obtain ⟨f1, f2, rfl, h1, h2⟩ := h
    obtain ⟨g1, g2, g3, e, r⟩ := TReps.get (k := k) h2 (by simpa using e1) (by simpa using e2)
    exact ⟨f1 ++ g1, g2, g3, by rw [e]; simp, r⟩
theorem SR.slT (S : SR K iov [] F H σ ρ fp) {i : Nat} {t : T} (h : Mv.slotT ρ[i]? = some t) : ∃ v, σ[i]? = some (some v) ∧ TRep K F H v t (fp i) := by
  cases e : ρ[i]? with
  | none => rw [e] at h; simp [Mv.slotT] at h
  | some s =>
    rw [e] at h
    have r := S.slot i s e (by simp)
    cases s with
    | no => simp [Mv.slotT] at h
    | lk => simp [Mv.slotT] at h
    | ow u => simp [Mv.slotT] at h; subst h; exact r
    | io u => simp [Mv.slotT] at h; subst h; obtain ⟨v, a, _, b⟩ := r; exact ⟨v, a, b⟩
    | al j k => simp [Mv.slotT] at h
theorem SR.gtPt (S : SR K iov [] F H σ ρ fp) {i : Nat} {k : Option Nat} {t : T} {v : V} (h : Mv.getPt ρ i k = some t) (r : VR K F H σ (.pt i k) v fpv) : ∃ f1 fq f3, fp i = f1 ++ fq ++ f3 ∧ TRep K F H v t fq := by
  cases k with
  | none =>
    obtain ⟨v', e, tr⟩ := S.slT (show Mv.slotT ρ[i]? = some t from h)
    have r := r.2
    rw [e] at r; cases r
    exact ⟨[], fp i, [], by simp, tr⟩
  | some k =>
    unfold Mv.getPt at h
    cases e : Mv.slotT ρ[i]? with
    | none => rw [e] at h; simp at h
    | some u =>
      rw [e] at h
      cases u with
      | lst ts =>
        obtain ⟨v', e', tr⟩ := S.slT e
        obtain ⟨_, a, vs, h1, h2, h3⟩ := r
        rw [e'] at h1; cases h1
        simp only [TRep] at tr
        obtain ⟨a', vs', fq, ea, efp, nf, ha, hr⟩ := tr
        cases ea
        rw [h2] at ha; cases ha
        obtain ⟨f1, f2, f3, e3, r3⟩ := TReps.get hr (show ts[k]? = some t from h) h3
        exact ⟨a :: f1, f2, f3, by rw [efp, e3]; simp, r3⟩
      | fz d => simp at h
      | tup ts => simp at h
      | dct ks ts => simp at h
theorem SR.rslv (S : SR K iov [] F H σ ρ fp) {a : Val} {t : T} {v : V} (h : Mv.resolve ρ a = some t) (r : VR K F H σ a v fpv) : ∃ fq, TRep K F H v t fq := by
  cases a with
  | t u => cases h; exact ⟨_, r⟩
  | pt i k =>
    obtain ⟨_, fq, _, _, q⟩ := S.gtPt h r
    exact ⟨fq, q⟩
theorem SR.rslvs (S : SR K iov [] F H σ ρ fp) : ∀ {as : List Val} {ts : List T} {vs : List V} {fpv}, Mv.resolves ρ as = some ts → VRs K F H σ as vs fpv → ∃ fq, TReps K F H vs ts fq
  | [], ts, [], _, h, r => by cases h; exact ⟨[], by simp only [TReps]⟩
  | [], _, _ :: _, _, _, r => r.elim
  | _ :: _, _, [], _, _, r => r.elim
  | a :: as, ts, v :: vs, _, h, r => by
    obtain ⟨f1, f2, rfl, r1, r2⟩ := r
    unfold Mv.resolves at h
    cases e : Mv.resolve ρ a with
    | none => rw [e] at h; simp at h
    | some t =>
      cases e2 : Mv.resolves ρ as with
      | none => rw [e, e2] at h; simp at h
      | some ts' =>
        rw [e, e2] at h
        simp at h; subst h
        obtain ⟨g1, q1⟩ := S.rslv e r1
        obtain ⟨g2, q2⟩ := S.rslvs e2 r2
        exact ⟨g1 ++ g2, by simp only [TReps]; exact ⟨g1, g2, rfl, q1, q2⟩⟩
theorem SR.step (S : SR K iov ex F H σ ρ fp) (hF : ∀ b, F b → F' b) (hn : ∀ i b, b ∈ fp i → ¬ F' b) (hk : ∀ b o, H b = some o → H' b = some o) (ht : ∀ b, F' b → H' b ≠ none) : SR K iov ex F' H' σ ρ fp where
  len := S.len
  slot := fun i s e hx => by
    have r := S.slot i s e hx
    cases s with
    | no => exact r
    | lk => exact r
    | ow t => obtain ⟨v, a, r⟩ := r; exact ⟨v, a, TRep.mono hF t v _ (hn i) (fun b o _ => hk b o) r⟩
    | io t => obtain ⟨v, a, c, r⟩ := r; exact ⟨v, a, c, TRep.mono hF t v _ (hn i) (fun b o _ => hk b o) r⟩
    | al j k =>
      obtain ⟨z, r⟩ := r
      exact ⟨z, r.imp id fun ⟨v, a, vs, h1, h2, h3, h4, h5⟩ => ⟨v, a, vs, h1, h2, hk a _ h3, h4, h5.imp (hF a) id⟩⟩
  exc := S.exc
  out := S.out
  nod := S.nod
  dis := S.dis
  trk := ht
def PureRes (K : PySem.W.Frag) (F : Addr → Prop) (H : Hp) (t : T) (v : V) (H' : Hp) : Prop :=
  ∃ F' fpv, (∀ b, F b → F' b) ∧ (∀ b, F' b → F b ∨ (H b = none ∧ H' b ≠ none)) ∧ (∀ b o, H b = some o → H' b = some o) ∧ TRep K F' H' v t fpv ∧ (∀ b ∈ fpv, H b = none) ∧ fpv.Nodup
theorem SR.pure (S : SR K iov ex F H σ ρ fp) {t v} (h : PureRes K F H t v H') : ∃ F' fpv, SR K iov ex F' H' σ ρ fp ∧ TRep K F' H' v t fpv ∧ Post F H fp F' H' fp fpv false := by
  obtain ⟨F', fpv, h1, h2, h3, h4, h5, h6⟩ := h
  have hn : ∀ i b, b ∈ fp i → ¬ F' b := fun i b hb f => by
    have := S.fpF i b hb
    rcases h2 b f with f | f
    · exact this.1 f
    · exact this.2 f.1
  refine ⟨F', fpv, S.step h1 hn h3 fun b f => ?_, h4, ⟨h1, fun b f => ?_, fun b o e _ => h3 b o e, fun b e => ?_, fun i b hb => .inl ⟨i, hb⟩, fun b hb => .inr (h5 b hb), fun i b hb z => ?_, h6⟩⟩
  · rcases h2 b f with f | f
    · have := S.trk b f
      cases e : H b with
      | none => exact absurd e this
      | some o => rw [h3 b o e]; simp
    · exact f.2
  · exact (h2 b f).imp id fun z => .inr z.1
  · cases e' : H b with
    | none => exact absurd e' e
    | some o => rw [h3 b o e']; simp
  · exact (S.fpF i b hb).2 (h5 b z)
theorem PureRes.same {d : D} {v : V} (h : RepD K F H v d) : PureRes K F H (.fz d) v H :=
  ⟨F, [], fun _ h => h, fun _ h => .inl h, fun _ _ h => h, by simpa only [TRep, true_and] using h, fun _ h => (nomatch h), List.nodup_nil⟩
end
end Mv

end
section
namespace Mv
open PySem PySem.Spec PyProof.Rows L2
def updF (fp : Fp) (i : Nat) (f : List Addr) : Fp := fun j => if j = i then f else fp j
theorem updF_same {fp : Fp} {i f} : updF fp i f i = f := by simp [updF]
theorem updF_ne {fp : Fp} {i j f} (h : j ≠ i) : updF fp i f j = fp j := by simp [updF, h]
section
variable {K : PySem.W.Frag} {iov : Nat → Option V} {ex : List Nat} {F F1 F2 F' : Addr → Prop} {H H1 H2 H' : Hp} {σ : L2.St} {ρ ρ' : Env} {fp fp1 fp2 fp' : Fp} {fpv fpa fpb : List Addr} {wr wr1 wr2 : Bool}
theorem kills_get (j k) (ρ : Env) (i : Nat) : (kills j k ρ)[i]? = (ρ[i]?).map (kill j k) := by unfold kills; rw [List.getElem?_map]
theorem kill_al {j k s i l} (h : kill j k s = .al i l) : s = .al i l ∧ ¬ (i = j ∧ (k = .none ∨ k = some l)) := by
  cases s with
  | al i' l' =>
    simp only [kill] at h
    split at h
    · cases h
    · rename_i hh; cases h; exact ⟨rfl, hh⟩
  | _ => simp [kill] at h
theorem slotT_kills (j k) (ρ : Env) (i : Nat) : slotT (kills j k ρ)[i]? = slotT ρ[i]? := by
  rw [kills_get]
  cases ρ[i]? with
  | none => rfl
  | some s =>
    cases s with
    | al a b => simp only [Option.map_some, kill]; split <;> rfl
    | _ => rfl
theorem getPt_kills (j k) (ρ : Env) (i l) : getPt (kills j k ρ) i l = getPt ρ i l := by
  cases l <;> simp [getPt, slotT_kills]
theorem SR.kls (S : SR K iov ex F H σ ρ fp) (j : Nat) (k : Option Nat) : SR K iov ex F H σ (Mv.kills j k ρ) fp where
  len := by unfold Mv.kills; rw [List.length_map]; exact S.len
  slot := fun i s e hx => by
    rw [kills_get] at e
    cases e' : ρ[i]? with
    | none => rw [e'] at e; cases e
    | some s0 =>
      rw [e'] at e
      have r := S.slot i s0 e' hx
      cases s0 with
      | al a b =>
        simp only [Option.map_some, kill] at e
        split at e
        · cases e; exact r.1
        · cases e; exact r
      | _ => cases e; exact r
  exc := S.exc
  out := fun i e => S.out i (by rw [kills_get] at e; cases h : ρ[i]? with | none => rfl | some s => rw [h] at e; cases e)
  nod := S.nod
  dis := S.dis
  trk := S.trk
structure Fz (F : Addr → Prop) (fp : Fp) (F' : Addr → Prop) (fp' : Fp) : Prop where
  sub : ∀ b, F b → F' b
  new : ∀ b, F' b → F b ∨ ∃ i, b ∈ fp i
  le : ∀ i b, b ∈ fp' i → b ∈ fp i
theorem Fz.refl : Fz F fp F fp := ⟨fun _ h => h, fun _ h => .inl h, fun _ _ h => h⟩
theorem Fz.trans (a : Fz F fp F1 fp1) (b : Fz F1 fp1 F2 fp2) : Fz F fp F2 fp2 :=
  ⟨fun x h => b.sub x (a.sub x h), fun x h => (b.new x h).elim (a.new x) fun ⟨i, z⟩ => .inr ⟨i, a.le i x z⟩, fun i x h => a.le i x (b.le i x h)⟩
theorem Post.fz (P : Post F H fp F1 H1 fp1 fpv wr) (Z : Fz F1 fp1 F2 fp2) : Post F H fp F2 H1 fp2 fpv wr where
  sub := fun b h => Z.sub b (P.sub b h)
  new := fun b h => by
    rcases Z.new b h with h | ⟨i, h⟩
    · exact P.new b h
    · rcases P.fresh i b h with h | h
      · exact .inr (.inl h)
      · exact .inr (.inr h)
  keep := P.keep
  there := P.there
  fresh := fun i b h => P.fresh i b (Z.le i b h)
  freshv := P.freshv
  disv := fun i b h => P.disv i b (Z.le i b h)
  nodv := P.nodv
theorem Fz.off (Z : Fz F fp F' fp') (h : ∀ b ∈ fpa, ¬ F b) (hd : ∀ i b, b ∈ fp i → b ∉ fpa) : ∀ b ∈ fpa, ¬ F' b := fun b hb f => (Z.new b f).elim (h b hb) fun ⟨i, z⟩ => hd i b z hb
theorem Fz.tmp (Z : Fz F fp F' fp') {t : T} {v : V} (h : TRep K F H v t fpa) (hd : ∀ i b, b ∈ fp i → b ∉ fpa) : TRep K F' H v t fpa :=
  TRep.mono Z.sub t v fpa (Z.off (fun b hb => (TRep.fps t v _ h b hb).1) hd) (fun _ _ _ e => e) h
theorem Fz.tmps (Z : Fz F fp F' fp') {t : List T} {v : List V} (h : TReps K F H v t fpa) (hd : ∀ i b, b ∈ fp i → b ∉ fpa) : TReps K F' H v t fpa :=
  TReps.mono Z.sub t v fpa (Z.off (fun b hb => (TReps.fps t v _ h b hb).1) hd) (fun _ _ _ e => e) h
theorem VR.fz (Z : Fz F fp F' fp') {a : Val} {v : V} (h : VR K F H σ a v fpa) (hd : ∀ i b, b ∈ fp i → b ∉ fpa) : VR K F' H σ a v fpa := by
  cases a with
  | t t => exact Z.tmp (show TRep K F H v t fpa from h) hd
  | pt i k => cases k <;> exact h
theorem VRs.fz (Z : Fz F fp F' fp') : ∀ {a : List Val} {v : List V} {fpa}, VRs K F H σ a v fpa → (∀ i b, b ∈ fp i → b ∉ fpa) → VRs K F' H σ a v fpa
  | [], [], _, h, _ => h
  | [], _ :: _, _, h, _ => h.elim
  | _ :: _, [], _, h, _ => h.elim
  | a :: as, v :: vs, _, h, hd => by
    obtain ⟨f1, f2, rfl, h1, h2⟩ := h
    exact ⟨f1, f2, rfl, h1.fz Z fun i b hb z => hd i b hb (List.mem_append_left _ z), VRs.fz Z h2 fun i b hb z => hd i b hb (List.mem_append_right _ z)⟩
theorem TReps.upd : ∀ {ts : List T} {vs : List V} {fq : List Addr} {k : Nat} {t : T} {v : V}, TReps K F H vs ts fq → ts[k]? = some t → vs[k]? = some v → ∃ f1 f2 f3, fq = f1 ++ f2 ++ f3 ∧ TRep K F H v t f2 ∧
    ∀ F' H' v' t' f2', (∀ b, F b → F' b) → (∀ b, b ∈ f1 ∨ b ∈ f3 → ¬ F' b) → (∀ b o, (F b ∨ b ∈ f1 ∨ b ∈ f3) → H b = some o → H' b = some o) → TRep K F' H' v' t' f2' → TReps K F' H' (vs.set k v') (ts.set k t') (f1 ++ f2' ++ f3)
  | [], [], fq, k, t, v, h, e, _ => by simp at e
  | [], _ :: _, _, _, _, _, h, _, _ => by simp only [TReps] at h
  | _ :: _, [], _, _, _, _, h, _, _ => by simp only [TReps] at h
  | t0 :: ts, v0 :: vs, fq, 0, t, v, h, e1, e2 => by
    simp only [TReps] at h
    obtain ⟨f1, f2, rfl, h1, h2⟩ := h
    simp at e1 e2
    subst e1 e2
    refine ⟨[], f1, f2, rfl, h1, fun F' H' v' t' f2' hF hn hk r => ?_⟩
    simp only [List.set_cons_zero, TReps, List.nil_append]
    exact ⟨f2', f2, rfl, r, TReps.mono hF ts vs f2 (fun b hb => hn b (.inr hb)) (fun b o hb => hk b o (hb.imp id .inr)) h2⟩
  | t0 :: ts, v0 :: vs, fq, k + 1, t, v, h, e1, e2 => by
    simp only [TReps] at h
    obtain ⟨f1, f2, rfl, h1, h2⟩ := h
    obtain ⟨g1, g2, g3, e, r, q⟩ := TReps.upd (k := k) h2 (by simpa using e1) (by simpa using e2)
    refine ⟨f1 ++ g1, g2, g3, by rw [e]; simp, r, fun F' H' v' t' f2' hF hn hk r' => ?_⟩
    simp only [List.set_cons_succ, TReps]
    refine ⟨f1, g1 ++ f2' ++ g3, by simp, TRep.mono hF t0 v0 f1 (fun b hb => hn b (.inl (List.mem_append_left _ hb))) (fun b o hb => hk b o (hb.imp id fun z => .inl (List.mem_append_left _ z))) h1, ?_⟩
    exact q F' H' v' t' f2' hF (fun b hb => hn b (hb.imp (List.mem_append_right _) id)) (fun b o hb => hk b o (hb.imp id fun z => z.imp (List.mem_append_right _) id)) r'
theorem setSlotT_eq {i : Nat} {t : T} (h : setSlotT ρ i t = some ρ') : ((∃ u, ρ[i]? = some (.ow u)) ∧ ρ' = ρ.set i (.ow t)) ∨ ((∃ u, ρ[i]? = some (.io u)) ∧ ρ' = ρ.set i (.io t)) := by
  unfold setSlotT at h
  split at h
  · rename_i u e; cases h; exact .inl ⟨⟨u, e⟩, rfl⟩
  · rename_i u e; cases h; exact .inr ⟨⟨u, e⟩, rfl⟩
  · cases h
theorem SR.setSlot (S : SR K iov ex F H σ ρ fp) {i : Nat} {y : T} {fq : List Addr} {v : V} (h : setSlotT ρ i y = some ρ') (hv : σ[i]? = some (some v)) (hio : ∀ u, ρ[i]? = some (Slot.io u) → iov i = some v) (hF : ∀ b, F b → F' b) (hn : ∀ j b, j ≠ i → b ∈ fp j → ¬ F' b)
    (hk : ∀ b o, (F b ∨ ∃ j, j ≠ i ∧ b ∈ fp j) → H b = some o → H' b = some o) (ht : ∀ b, F' b → H' b ≠ none) (hy : TRep K F' H' v y fq) (nq : fq.Nodup) (dq : ∀ j b, j ≠ i → b ∈ fp j → b ∉ fq)
    (hal : ∀ (m j l : Nat) (v' : V) (a : Addr) (vs : List V), ρ[m]? = some (Slot.al j l) → j ∉ ex → σ[j]? = some (some (.ref a)) → H a = some (.lst vs) → vs[l]? = some v' → (F a ∨ a ∈ fp j) → ∃ vs', H' a = some (.lst vs') ∧ vs'[l]? = some v' ∧ (F' a ∨ a ∈ updF fp i fq j))
    (hex : ∀ m l : Nat, ρ[m]? = some (Slot.al i l) → i ∉ ex) : SR K iov (ex.filter (· ≠ i)) F' H' σ ρ' (updF fp i fq) := by
  have ei : ∀ {x : Nat}, x ∈ ex.filter (· ≠ i) ↔ x ∈ ex ∧ x ≠ i := by intro x; simp
  have hne : ∀ j, j ≠ i → ρ'[j]? = ρ[j]? := fun j hj => by
    rcases setSlotT_eq h with ⟨_, rfl⟩ | ⟨_, rfl⟩ <;> rw [List.getElem?_set_ne (Ne.symm hj)]
  have hin : ∀ s, ρ'[i]? = some s → (s = .ow y ∨ (s = .io y ∧ iov i = some v)) := fun s e => by
    rcases setSlotT_eq h with ⟨⟨u, hu⟩, rfl⟩ | ⟨⟨u, hu⟩, rfl⟩
    · rw [List.getElem?_set_self (List.getElem?_eq_some_iff.mp hu).1] at e; cases e; exact .inl rfl
    · rw [List.getElem?_set_self (List.getElem?_eq_some_iff.mp hu).1] at e; cases e; exact .inr ⟨rfl, hio u hu⟩
  have hsome : ρ'[i]? ≠ none := by
    rcases setSlotT_eq h with ⟨⟨u, hu⟩, rfl⟩ | ⟨⟨u, hu⟩, rfl⟩ <;> rw [List.getElem?_set_self (List.getElem?_eq_some_iff.mp hu).1] <;> simp
  refine ⟨?_, fun j s e hx => ?_, fun j hj => ?_, fun j e => ?_, fun j => ?_, fun j k b hb hc => ?_, ht⟩
  · rcases setSlotT_eq h with ⟨_, rfl⟩ | ⟨_, rfl⟩ <;> simpa using S.len
  · by_cases hj : j = i
    · subst hj
      rcases hin s e with rfl | ⟨rfl, z⟩
      · exact ⟨v, hv, by rw [updF_same]; exact hy⟩
      · exact ⟨v, hv, z, by rw [updF_same]; exact hy⟩
    · rw [hne j hj] at e
      have hx' : j ∉ ex := fun z => hx (ei.mpr ⟨z, hj⟩)
      have r := S.slot j s e hx'
      have mk : ∀ t v', TRep K F H v' t (fp j) → TRep K F' H' v' t (fp j) := fun t v' r => TRep.mono hF t v' _ (fun b hb => hn j b hj hb) (fun b o hb => hk b o (hb.imp id fun z => ⟨j, hj, z⟩)) r
      cases s with
      | no => rw [SlotR, updF_ne hj]; exact r
      | lk => exact ⟨by rw [updF_ne hj]; exact r.1, r.2⟩
      | ow t => obtain ⟨v', a, r⟩ := r; exact ⟨v', a, by rw [updF_ne hj]; exact mk t v' r⟩
      | io t => obtain ⟨v', a, c, r⟩ := r; exact ⟨v', a, c, by rw [updF_ne hj]; exact mk t v' r⟩
      | al m l =>
        obtain ⟨z, r⟩ := r
        refine ⟨by rw [updF_ne hj]; exact z, ?_⟩
        by_cases hm : m ∈ ex
        · by_cases hmi : m = i
          · subst hmi; exact absurd hm (hex j l e)
          · exact .inl (ei.mpr ⟨hm, hmi⟩)
        · rcases r with r | ⟨v', a, vs, h1, h2, h3, h4, h5⟩
          · exact absurd r hm
          · obtain ⟨vs', q1, q2, q3⟩ := hal j m l v' a vs e hm h2 h3 h4 h5
            exact .inr ⟨v', a, vs', h1, h2, q1, q2, q3⟩
  · have := ei.mp hj; rw [updF_ne this.2]; exact S.exc j this.1
  · by_cases hj : j = i
    · subst hj; exact absurd e hsome
    · rw [updF_ne hj]; rw [hne j hj] at e; exact S.out j e
  · by_cases hj : j = i
    · subst hj; rw [updF_same]; exact nq
    · rw [updF_ne hj]; exact S.nod j
  · by_cases hj : j = i
    · by_cases hkk : k = i
      · rw [hj, hkk]
      · subst hj; rw [updF_same] at hb; rw [updF_ne hkk] at hc; exact absurd hb (dq k b hkk hc)
    · by_cases hkk : k = i
      · subst hkk; rw [updF_same] at hc; rw [updF_ne hj] at hb; exact absurd hc (dq j b hj hb)
      · rw [updF_ne hj] at hb; rw [updF_ne hkk] at hc; exact S.dis j k b hb hc
theorem SR.ioOf (S : SR K iov ex F H σ ρ fp) {i : Nat} {v : V} (hx : i ∉ ex) (hv : σ[i]? = some (some v)) : ∀ u, ρ[i]? = some (Slot.io u) → iov i = some v := fun u e => by
  obtain ⟨v', h1, h2, _⟩ := S.slot i _ e hx
  rw [hv] at h1; cases h1; exact h2
theorem SR.stPt (S : SR K iov [] F H σ ρ fp) {j : Nat} {k : Option Nat} {x y : T} {v : V} (hg : Mv.getPt ρ j k = some x) (r : VR K F H σ (.pt j k) v fpa) (h : Mv.setPt ρ j k y = some ρ') :
    ∃ f1 fq f3, fp j = f1 ++ fq ++ f3 ∧ (k = none → fq = fp j) ∧ TRep K F H v x fq ∧ ∀ F' H' fq', (∀ b, F b → F' b) → (∀ b, F' b → F b ∨ b ∈ fq ∨ H b = none) → (∀ b o, H b = some o → b ∉ fq ∨ H' = H → H' b = some o) → (∀ b, F' b → H' b ≠ none) → TRep K F' H' v y fq' → fq'.Nodup →
      (∀ b ∈ fq', b ∈ fq ∨ ∀ m, b ∉ fp m) → (k = none → ∀ (m l : Nat) (v' : V) (a : Addr) (vs : List V), ρ[m]? = some (Slot.al j l) → v = .ref a → H a = some (.lst vs) → vs[l]? = some v' → ∃ vs', H' a = some (.lst vs') ∧ vs'[l]? = some v' ∧ (F' a ∨ a ∈ fq')) →
      SR K iov [] F' H' σ ρ' (updF fp j (f1 ++ fq' ++ f3)) := by
  have dj := S.nod j
  cases k with
  | none =>
    obtain ⟨v', hv, tr⟩ := S.slT (show slotT ρ[j]? = some x from hg)
    have rv := r.2
    rw [hv] at rv; cases rv
    refine ⟨[], fp j, [], by simp, fun _ => rfl, tr, fun F' H' fq' hF hnew hk ht hy nq hfr hal => ?_⟩
    have off : ∀ m b, m ≠ j → b ∈ fp m → b ∉ fp j := fun m b hm h1 h2 => hm (S.dis m j b h1 h2)
    have e : ([] ++ fq' ++ [] : List Addr) = fq' := by simp
    rw [e]
    refine S.setSlot h hv (S.ioOf (by simp) hv) hF (fun m b hm hb f => ?_) (fun b o hb e => hk b o e (.inl ?_)) ht hy nq (fun m b hm hb hq => ?_) (fun m j' l v2 a vs e1 _ e2 e3 e4 e5 => ?_) (fun _ _ _ => by simp)
    · rcases hnew b f with f | f | f
      · exact (S.fpF m b hb).1 f
      · exact off m b hm hb f
      · exact (S.fpF m b hb).2 f
    · rcases hb with f | ⟨m, hm, f⟩
      · exact fun z => (S.fpF j b z).1 f
      · exact off m b hm f
    · rcases hfr b hq with z | z
      · exact off m b hm hb z
      · exact z m hb
    · by_cases hj : j' = j
      · subst hj
        rw [hv] at e2; cases e2
        rw [updF_same]
        exact hal rfl m l v2 a vs e1 rfl e3 e4
      · rw [updF_ne hj]
        refine ⟨vs, hk a _ e3 (.inl fun z => ?_), e4, e5.imp (hF a) id⟩
        rcases e5 with f | f
        · exact (S.fpF j a z).1 f
        · exact off j' a hj f z
  | some k =>
    unfold Mv.getPt at hg
    cases es : slotT ρ[j]? with
    | none => rw [es] at hg; simp at hg
    | some u =>
      rw [es] at hg
      cases u with
      | fz d => simp at hg
      | tup ts => simp at hg
      | dct ks ts => simp at hg
      | lst ts =>
        have hg : ts[k]? = some x := hg
        obtain ⟨v', hv, tr⟩ := S.slT es
        obtain ⟨_, a, vs, h1, h2, h3⟩ := r
        rw [hv] at h1; cases h1
        simp only [TRep] at tr
        obtain ⟨a', vs', fr, ea, efp, nf, ha, hr⟩ := tr
        cases ea
        rw [h2] at ha; cases ha
        obtain ⟨f1, fq, f3, e3, r3, up⟩ := TReps.upd hr hg h3
        have hset : setSlotT ρ j (.lst (ts.set k y)) = some ρ' := by
          unfold Mv.setPt at h
          rw [es] at h
          have hk := (List.getElem?_eq_some_iff.mp hg).1
          simpa [hk] using h
        have efp' : fp j = a :: (f1 ++ fq ++ f3) := by rw [efp, e3]
        refine ⟨a :: f1, fq, f3, by rw [efp']; simp, (fun z => nomatch z), r3, fun F' H' fq' hF hnew hk ht hy nq hfr _ => ?_⟩
        have nd : (a :: (f1 ++ fq ++ f3)).Nodup := efp' ▸ dj
        have nd2 := List.nodup_cons.mp nd
        have nd3 := List.nodup_append.mp nd2.2
        have nd4 := List.nodup_append.mp nd3.1
        have aq : a ∉ fq := fun z => nd2.1 (by simp [z])
        have q1 : ∀ b, b ∈ f1 → b ∉ fq := fun b hb hq => nd4.2.2 b hb b hq rfl
        have q3 : ∀ b, b ∈ f3 → b ∉ fq := fun b hb hq => nd3.2.2 b (List.mem_append_right _ hq) b hb rfl
        have inj : ∀ b, b ∈ a :: f1 ∨ b ∈ f3 → b ∈ fp j ∧ b ∉ fq := fun b hb => by
          rw [efp']
          rcases hb with hb | hb
          · rcases List.mem_cons.mp hb with rfl | hb
            · exact ⟨by simp, aq⟩
            · exact ⟨by simp [hb], q1 b hb⟩
          · exact ⟨by simp [hb], q3 b hb⟩
        have fqj : ∀ b, b ∈ fq → b ∈ fp j := fun b hb => by rw [efp']; simp [hb]
        have off : ∀ m b, m ≠ j → b ∈ fp m → b ∉ fq := fun m b hm h1 h2 => hm (S.dis m j b h1 (fqj b h2))
        have nf' : ∀ b, b ∈ a :: f1 ∨ b ∈ f3 → ¬ F' b := fun b hb f => by
          have := inj b hb
          rcases hnew b f with f | f | f
          · exact (S.fpF j b this.1).1 f
          · exact this.2 f
          · exact (S.fpF j b this.1).2 f
        have ee : (a :: f1) ++ fq' ++ f3 = a :: (f1 ++ fq' ++ f3) := by simp
        rw [ee]
        have hvs : vs.set k v = vs := by
          apply List.ext_getElem?
          intro n
          by_cases hn : n = k
          · subst hn; rw [List.getElem?_set_self (List.getElem?_eq_some_iff.mp h3).1, h3]
          · rw [List.getElem?_set_ne (Ne.symm hn)]
        refine S.setSlot hset hv (S.ioOf (by simp) hv) hF (fun m b hm hb f => ?_) (fun b o hb e => hk b o e (.inl ?_)) ht ?_ ?_ (fun m b hm hb hq => ?_) (fun m j' l v2 a2 vs2 e1 _ e2 e3 e4 e5 => ?_) (fun _ _ _ => by simp)
        · rcases hnew b f with f | f | f
          · exact (S.fpF m b hb).1 f
          · exact off m b hm hb f
          · exact (S.fpF m b hb).2 f
        · rcases hb with f | ⟨m, hm, f⟩
          · exact fun z => (S.fpF j b (fqj b z)).1 f
          · exact off m b hm f
        · simp only [TRep]
          refine ⟨a, vs, f1 ++ fq' ++ f3, rfl, rfl, nf' a (.inl (by simp)), hk a _ h2 (.inl aq), ?_⟩
          have := up F' H' v y fq' hF (fun b hb => nf' b (hb.imp (List.mem_cons_of_mem _) id)) (fun b o hb e => hk b o e (.inl ?_)) hy
          · rw [hvs] at this; exact this
          · rcases hb with f | f | f
            · exact fun z => (S.fpF j b (fqj b z)).1 f
            · exact q1 b f
            · exact q3 b f
        · -- no address twice
          refine List.nodup_cons.mpr ⟨fun z => ?_, ?_⟩
          · rcases List.mem_append.mp z with z | z
            · rcases List.mem_append.mp z with z | z
              · exact nd2.1 (by simp [z])
              · rcases hfr a z with w | w
                · exact aq w
                · exact w j (by rw [efp']; simp)
            · exact nd2.1 (by simp [z])
          · refine List.nodup_append.mpr ⟨List.nodup_append.mpr ⟨nd4.1, nq, fun b hb c hc e => ?_⟩, nd3.2.1, fun b hb c hc e => ?_⟩
            · subst e
              rcases hfr b hc with w | w
              · exact q1 b hb w
              · exact w j (inj b (.inl (List.mem_cons_of_mem _ hb))).1
            · subst e
              rcases List.mem_append.mp hb with hb | hb
              · exact nd3.2.2 b (List.mem_append_left _ hb) b hc rfl
              · rcases hfr b hb with w | w
                · exact q3 b hc w
                · exact w j (inj b (.inr hc)).1
        · rcases List.mem_cons.mp hq with rfl | hq
          · exact hm (S.dis m j b hb (by rw [efp']; simp))
          · rcases List.mem_append.mp hq with hq | hq
            · rcases List.mem_append.mp hq with hq | hq
              · exact hm (S.dis m j b hb (inj b (.inl (List.mem_cons_of_mem _ hq))).1)
              · rcases hfr b hq with z | z
                · exact off m b hm hb z
                · exact z m hb
            · exact hm (S.dis m j b hb (inj b (.inr hq)).1)
        · by_cases hj : j' = j
          · subst hj
            rw [hv] at e2; cases e2
            rw [updF_same]
            exact ⟨vs2, hk a _ e3 (.inl aq), e4, .inr (by simp)⟩
          · rw [updF_ne hj]
            refine ⟨vs2, hk a2 _ e3 (.inl fun z => ?_), e4, e5.imp (hF a2) id⟩
            rcases e5 with f | f
            · exact (S.fpF j a2 (fqj a2 z)).1 f
            · exact off j' a2 hj f z
theorem SR.lt (S : SR K iov ex F H σ ρ fp) {i : Nat} {s : Slot} (h : ρ[i]? = some s) : i < σ.length := by
  have := (List.getElem?_eq_some_iff.mp h).1; rw [S.len] at this; exact this
theorem SR.rebind (S : SR K iov [] F H σ ρ fp) {i : Nat} {s : Slot} {σ' : L2.St} {fq : List Addr} (hs : ∃ s0, ρ[i]? = some s0) (hl : σ'.length = σ.length) (hσ : ∀ j, j ≠ i → σ'[j]? = σ[j]?) (nq : fq.Nodup) (dq : ∀ j b, j ≠ i → b ∈ fp j → b ∉ fq)
    (hr : SlotR K iov F H σ' [] (updF fp i fq) i s) : SR K iov [] F H σ' ((Mv.kills i none ρ).set i s) (updF fp i fq) := by
  obtain ⟨s0, hs⟩ := hs
  have il : i < (Mv.kills i none ρ).length := by unfold Mv.kills; rw [List.length_map]; exact (List.getElem?_eq_some_iff.mp hs).1
  refine ⟨?_, fun j s' e _ => ?_, fun j hj => (nomatch hj), fun j e => ?_, fun j => ?_, fun j k b hb hc => ?_, S.trk⟩
  · rw [List.length_set, hl]; unfold Mv.kills; rw [List.length_map]; exact S.len
  · by_cases hj : j = i
    · subst hj; rw [List.getElem?_set_self il] at e; cases e; exact hr
    · rw [List.getElem?_set_ne (Ne.symm hj), kills_get] at e
      cases e' : ρ[j]? with
      | none => rw [e'] at e; cases e
      | some sj =>
        rw [e'] at e
        have r := S.slot j sj e' (by simp)
        cases sj with
        | no => cases e; show updF fp i fq j = []; rw [updF_ne hj]; exact r
        | lk => cases e; obtain ⟨z, v, a, c⟩ := r; exact ⟨by rw [updF_ne hj]; exact z, v, by rw [hσ j hj]; exact a, c⟩
        | ow t => cases e; obtain ⟨v, a, r⟩ := r; exact ⟨v, by rw [hσ j hj]; exact a, by rw [updF_ne hj]; exact r⟩
        | io t => cases e; obtain ⟨v, a, c, r⟩ := r; exact ⟨v, by rw [hσ j hj]; exact a, c, by rw [updF_ne hj]; exact r⟩
        | al m l =>
          simp only [Option.map_some, kill] at e
          split at e
          · cases e; show updF fp i fq j = []; rw [updF_ne hj]; exact r.1
          · rename_i hm
            cases e
            have hmi : m ≠ i := fun z => hm ⟨z, Or.inl trivial⟩
            obtain ⟨z, r⟩ := r
            refine ⟨by rw [updF_ne hj]; exact z, ?_⟩
            rcases r with r | ⟨v, a, vs, h1, h2, h3, h4, h5⟩
            · cases r
            · exact .inr ⟨v, a, vs, by rw [hσ j hj]; exact h1, by rw [hσ m hmi]; exact h2, h3, h4, by rw [updF_ne hmi]; exact h5⟩
  · by_cases hj : j = i
    · subst hj; rw [List.getElem?_set_self il] at e; cases e
    · rw [updF_ne hj]; rw [List.getElem?_set_ne (Ne.symm hj), kills_get] at e
      exact S.out j (by cases h : ρ[j]? with | none => rfl | some s => rw [h] at e; cases e)
  · by_cases hj : j = i
    · subst hj; rw [updF_same]; exact nq
    · rw [updF_ne hj]; exact S.nod j
  · by_cases hj : j = i
    · by_cases hkk : k = i
      · rw [hj, hkk]
      · subst hj; rw [updF_same] at hb; rw [updF_ne hkk] at hc; exact absurd hb (dq k b hkk hc)
    · by_cases hkk : k = i
      · subst hkk; rw [updF_same] at hc; rw [updF_ne hj] at hb; exact absurd hc (dq j b hj hb)
      · rw [updF_ne hj] at hb; rw [updF_ne hkk] at hc; exact S.dis j k b hb hc
theorem SR.bind (S : SR K iov [] F H σ ρ fp) {i : Nat} {a : Val} {v : V} (h : bindS ρ i a = some ρ') (r : VR K F H σ a v fpv) (nd : fpv.Nodup) (hd : ∀ j b, b ∈ fp j → b ∉ fpv) : SR K iov [] F H (σ.set i (some v)) ρ' (updF fp i fpv) := by
  unfold bindS at h
  split at h
  · cases h
  · cases h
  · cases h
  · rename_i s0 hs0 _ e0
    have il := S.lt e0
    split at h
    · rename_i t
      cases h
      exact S.rebind ⟨_, e0⟩ (by simp) (fun j hj => by rw [List.getElem?_set_ne (Ne.symm hj)]) nd (fun j b hj hb => hd j b hb) ⟨v, by rw [List.getElem?_set_self il], by rw [updF_same]; exact r⟩
    · rename_i j k
      split at h
      · cases h
      · rename_i hj
        split at h
        · rename_i u hu
          cases h
          obtain ⟨e, a, vs, h1, h2, h3⟩ := r
          subst e
          refine S.rebind ⟨_, e0⟩ (by simp) (fun j hj => by rw [List.getElem?_set_ne (Ne.symm hj)]) List.nodup_nil (fun j b hj hb => hd j b hb) ⟨by rw [updF_same], .inr ⟨v, a, vs, by rw [List.getElem?_set_self il], ?_, h2, h3, .inr ?_⟩⟩
          · rw [List.getElem?_set_ne (fun z => hj z.symm)]; exact h1
          · rw [updF_ne hj]
            unfold Mv.getPt at hu
            cases es : Mv.slotT ρ[j]? with
            | none => rw [es] at hu; simp at hu
            | some w =>
              rw [es] at hu
              cases w with
              | lst ts =>
                obtain ⟨v', hv, tr⟩ := S.slT es
                rw [h1] at hv; cases hv
                simp only [TRep] at tr
                obtain ⟨a', vs', fr, ea, efp, _⟩ := tr
                cases ea; rw [efp]; simp
              | fz d => simp at hu
              | tup ts => simp at hu
              | dct ks ts => simp at hu
        · cases h
    · cases h
theorem SR.move (S : SR K iov [] F H σ ρ fp) {i : Nat} {t : T} (h : ρ[i]? = some (Slot.ow t)) : ∃ v, σ[i]? = some (some v) ∧ TRep K F H v t (fp i) ∧ SR K iov [] F H σ ((Mv.kills i none ρ).set i .no) (updF fp i []) := by
  obtain ⟨v, hv, r⟩ := S.slot i _ h (by simp)
  exact ⟨v, hv, r, S.rebind ⟨_, h⟩ rfl (fun _ _ => rfl) List.nodup_nil (fun _ _ _ _ z => (nomatch z)) (show SlotR K iov F H σ [] (updF fp i []) i .no from updF_same)⟩
theorem updF_le {fp : Fp} {i : Nat} {f : List Addr} (h : ∀ b ∈ f, b ∈ fp i) : ∀ j b, b ∈ updF fp i f j → b ∈ fp j := fun j b hb => by
  by_cases hj : j = i
  · subst hj; rw [updF_same] at hb; exact h b hb
  · rw [updF_ne hj] at hb; exact hb
theorem SR.fzV (S : SR K iov [] F H σ ρ fp) {a : Val} {v : V} {t : T} (h : fzVal ρ a = some (t, ρ')) (r : VR K F H σ a v fpv) : ∃ F' fp', SR K iov [] F' H σ ρ' fp' ∧ (TRep K F H v t fpv ∨ TRep K F' H v t fpv ∧ fpv = []) ∧ Fz F fp F' fp' := by
  cases a with
  | t u => cases h; exact ⟨F, fp, S, .inl r, .refl⟩
  | pt j k =>
    have e : fpv = [] := by cases k <;> exact r.1
    subst e
    unfold fzVal at h
    simp only at h
    split at h
    · cases h
    · rename_i x hx hno
      obtain ⟨ρ1, e1, e2⟩ := Option.map_eq_some_iff.mp h
      cases e2
      obtain ⟨f1, fq, f3, efp, ek, tr, q⟩ := S.stPt hx r e1
      have hin : ∀ b, b ∈ fq → b ∈ fp j := fun b hb => by rw [efp]; simp [hb]
      have tz : TRep K (fun b => F b ∨ b ∈ fq) H v (.fz x.toD) [] := by
        simp only [TRep, true_and]
        exact TRep.fz (fun b hb => .inl hb) x v fq (fun b hb => .inr hb) tr
      refine ⟨fun b => F b ∨ b ∈ fq, _, q (fun b => F b ∨ b ∈ fq) H [] (fun b hb => .inl hb) (fun b hb => hb.imp id .inl) (fun b o e _ => e) (fun b hb => hb.elim (S.trk b) fun z => (S.fpF j b (hin b z)).2) tz List.nodup_nil (fun b hb => (nomatch hb))
        (fun hk0 m l v' a vs w1 w2 e3 e4 => ⟨vs, e3, e4, .inl ?_⟩), .inr ⟨tz, rfl⟩, ⟨fun b hb => .inl hb, fun b hb => hb.imp id fun z => ⟨j, hin b z⟩, updF_le fun b hb => ?_⟩⟩
      · -- the root itself is frozen
        subst hk0 w2
        obtain ⟨_, r'⟩ := S.slot m _ w1 (by simp)
        rcases r' with r' | ⟨v0, a0, vs0, p1, p2, p3, p4, p5⟩
        · cases r'
        · have := r.2
          rw [p2] at this
          cases this
          rw [ek rfl]
          exact p5
      · rw [efp]
        simp only [List.append_nil, List.mem_append] at hb ⊢
        rcases hb with hb | hb
        · exact .inl (.inl hb)
        · exact .inr hb
    · cases h
end
end Mv

end
section
namespace Mv
open PySem PySem.Spec PyProof.Rows L2
theorem exact_tuple_get {P : Program} {w : World} {A : Around} {E : Value → Shared → Prop} {l : Addr} {o : Obj} {s : Shared} {Q : Bool → Shared → Prop} (hl : s.heap.get? l = some o) (hc : o.cls = .type "tuple") (h : Q true s) : wpAny (model P w) A (Builtin.Tuple.tupleIsExact (.ref l)) Q E s := by
  unfold Builtin.Tuple.tupleIsExact
  refine wpAny_bind (wpAny_typeOf (T := "tuple") ⟨o, hl, hc⟩ ?_)
  exact wpAny_pure h
theorem tuple_mul_one (l : Addr) (items : Array Value) (n : Nat) (dd : Option Addr) (sl : Array (Option Value)) (u : Tok) :
    Meets (Builtin.«tuple.__mul__» ⟨[.ref l, .int 1 u], []⟩) (fun _ R s => s.heap.get? l = some { cls := .type "tuple", dict := dd, data := .seq items n, slots := sl } ∧ R (.ok (.ret (Value.ref l))) s) :=
  .of_wp fun prog w A R s h => by
    obtain ⟨hp, g, d, tk, os⟩ := s
    obtain ⟨hl, h⟩ := h
    have f1 := AutoSeq1.idx_int
    wp_walk using AutoSeq1.wpAny_loadPart' hl, exact_tuple_get hl rfl
    repeat (first
      | (refine wpAny_ite_true (by simp) ?_; wp_walk using AutoSeq1.wpAny_loadPart' hl, exact_tuple_get hl rfl)
      | (refine wpAny_ite_false (by decide) ?_; wp_walk using AutoSeq1.wpAny_loadPart' hl, exact_tuple_get hl rfl))
    all_goals first | exact ⟨_, rfl, h⟩ | skip
section
variable {X : Cx}
theorem op_rep1 : OpR X (binaryOp .Mult) (fun x y H Q => ∃ l xs, x = .ref l ∧ y = .int 1 ∧ SqT X.K H l xs ∧ Q (.ref l) H) := by
  intro pins s σ H x y v u Q I rx ry h
  obtain ⟨l, xs, rfl, rfl, hT, q⟩ := h
  cases rx
  obtain ⟨t, rfl⟩ := ry
  obtain ⟨its, r, ⟨⟨cls, dd, data, sl⟩, ho, hc, n, hd⟩, hs⟩ := I.tuple hT
  simp only at hc hd
  subst hc hd
  refine wpAny_binaryOp_repeat_ref (T := "tuple") (U := "int") (by decide) ⟨_, ho, rfl⟩ (fun s' => typeIs_int s' 1 t) noFill_tuple_mul F.fills_int_mul F.slot_int_rmul repeat_tuple F.slot_int_index.lookup ?_
  exact call_meets F.slot_int_rmul (typeIs_int s 1 t) F.entry_int_rmul (F.args_int_rmul_2 _ _) (int_rmul_tuple 1 t l its.toArray n dd sl) ⟨ho, rfl, ⟨_, ho, rfl⟩, call_meets PySem.F.slot_tuple_mul ⟨_, ho, rfl⟩ PySem.F.entry_tuple_mul (PySem.F.args_tuple_mul_2 _ _) (tuple_mul_one l its.toArray n dd sl t) ⟨ho, .ref l, H, I, rfl, q⟩⟩
def rTinD (K : PySem.W.Frag) (g : Bool → Bool) : R2 := fun x y H Q => ∃ d ds, Dp K H x d ∧ Dp K H y (.tuple ds) ∧ SeqAt.shaped d = true ∧ SeqAt.shaped (.list ds) = true ∧ Q (.bl (g (ds.any fun z => PyData.eqv z d))) H
theorem op_tinD (hu : X.A.units + 65 < cLine) : OpR X (compareOp .In) (rTinD X.K id) := by
  rintro pins s σ H x y v u Q I rx ry ⟨d, ds, hd, he, sd, se, q⟩
  obtain ⟨as, r1⟩ := Dp.reads I d x v hd rx
  obtain ⟨bs, r2⟩ := Dp.reads I (.tuple ds) y u he ry
  exact SeqAt.in_tuple_data r2 r1 (PyData.plainAll_of_canLay0 _ (SeqAt.canLay_of_shaped se)) (PyData.plain_of_canLay0 _ (SeqAt.canLay_of_shaped sd)) (room_in_shaped sd hu) ⟨.bl _, H, I, rfl, q⟩
theorem op_tnotInD (hu : X.A.units + 65 < cLine) : OpR X (compareOp .NotIn) (rTinD X.K not) := by
  rintro pins s σ H x y v u Q I rx ry ⟨d, ds, hd, he, sd, se, q⟩
  obtain ⟨as, r1⟩ := Dp.reads I d x v hd rx
  obtain ⟨bs, r2⟩ := Dp.reads I (.tuple ds) y u he ry
  exact SeqAt.notIn_tuple_data r2 r1 (PyData.plainAll_of_canLay0 _ (SeqAt.canLay_of_shaped se)) (PyData.plain_of_canLay0 _ (SeqAt.canLay_of_shaped sd)) (room_in_shaped sd hu) ⟨.bl _, H, I, rfl, q⟩
def rTindexD (K : PySem.W.Frag) : V → List V → Hp → VK → Prop := fun x xs H Q => ∃ (a : Addr) (y : V) (d : PyData) (ds : List PyData) (j : Nat) (z : PyData), x = V.ref a ∧ xs = [y] ∧ Dp K H (V.ref a) (.tuple ds) ∧ Dp K H y d ∧
  SeqAt.shaped (.list ds) = true ∧ SeqAt.shaped d = true ∧ ds[j]? = some z ∧ PyData.eqv z d = true ∧ (∀ (m : Nat) (z' : PyData), m < j → ds[m]? = some z' → PyData.eqv z' d = false) ∧ Q (.int (j : Nat)) H
theorem mt_tindexD (hu : X.A.units + 65 < cLine) : MtR X "tuple.index" (rTindexD X.K) := by
  rintro pins s σ H x xs v us Q I rx rxs ⟨a, y, d, ds, j, z, rfl, rfl, hl, hy, sl, sd, hz, hzj, hno, q⟩
  cases rx
  obtain ⟨uy, rfl, ry⟩ := vals1 rxs
  obtain ⟨bs, r1⟩ := Dp.reads I d y uy hy ry
  obtain ⟨as, r2⟩ := Dp.reads I (.tuple ds) (.ref a) (.ref a) hl rfl
  have pl := PyData.plainAll_of_canLay0 _ (SeqAt.canLay_of_shaped sl)
  have pd := PyData.plain_of_canLay0 _ (SeqAt.canLay_of_shaped sd)
  cases r2 with
  | @tuple _ o items n _ _ ho hc hd h4 =>
    obtain ⟨cls, dd, data, sls⟩ := o
    simp only at hc hd
    subst hc hd
    have hmap := SeqAt.readsAll_map_plain ds items.toList as pl h4
    have hlen : items.size = ds.length := by rw [← hmap, List.length_map]; simp
    have hjd := (List.getElem?_eq_some_iff.mp hz).1
    have at_ : ∀ (m : Nat) (hm : m < items.size) (z' : PyData), ds[m]? = some z' → SeqAt.readOf s.heap items[m] = z' := by
      intro m hm z' hz'
      rw [← hmap, List.getElem?_map, Array.getElem?_toList, Array.getElem?_eq_getElem hm] at hz'
      exact Option.some.inj hz'
    refine call_meets PySem.F.slot_tuple_index ⟨_, ho, rfl⟩ PySem.F.entry_tuple_index (PySem.F.args_tuple_index_2 _ _) (TI.tuple_indexAt a items n dd sls uy (fun u => PyData.eqv (SeqAt.readOf s.heap u) d) j (by omega) ?_ ?_)
      ⟨ho, SeqAt.items_plain h4 r1 pl pd (room_in_shaped sd hu), .int (j : Nat), H, I.tok _, ⟨_, rfl⟩, q⟩
    · show PyData.eqv (SeqAt.readOf s.heap items[j]) d = true
      rw [at_ j (by omega) z hz]; exact hzj
    · intro m hm hmj
      show PyData.eqv (SeqAt.readOf s.heap items[m]) d = false
      rw [at_ m hm _ (List.getElem?_eq_getElem (by omega))]
      exact hno m _ hmj (List.getElem?_eq_getElem (by omega))
theorem op_isB : OpR X (compareOp .Is) (fun x y H Q => ∃ a b, x = V.bl a ∧ y = V.bl b ∧ Q (V.bl (decide (a = b))) H) := by
  rintro pins s σ H x y v u Q I rx ry ⟨a, b, rfl, rfl, q⟩
  cases rx
  cases ry
  cases a <;> cases b <;> exact wpAny_pure (fin_bl I q rfl)
theorem op_notB : OpR X (compareOp .IsNot) (fun x y H Q => ∃ a b, x = V.bl a ∧ y = V.bl b ∧ Q (V.bl (!decide (a = b))) H) := by
  rintro pins s σ H x y v u Q I rx ry ⟨a, b, rfl, rfl, q⟩
  cases rx
  cases ry
  cases a <;> cases b <;> exact wpAny_pure (fin_bl I q rfl)
theorem op_isNB : OpR X (compareOp .Is) (fun x y H Q => ∃ b, x = V.non ∧ y = V.bl b ∧ Q (V.bl false) H) := by
  rintro pins s σ H x y v u Q I rx ry ⟨b, rfl, rfl, q⟩
  cases rx
  cases ry
  cases b <;> exact wpAny_pure (fin_bl I q rfl)
theorem op_notNB : OpR X (compareOp .IsNot) (fun x y H Q => ∃ b, x = V.non ∧ y = V.bl b ∧ Q (V.bl true) H) := by
  rintro pins s σ H x y v u Q I rx ry ⟨b, rfl, rfl, q⟩
  cases rx
  cases ry
  cases b <;> exact wpAny_pure (fin_bl I q rfl)
theorem op_ltD (hu : X.A.units + 65 < cLine) : OpR X (compareOp .Lt) (fun x y H Q => ∃ d e : PyData, Dp X.K H x d ∧ Dp X.K H y e ∧ SeqAt.shaped d = true ∧ SeqAt.shaped e = true ∧ PySem.W.alike d e = true ∧ d ≠ .none ∧ Q (V.bl (PySem.W.dataLt d e)) H) := by
  rintro pins s σ H x y v u Q I rx ry ⟨d, e, hd, he, sd, se, al, dn, q⟩
  obtain ⟨as, r1⟩ := Dp.reads I d x v hd rx
  obtain ⟨bs, r2⟩ := Dp.reads I e y u he ry
  exact PySem.W.lt_data r1 r2 al dn (by have := SeqAt.depth_of_shaped sd; omega) ⟨.bl _, H, I, rfl, q⟩
def rLcountD (K : PySem.W.Frag) : V → List V → Hp → VK → Prop := fun x xs H Q => ∃ (a : Addr) (y : V) (d : PyData) (ds : List PyData), x = V.ref a ∧ xs = [y] ∧ Dp K H (V.ref a) (.list ds) ∧ Dp K H y d ∧
  SeqAt.shaped (.list ds) = true ∧ SeqAt.shaped d = true ∧ Q (.int ((ds.countP fun z => PyData.eqv z d : Nat) : Int)) H
theorem mt_lcountD (hu : X.A.units + 65 < cLine) : MtR X "list.count" (rLcountD X.K) := by
  rintro pins s σ H x xs v us Q I rx rxs ⟨a, y, d, ds, rfl, rfl, hl, hy, sl, sd, q⟩
  cases rx
  obtain ⟨uy, rfl, ry⟩ := vals1 rxs
  obtain ⟨bs, r1⟩ := Dp.reads I d y uy hy ry
  obtain ⟨as, r2⟩ := Dp.reads I (.list ds) (.ref a) (.ref a) hl rfl
  have pl := PyData.plainAll_of_canLay0 _ (SeqAt.canLay_of_shaped sl)
  have pd := PyData.plain_of_canLay0 _ (SeqAt.canLay_of_shaped sd)
  cases r2 with
  | @list _ o items n _ _ ho hc hd h4 =>
    obtain ⟨cls, dd, data, sls⟩ := o
    simp only at hc hd
    subst hc hd
    have hmap := SeqAt.readsAll_map_plain ds items.toList _ pl h4
    have hc : items.toList.countP (fun u => PyData.eqv (SeqAt.readOf s.heap u) d) = ds.countP fun z => PyData.eqv z d := by
      rw [← hmap, List.countP_map]; rfl
    rw [← hc] at q
    exact call_meets PySem.F.slot_list_count ⟨_, ho, rfl⟩ PySem.F.entry_list_count (PySem.F.args_list_count_2 _ _) (SeqAt.list_countAt a items n dd sls uy (fun u => PyData.eqv (SeqAt.readOf s.heap u) d))
      ⟨ho, SeqAt.items_plain h4 r1 pl pd (room_in_shaped sd hu), .int ((items.toList.countP (fun u => PyData.eqv (SeqAt.readOf s.heap u) d) : Nat) : Int), H, I.tok _, ⟨_, rfl⟩, q⟩
theorem ints_reads {H : Hp} {σ : L2.St} {pins : List (Addr × Obj)} {s : Shared} (I : Inv X pins σ H s) {a : Addr} {ns : List Int} (h : SqL X.K H a (ns.map V.int) ∨ SqT X.K H a (ns.map V.int)) :
    ∃ (items : Array Value) (as : List Addr), (s.heap.IsList a items ∨ s.heap.IsTuple a items) ∧ ReadsAll s.heap items.toList (ns.map PyData.int) as ∧ IntsAre items.toList ns := by
  have dp : ∀ ns : List Int, DpAll X.K H (ns.map V.int) (ns.map PyData.int) := by
    intro ns
    induction ns with
    | nil => exact .nil
    | cons n ns ih => exact .cons (.int n) ih
  rcases h with h | h
  · obtain ⟨its, rv, hl, _⟩ := I.list h
    obtain ⟨as, r⟩ := Dp.readsAll I _ _ its (dp ns) rv
    exact ⟨its.toArray, as, .inl hl.isList, by simpa using r, by simpa using rv.ints⟩
  · obtain ⟨its, rv, hl, _⟩ := I.tuple h
    obtain ⟨as, r⟩ := Dp.readsAll I _ _ its (dp ns) rv
    exact ⟨its.toArray, as, .inr hl, by simpa using r, by simpa using rv.ints⟩
theorem alike_int (ns : List Int) : PySem.W.AlikeAll (ns.map PyData.int) := by
  refine ⟨fun x hx y hy => ?_, fun x hx => ?_⟩
  · obtain ⟨a, _, rfl⟩ := List.mem_map.mp hx
    obtain ⟨b, _, rfl⟩ := List.mem_map.mp hy
    simp [PySem.W.alike]
  · obtain ⟨a, _, rfl⟩ := List.mem_map.mp hx
    simp
theorem reads_int {h : Heap} {v : Value} {i : Int} {as : List Addr} (r : Reads h v (.int i) as) : ∃ t, v = .int i t := by
  cases r; exact ⟨_, rfl⟩
theorem room1 (hu : X.A.units + 65 < cLine) (ns : List Int) : X.A.units + 1 + PyData.depthAll (ns.map PyData.int) < cLine := by
  rw [PySem.W.depth_ints]; omega
def rMx (K : PySem.W.Frag) (f : Int → List Int → Int) : List V → Hp → VK → Prop := fun vs H Q => ∃ (a : Addr) (n : Int) (ns : List Int), vs = [V.ref a] ∧ (SqL K H a ((n :: ns).map V.int) ∨ SqT K H a ((n :: ns).map V.int)) ∧ Q (.int (f n ns)) H
theorem cr_maxA (hc : X.calm = true) (hu : X.A.units + 65 < cLine) : CallR X (.builtin "max") (rMx X.K fun n ns => ns.foldl max n) := by
  rintro pins s σ H vs us Q I r ⟨a, n, ns, rfl, hs, q⟩
  rw [Vals.ref1 r]
  obtain ⟨items, as, hl, hr, _⟩ := ints_reads I hs
  rcases hl with hl | hl
  · refine PySem.W.max_list_data (x := .int n) (xs := ns.map PyData.int) (I.ok.hd hc) hl hr (alike_int (n :: ns)) (room1 hu (n :: ns)) fun i v h' tk bs _ rd kk => ?_
    rw [PySem.W.maxD_ints] at rd
    obtain ⟨t, rfl⟩ := reads_int rd
    exact ⟨.int _, H, I.kept kk, ⟨_, rfl⟩, q⟩
  · refine PySem.W.max_tuple_data (x := .int n) (xs := ns.map PyData.int) (I.ok.hd hc) hl hr (alike_int (n :: ns)) (room1 hu (n :: ns)) fun i v h' tk bs _ rd kk => ?_
    rw [PySem.W.maxD_ints] at rd
    obtain ⟨t, rfl⟩ := reads_int rd
    exact ⟨.int _, H, I.kept kk, ⟨_, rfl⟩, q⟩
theorem cr_minA (hc : X.calm = true) (hu : X.A.units + 65 < cLine) : CallR X (.builtin "min") (rMx X.K fun n ns => ns.foldl min n) := by
  rintro pins s σ H vs us Q I r ⟨a, n, ns, rfl, hs, q⟩
  rw [Vals.ref1 r]
  obtain ⟨items, as, hl, hr, _⟩ := ints_reads I hs
  rcases hl with hl | hl
  · refine PySem.W.min_list_data (x := .int n) (xs := ns.map PyData.int) (I.ok.hd hc) hl hr (alike_int (n :: ns)) (room1 hu (n :: ns)) fun i v h' tk bs _ rd kk => ?_
    rw [PySem.W.minD_ints] at rd
    obtain ⟨t, rfl⟩ := reads_int rd
    exact ⟨.int _, H, I.kept kk, ⟨_, rfl⟩, q⟩
  · refine PySem.W.min_tuple_data (x := .int n) (xs := ns.map PyData.int) (I.ok.hd hc) hl hr (alike_int (n :: ns)) (room1 hu (n :: ns)) fun i v h' tk bs _ rd kk => ?_
    rw [PySem.W.minD_ints] at rd
    obtain ⟨t, rfl⟩ := reads_int rd
    exact ⟨.int _, H, I.kept kk, ⟨_, rfl⟩, q⟩
def rMxD (K : PySem.W.Frag) (f : Int → List Int → Int) : List V → List V → Hp → VK → Prop := fun vs zs H Q => ∃ (a : Addr) (d : Int) (ns : List Int), vs = [V.ref a] ∧ zs = [.int d] ∧ (SqL K H a (ns.map V.int) ∨ SqT K H a (ns.map V.int)) ∧
  Q (.int (match ns with | [] => d | n :: ns => f n ns)) H
theorem crk_maxD (hc : X.calm = true) (hu : X.A.units + 65 < cLine) : CallRK X (.builtin "max") [Str.ofString "default"] (rMxD X.K fun n ns => ns.foldl max n) := by
  rintro pins s σ H vs zs us ws Q I r rz ⟨a, d, ns, rfl, rfl, hs, q⟩
  rw [Vals.ref1 r]
  obtain ⟨u, rfl, t0, rfl⟩ := vals1 rz
  obtain ⟨items, as, hl, hr, _⟩ := ints_reads I hs
  have fin0 : ns.map PyData.int = [] → ∀ h' tk, (∀ b o, s.heap.get? b = some o → h'.get? b = some o) → EP X pins σ Q (.int d t0) { s with heap := h', toks := tk } := fun e h' tk kk => by
    rw [List.map_eq_nil_iff] at e; subst e
    exact ⟨.int d, H, I.kept kk, ⟨_, rfl⟩, q⟩
  have fin1 : ∀ (y : PyData) (ys : List PyData) (v : Value) (h' : Heap) (tk : Nat) (bs : List Addr), ns.map PyData.int = y :: ys → Reads h' v (PySem.W.maxD y ys) bs → (∀ b o, s.heap.get? b = some o → h'.get? b = some o) → EP X pins σ Q v { s with heap := h', toks := tk } := fun y ys v h' tk bs e rd kk => by
    cases ns with
    | nil => cases e
    | cons n ns =>
      cases e
      rw [PySem.W.maxD_ints] at rd
      obtain ⟨t, rfl⟩ := reads_int rd
      exact ⟨.int _, H, I.kept kk, ⟨_, rfl⟩, q⟩
  rcases hl with hl | hl
  · exact PySem.W.max_list_default (I.ok.hd hc) hl hr (alike_int ns) (room1 hu ns) fin0 fun y ys i v h' tk bs e _ rd kk => fin1 y ys v h' tk bs e rd kk
  · exact PySem.W.max_tuple_default (I.ok.hd hc) hl hr (alike_int ns) (room1 hu ns) fin0 fun y ys i v h' tk bs e _ rd kk => fin1 y ys v h' tk bs e rd kk
theorem crk_minD (hc : X.calm = true) (hu : X.A.units + 65 < cLine) : CallRK X (.builtin "min") [Str.ofString "default"] (rMxD X.K fun n ns => ns.foldl min n) := by
  rintro pins s σ H vs zs us ws Q I r rz ⟨a, d, ns, rfl, rfl, hs, q⟩
  rw [Vals.ref1 r]
  obtain ⟨u, rfl, t0, rfl⟩ := vals1 rz
  obtain ⟨items, as, hl, hr, _⟩ := ints_reads I hs
  have fin0 : ns.map PyData.int = [] → ∀ h' tk, (∀ b o, s.heap.get? b = some o → h'.get? b = some o) → EP X pins σ Q (.int d t0) { s with heap := h', toks := tk } := fun e h' tk kk => by
    rw [List.map_eq_nil_iff] at e; subst e
    exact ⟨.int d, H, I.kept kk, ⟨_, rfl⟩, q⟩
  have fin1 : ∀ (y : PyData) (ys : List PyData) (v : Value) (h' : Heap) (tk : Nat) (bs : List Addr), ns.map PyData.int = y :: ys → Reads h' v (PySem.W.minD y ys) bs → (∀ b o, s.heap.get? b = some o → h'.get? b = some o) → EP X pins σ Q v { s with heap := h', toks := tk } := fun y ys v h' tk bs e rd kk => by
    cases ns with
    | nil => cases e
    | cons n ns =>
      cases e
      rw [PySem.W.minD_ints] at rd
      obtain ⟨t, rfl⟩ := reads_int rd
      exact ⟨.int _, H, I.kept kk, ⟨_, rfl⟩, q⟩
  rcases hl with hl | hl
  · exact PySem.W.min_list_default (I.ok.hd hc) hl hr (alike_int ns) (room1 hu ns) fin0 fun y ys i v h' tk bs e _ rd kk => fin1 y ys v h' tk bs e rd kk
  · exact PySem.W.min_tuple_default (I.ok.hd hc) hl hr (alike_int ns) (room1 hu ns) fin0 fun y ys i v h' tk bs e _ rd kk => fin1 y ys v h' tk bs e rd kk
end
theorem collect_grows {P : Program} {w : World} {A : Around} {E : Value → Shared → Prop} {s : Shared} {Q : List Value → Shared → Prop} (l : Addr) {T : String} {o : Obj} {items : Array Value} {n : Nat} (hT : T = "list" ∨ T = "tuple") (ho : s.heap.get? l = some o) (hc : o.cls = .type T) (hd : o.data = .seq items n)
    (k : ∀ h1 : Heap, (∀ b u, s.heap.get? b = some u → h1.get? b = some u) → s.heap.objs.size ≤ h1.objs.size → Q items.toList { s with heap := h1 }) (hz : items.size ≤ sizeLine) : wpAny (model P w) A (collect (.ref l)) Q E s := by
  have new0 : (s.heap.push { cls := .type "list", data := .seq ([] : List Value).toArray }).get? s.heap.objs.size = some { cls := .type "list", data := .seq #[] 0 } := Heap.get?_push_size _ rfl
  have new1 := Heap.get?_update_self (Obj.mapSeq (· ++ items)) new0 rfl
  have old0 := Heap.get?_push_of_some { cls := .type "list", data := .seq ([] : List Value).toArray } ho
  unfold collect
  refine wpAny_bind (wpAny_runValue (codeAny_builtin PySem.F.entry_proto_collect ?_))
  rw [Around.under_plainId PySem.F.plain_proto_collect]
  refine wpAny_bind (m := newList []) (wpAny_newObj_type (wpAny_pure ⟨plainId_quiet PySem.F.plain_list_iadd _, codeAny_builtin PySem.F.entry_list_iadd ?_⟩))
  rw [Around.under_plainId PySem.F.plain_list_iadd]
  refine wpAny_mono (wpAny_extend_seq (hsz := hz) (A := A) (R := fun r s' => r = .ok (.ret (.ref s.heap.objs.size)) ∧ s'.heap = (s.heap.push { cls := .type "list", data := .seq ([] : List Value).toArray }).update s.heap.objs.size (Obj.mapSeq (· ++ items)) ∧ s' = { s with heap := s'.heap })
    (s := { s with heap := s.heap.push { cls := .type "list", data := .seq ([] : List Value).toArray } }) _ l _ 0 hT new0 old0 hc hd ⟨rfl, rfl, rfl⟩) (fun fin s' hf => ?_) (fun e s' hf => ?_)
  · have done : ∀ s' : Shared, s'.heap = (s.heap.push { cls := .type "list", data := .seq ([] : List Value).toArray }).update s.heap.objs.size (Obj.mapSeq (· ++ items)) → s' = { s with heap := s'.heap } → wpAny (model P w) A (match Value.ref s.heap.objs.size with
        | Value.ref a => do
          match (← load a).data with
            | Data.seq xs _ => pure xs.toList
            | _ => unsupported "internal:collect"
        | _ => unsupported "internal:collect") Q E s' := fun s' e1 e2 => by
      rw [e2, e1]
      refine wpAny_bind (m := load s.heap.objs.size) (wpAny_load new1 (wpAny_pure ?_))
      show Q ((#[] : Array Value) ++ items).toList _
      rw [show ((#[] : Array Value) ++ items).toList = items.toList by simp]
      refine k _ (fun b u e => ?_) ?_
      · rw [Heap.get?_update_ne _ _ _ _ (Nat.ne_of_lt (Heap.lt_size e))]
        exact Heap.get?_push_of_some _ e
      · rw [Heap.size_update, Heap.size_push]; exact Nat.le_succ _
    cases fin with
    | done f =>
      obtain ⟨e, e1, e2⟩ := hf
      cases e
      exact done s' e1 e2
    | again c' => exact ⟨hf.1, codeAny_mono hf.2 fun r s'' hr => by obtain ⟨rfl, e1, e2⟩ := hr; exact done s'' e1 e2⟩
  · exact absurd hf.1 (by simp)
open PySem.W PySem.Calls in
theorem call_sorted_any {P : Program} {w : World} {A : Around} {E : Value → Shared → Prop} {s : Shared} {l : Addr} {T : String} {o : Obj} {items : Array Value} {n : Nat} {Q : Value → Shared → Prop} (hT : T = "list" ∨ T = "tuple") (ho : s.heap.get? l = some o) (hc : o.cls = .type T) (hd : o.data = .seq items n) (hz : items.size ≤ sizeLine)
    (h : ∀ h1 : Heap, (∀ b o', s.heap.get? b = some o' → h1.get? b = some o') → s.heap.objs.size ≤ h1.objs.size → ∀ E' : Value → Shared → Prop, wpAny (model P w) A.in1.in1 (Builtin.«list.sort» ⟨[.ref h1.objs.size], []⟩) (fun f s' => f = .done (.ret .none) ∧ Q (.ref h1.objs.size) s') E' { s with heap := h1.push (seqObj "list" items 0) }) :
    wpAny (model P w) A (call (.builtin "sorted") [.ref l]) Q E s := by
  refine call_function_entry_kw kind_sorted plain_sorted entry_sorted (args_sorted1 (.ref l)) ?_
  unfold Builtin.«sorted»
  refine wpAny_bind (m := checkCount "sorted" 1 1 _) (wpAny_pure ?_)
  refine wpAny_bind (collect_grows l hT ho hc hd (fun h1 keep1 grow => ?_) hz)
  refine wpAny_bind (wpAny_newList ?_ (by simpa using hz))
  have new1 : (h1.push (seqObj "list" items 0)).get? h1.objs.size = some (seqObj "list" items 0) := Heap.get?_push_size _ rfl
  refine wpAny_bind (wpAny_holding (wpAny_call_entry_kw slot_list_sort ⟨_, new1, rfl⟩ entry_list_sort ?_ (args_list_sort _)))
  refine wpAny_mono (h h1 keep1 grow _) (fun f s' hf => ?_) fun _ _ e => e
  obtain ⟨rfl, hq⟩ := hf
  exact ⟨_, rfl, wpAny_pure ⟨_, rfl, hq⟩⟩
theorem tup_first {d : D} (h : tupB d = true) : ∃ x r, d.toPy = .tuple (x :: r) := by
  unfold tupB at h
  split at h
  · rename_i x r; exact ⟨x.toPy, D.toPys r, by simp only [D.toPy, D.toPys]⟩
  · cases h
theorem ord_first {d : D} (h : ordB d = true) : d.toPy ≠ .none ∧ ∀ xs, d.toPy ≠ .tuple xs := by
  cases d <;> simp [ordB] at h <;> simp [D.toPy]
theorem sortable_of {ds : List D} (h : (ds.all tupB || ds.all ordB) = true) : PySem.W.Sortable (ds.map D.toPy) := by
  rw [Bool.or_eq_true] at h
  rcases h with h | h
  · refine .inl fun d hd => ?_
    obtain ⟨x, hx, rfl⟩ := List.mem_map.mp hd
    exact tup_first (List.all_eq_true.mp h x hx)
  · refine .inr fun d hd => ?_
    obtain ⟨x, hx, rfl⟩ := List.mem_map.mp hd
    exact ord_first (List.all_eq_true.mp h x hx)
mutual
theorem shp_depth : ∀ (d : D) (n : Nat), D.shp n d = true → d.toPy.depth ≤ n
  | .none, n, h => by simp [D.toPy, PyData.depth]
  | .bool _, n, h => by simp [D.toPy, PyData.depth]
  | .int _, n, h => by simp [D.toPy, PyData.depth]
  | .str x, n, h => by simp [D.toPy, PyData.depth]
  | .list xs, 0, h => by simp [D.shp] at h
  | .tup xs, 0, h => by simp [D.shp] at h
  | .list xs, n + 1, h => by
    simp only [D.shp] at h
    have := shps_depth xs n h
    simp only [D.toPy, PyData.depth]; omega
  | .tup xs, n + 1, h => by
    simp only [D.shp] at h
    have := shps_depth xs n h
    simp only [D.toPy, PyData.depth]; omega
  | .dict _ _, n, h => by cases n <;> simp [D.shp] at h
  | .ins _ _, n, h => by cases n <;> simp [D.shp] at h
  | .ltp _, n, h => by cases n <;> simp [D.shp] at h
theorem shps_depth : ∀ (ds : List D) (n : Nat), D.shps n ds = true → PyData.depthAll (D.toPys ds) ≤ n
  | [], n, h => by simp [D.toPys, PyData.depthAll]
  | d :: ds, n, h => by
    have s' : D.shp n d = true ∧ D.shps n ds = true := by cases n <;> simpa [D.shps] using h
    have a := shp_depth d n s'.1
    have b := shps_depth ds n s'.2
    simp only [D.toPys, PyData.depthAll]; omega
end
theorem shps_mem {n : Nat} : ∀ {ds : List D}, D.shps n ds = true → ∀ d ∈ ds, d.shp n = true
  | [], _, d, h => by cases h
  | e :: es, h, d, hd => by
    have s' : D.shp n e = true ∧ D.shps n es = true := by cases n <;> simpa [D.shps] using h
    rcases List.mem_cons.mp hd with rfl | hd
    · exact s'.1
    · exact shps_mem s'.2 d hd
open PySem.W in
theorem cr_sortedD {X : Cx} (hu : X.A.units + 65 < cLine) : CallR X (.builtin "sorted") (fun xs H Q => ∃ (F : Addr → Prop) (a : Addr) (ws : List V) (ds : List D), xs = [.ref a] ∧ (SqL X.K H a ws ∨ SqT X.K H a ws) ∧ sortOk ds = true ∧ RepDs X.K F H ws ds ∧
    ∀ ws' p, RepDs X.K F H ws' (sortD ds) → H p = none → Q (.ref p) (upd H p (.lst ws'))) := by
  rintro pins s σ H vs us Q I r ⟨F, a, ws, ds, rfl, hq, ok, rep, q⟩
  rw [Vals.ref1 r]
  unfold sortOk at ok
  rw [Bool.and_eq_true, Bool.and_eq_true] at ok
  obtain ⟨⟨hshp, hal⟩, hso⟩ := ok
  have hobj : ∃ (its : List Value) (T : String) (o : Obj) (n : Nat), ws.length ≤ sizeLine ∧ Vals ws its ∧ (T = "list" ∨ T = "tuple") ∧ s.heap.get? a = some o ∧ o.cls = .type T ∧ o.data = .seq its.toArray n := by
    rcases hq with hq | hq
    · obtain ⟨its, rv, ⟨o, n, e, k1, k2, k3⟩, hl⟩ := I.list hq
      exact ⟨its, "list", o, n, hl, rv, .inl rfl, e, k1, k3⟩
    · obtain ⟨its, rv, ⟨o, e, k1, n, k3⟩, hl⟩ := I.tuple hq
      exact ⟨its, "tuple", o, n, hl, rv, .inr rfl, e, k1, k3⟩
  obtain ⟨its, T, o, n, hlen, rv, hT, ho, hc, hd⟩ := hobj
  rw [rep.len] at hlen
  have each : ∀ {ws : List V} {its : List Value} {ds : List D}, Vals ws its → RepDs X.K F H ws ds → EachIs (fun v d => ∃ u, RelV u v ∧ RepD X.K F H u d) its ds := by
    intro ws its ds rv
    induction rv generalizing ds with
    | nil =>
      intro h
      cases ds with
      | nil => exact .nil
      | cons _ _ => simp only [RepDs] at h
    | cons r1 _ ih =>
      intro h
      cases ds with
      | nil => simp only [RepDs] at h
      | cons d ds =>
        simp only [RepDs] at h
        exact .cons ⟨_, r1, h.1⟩ (ih h.2)
  have back : ∀ {vs : List Value} {ds : List D}, EachIs (fun v d => ∃ u, RelV u v ∧ RepD X.K F H u d) vs ds → ∃ ws, Vals ws vs ∧ RepDs X.K F H ws ds := by
    intro vs ds h
    induction h with
    | nil => exact ⟨[], .nil, by simp only [RepDs]⟩
    | cons h1 _ ih =>
      obtain ⟨u, r1, p1⟩ := h1
      obtain ⟨ws, r2, p2⟩ := ih
      exact ⟨u :: ws, .cons r1 r2, by simp only [RepDs]; exact ⟨p1, p2⟩⟩
  have ee := each rv rep
  have li : its.length = ds.length := ee.length
  refine call_sorted_any hT ho hc hd (by rw [List.size_toArray, li]; exact hlen) fun h1 keep1 hfr E' => ?_
  have hol : (h1.push (seqObj "list" its.toArray 0)).get? h1.objs.size = some (seqObj "list" its.toArray 0) := Heap.get?_push_size _ rfl
  have keep2 : ∀ b ob, s.heap.get? b = some ob → b ≠ h1.objs.size ∧ (h1.push (seqObj "list" its.toArray 0)).get? b = some ob := fun b ob e => ⟨Nat.ne_of_lt (Heap.lt_size (keep1 b ob e)), Heap.get?_push_of_some _ (keep1 b ob e)⟩
  have er : EachIs (fun v d => ∃ as, Reads (sortingHeap (h1.push (seqObj "list" its.toArray 0)) h1.objs.size its) v (D.toPy d) as) its ds := by
    refine (each_mem ee).mono ?_
    rintro v d ⟨⟨u, r1, p1⟩, hm⟩
    obtain ⟨as, rd⟩ := Dp.reads I d.toPy u v (RD.dp d u 60 (shps_mem hshp d hm) p1.rd) r1
    exact ⟨as, PyProof.Rows.Reads.keeps (fun b ob e => sortingHeap_old (keep2 b ob e).1 (keep2 b ob e).2) rd⟩
  have hall : AllAlike (ds.map D.toPy) := by
    intro x hx y hy
    obtain ⟨d, hdm, rfl⟩ := List.mem_map.mp hx
    obtain ⟨d', hdm', rfl⟩ := List.mem_map.mp hy
    exact List.all_eq_true.mp (List.all_eq_true.mp hal d hdm) d' hdm'
  refine list_sort_vals (s := { s with heap := h1.push (seqObj "list" its.toArray 0) }) (κ := dataKind (sortingHeap (h1.push (seqObj "list" its.toArray 0)) h1.objs.size its) (ds.map D.toPy)) hol
    (SortsAt.data (s := { s with heap := sortingHeap (h1.push (seqObj "list" its.toArray 0)) h1.objs.size its }) (each_map (R := fun v d => ∃ as, Reads (sortingHeap (h1.push (seqObj "list" its.toArray 0)) h1.objs.size its) v d as) D.toPy er) hall (sortable_of hso) ?_) (by rw [li]; exact hlen) ?_
  · intro d hdm
    obtain ⟨x, hx, rfl⟩ := List.mem_map.mp hdm
    have := shp_depth x 60 (shps_mem hshp x hx)
    show X.A.units + 1 + 1 + x.toPy.depth < cLine
    omega
  · refine ⟨rfl, ?_⟩
    obtain ⟨ws', r2, p2⟩ := back (sortVals_data (R := fun v d => ∃ u, RelV u v ∧ RepD X.K F H u d) (enc := D.toPy) false ee er hall)
    obtain ⟨e2, hat⟩ := sortedHeap_at (out := (sortVals (dataKind (sortingHeap (h1.push (seqObj "list" its.toArray 0)) h1.objs.size its) (ds.map D.toPy)) false its its).toArray) hol
    refine ⟨.ref h1.objs.size, upd H h1.objs.size (.lst ws'), I.laid (t' := s.toks) (fun b ob e => ?_) hfr ⟨?_, _, e2, r2, hat⟩, rfl, q ws' _ p2 (I.hok.fresh hfr)⟩
    · exact (sortedHeap_old (keep2 b ob e).1 (Heap.lt_size (keep2 b ob e).2)).trans (keep2 b ob e).2
    · rw [p2.len, (List.mergeSort_perm _ _).length_eq]; exact hlen
section
variable {X : Cx} {pins : List (Addr × Obj)} {σ : L2.St} {H : Hp} {s : Shared}
theorem Inv.tnew {its : List Value} {xs : List V} {h1 : Heap} {tk : Nat} (I : Inv X pins σ H { s with heap := h1, toks := tk }) (hv : Vals xs its) (hz : xs.length ≤ sizeLine) :
    H h1.objs.size = none ∧ Inv X pins σ (upd H h1.objs.size (.frz { cls := .type "tuple", data := .seq its.toArray } (.tup xs))) { s with heap := h1.push { cls := .type "tuple", data := .seq its.toArray }, toks := tk } := by
  refine ⟨I.hok.fresh (Nat.le_refl _), ?_⟩
  exact Inv.laid (s := { s with heap := h1, toks := tk }) (t' := tk) (o := .frz { cls := .type "tuple", data := .seq its.toArray } (.tup xs)) I (fun b u e => Heap.get?_push_of_some _ e) (Nat.le_refl _) ⟨Heap.get?_push_size _ rfl, hz, its, hv, IsTup.new _ _⟩
def TNew (xs : List V) (H : Hp) (Q : VK) : Prop := ∀ p o, H p = none → o.dict = none → Q (.ref p) (upd H p (.frz o (.tup xs)))
theorem pe_tupX {es : List Expr} {t : TA} {x1 : Nat} {pos : Pos} (h : PA X es t) : PE X (.Tuple es x1 pos) (fun σ H Q => t σ H fun xs H1 => xs.length ≤ sizeLine ∧ TNew xs H1 Q) := by
  refine ⟨fun pins s σ H Q I hq => ?_⟩
  refine wpAny_Tuple_spliced (thn (h.run pos pins s σ H _ I hq) fun us s1 ⟨xs, H1, I1, rv, hz, q⟩ => ⟨by rw [← rv.length]; exact hz, ?_⟩)
  obtain ⟨hf, I2⟩ := Inv.tnew (s := s1) (tk := s1.toks) I1 rv hz
  exact ⟨.ref s1.heap.objs.size, _, I2, rfl, q _ _ hf rfl⟩
theorem op_catX : OpR X (binaryOp .Add) (fun x y H Q => ∃ a b xs ys, x = .ref a ∧ y = .ref b ∧ SqT X.K H a xs ∧ SqT X.K H b ys ∧ xs.length + ys.length ≤ sizeLine ∧
    (xs = [] → Q (.ref b) H) ∧ (xs ≠ [] → ys = [] → Q (.ref a) H) ∧ (xs ≠ [] → ys ≠ [] → TNew (xs ++ ys) H Q)) := by
  rintro pins s σ H x y v u Q I rx ry ⟨a, b, xs, ys, rfl, rfl, ha, hb, hz, q0, q1, q2⟩
  cases rx
  cases ry
  obtain ⟨its, rv, p1, _⟩ := I.tuple ha
  obtain ⟨its2, rv2, p2, _⟩ := I.tuple hb
  by_cases hx : xs = []
  · subst hx
    cases rv
    exact cat_tup0 p1 p2 ⟨.ref b, H, I, rfl, q0 rfl⟩
  · refine HT.cat_tup p1 p2 (fun z => hx (rv.nil_iff.mp z)) (fun z => ⟨.ref a, H, I, rfl, q1 hx (rv2.nil_iff.mp z)⟩) (fun z => ?_) (by rw [← rv.length, ← rv2.length]; exact hz)
    obtain ⟨hf, I2⟩ := Inv.tnew (s := s) (tk := s.toks) I (rv.append rv2) (by rw [List.length_append]; exact hz)
    exact ⟨.ref s.heap.objs.size, _, I2, rfl, q2 hx (fun w => z (rv2.nil_iff.mpr w)) _ _ hf rfl⟩
theorem sl_tupX : SlR X (fun x lo hi H Q => ∃ a xs, x = .ref a ∧ SqT X.K H a xs ∧ (HT.sIx xs.length 0 lo = 0 ∧ HT.sIx xs.length xs.length hi = xs.length → Q (.ref a) H) ∧
    (¬ (HT.sIx xs.length 0 lo = 0 ∧ HT.sIx xs.length xs.length hi = xs.length) → TNew (cutV xs lo hi) H Q)) := by
  rintro pins s σ H x v vl vu lo hi sl Q I rx hs pl pu ⟨a, xs, rfl, hx, q1, q2⟩
  cases rx
  obtain ⟨its, rv, ht, hz⟩ := I.tuple hx
  have hlen : its.toArray.size = xs.length := by rw [List.size_toArray]; exact rv.length.symm
  refine ⟨"tuple", _, PyProof.Rows.slot_tuple_getitem.lookup, ht.typeIs, ?_⟩
  by_cases hw : HT.sIx xs.length 0 lo = 0 ∧ HT.sIx xs.length xs.length hi = xs.length
  · exact getItem_tuple_whole ht hs pl pu (by rw [hlen]; exact hw) ⟨.ref a, H, I, rfl, q1 hw⟩
  · refine HT.getItem_tuple_cut ht hs pl pu (by rw [hlen]; exact hw) ?_ (by rw [hlen]; exact hz)
    rw [hlen]
    obtain ⟨hf, I2⟩ := Inv.tnew (s := s) (tk := s.toks) I ((rv.drop (HT.sIx xs.length 0 lo)).take (HT.sIx xs.length xs.length hi - HT.sIx xs.length 0 lo)) (Nat.le_trans (cutV_length xs lo hi) hz)
    exact ⟨.ref s.heap.objs.size, _, I2, rfl, q2 hw _ _ hf rfl⟩
theorem op_repX : OpR X (binaryOp .Mult) (fun x y H Q => ∃ l k xs, x = .ref l ∧ y = .int k ∧ SqT X.K H l xs ∧ xs ≠ [] ∧ 2 ≤ k ∧ k ≤ 1000 ∧ xs.length ≤ 1000 ∧ TNew (List.replicate k.toNat xs).flatten H Q) := by
  rintro pins s σ H x y v u Q I rx ry ⟨l, k, xs, rfl, rfl, hT, hne, h1, h2, hz, q⟩
  cases rx
  obtain ⟨t, rfl⟩ := ry
  obtain ⟨its, rv, ⟨⟨cls, dd, data, sl⟩, ho, hc, n, hd⟩, hs⟩ := I.tuple hT
  simp only at hc hd
  subst hc hd
  have hle : its.length = xs.length := rv.length.symm
  have hpos : 0 < its.length := by rw [hle]; exact List.length_pos_iff.mpr hne
  have hi : its.toArray.isEmpty = false := by
    cases its with
    | nil => cases hpos
    | cons a b => rfl
  have hsz0 : its.toArray.size = its.length := List.size_toArray ..
  have bound : k.toNat * xs.length ≤ 1000000 := Nat.le_trans (Nat.mul_le_mul (show k.toNat ≤ 1000 by omega) hz) (by decide)
  have hm : ((its.toArray.size : Nat) : Int) * k ≤ 1000000 := by
    rw [hsz0, hle, show k = ((k.toNat : Nat) : Int) by omega, ← Int.natCast_mul, Nat.mul_comm]
    exact Int.ofNat_le.mpr bound
  have flen : (List.replicate k.toNat its).flatten.length ≤ sizeLine := by
    rw [PyProof.Rows.lm_len_rep_flat, hle, sizeLine_eq]; omega
  refine wpAny_binaryOp_repeat_ref (T := "tuple") (U := "int") (by decide) ⟨_, ho, rfl⟩ (fun s' => typeIs_int s' k t) noFill_tuple_mul F.fills_int_mul F.slot_int_rmul repeat_tuple F.slot_int_index.lookup ?_
  refine call_meets F.slot_int_rmul (typeIs_int s k t) F.entry_int_rmul (F.args_int_rmul_2 _ _) (int_rmul_tuple k t l its.toArray n dd sl) ⟨ho, rfl, ⟨_, ho, rfl⟩, ?_⟩
  refine call_meets F.slot_tuple_mul ⟨_, ho, rfl⟩ F.entry_tuple_mul (F.args_tuple_mul_2 _ _) (tuple_mulW l its.toArray n dd sl k t ?_ ?_ ?_ (by omega) ?_ (by rw [size_rep, List.size_toArray]; exact flen)) ⟨ho, ?_⟩
  · rw [decide_eq_false (by omega), decide_eq_false (by omega)] <;> rfl
  · rw [hi, Bool.false_or]; exact beq_eq_false_iff_ne.mpr (by omega)
  · rw [hi, Bool.or_false]; exact decide_eq_false (by omega)
  · unfold Builtin.Tuple.tupleTooMany
    rw [sizeLine_eq]; exact decide_eq_false (by omega)
  rw [size_rep]
  obtain ⟨hf, I2⟩ := Inv.tnew (s := s) (tk := s.toks) I (rv.rep k.toNat) (by rw [PyProof.Rows.lm_len_rep_flat, sizeLine_eq]; omega)
  exact ⟨.ref s.heap.objs.size, _, I2, rfl, q _ _ hf rfl⟩
theorem call_tupleX : CallR X (.type "tuple") (fun xs H Q => ∃ p ys, xs = [.ref p] ∧ ((SqL X.K H p ys ∧ TNew ys H Q) ∨ (SqT X.K H p ys ∧ Q (.ref p) H))) := by
  rintro pins s σ H xs us Q I r ⟨p, ys, rfl, h⟩
  rw [Vals.ref1 r]
  rcases h with ⟨hq, q⟩ | ⟨hq, q⟩
  · obtain ⟨its, rv, pl, hz⟩ := I.list hq
    have hlen := rv.length
    refine call_tuple_list pl.isList (fun h1 kp => ?_) (by simp only [List.size_toArray]; omega)
    have I1 : Inv X pins σ H { s with heap := h1, toks := s.toks } := I.kept (t' := s.toks) kp
    obtain ⟨hf, I2⟩ := Inv.tnew (s := s) (tk := s.toks) I1 rv hz
    exact ⟨.ref h1.objs.size, _, I2, rfl, q _ _ hf rfl⟩
  · obtain ⟨its, rv, pl, hz⟩ := I.tuple hq
    exact call_tuple_same pl ⟨.ref p, H, I, rfl, q⟩
def ExT (K : PySem.W.Frag) (H : Hp) (x : V) : Prop := ∃ a o, x = .ref a ∧ o.dict = none ∧ ((∃ xs, H a = some (.frz o (.tup xs))) ∨ (K.lookup a = some o ∧ o.cls = .type "tuple"))
theorem exT_is {x : V} {v : Value} (I : Inv X pins σ H s) (r : RelV x v) (h : ExT X.K H x) : s.TypeIs v "tuple" ∧ ∀ a, v = .ref a → ∃ ob, s.heap.get? a = some ob ∧ ob.dict = none := by
  obtain ⟨a, o, rfl, hd, h⟩ := h
  cases r
  rcases h with ⟨xs, h⟩ | ⟨h, hc⟩
  · obtain ⟨e1, _, its, _, ob, e2, hc, _⟩ := I.hok a _ h
    rw [e1] at e2; cases e2
    exact ⟨⟨o, e1, hc⟩, fun b e => by cases e; exact ⟨o, e1, hd⟩⟩
  · exact ⟨⟨o, I.kIn a o h, hc⟩, fun b e => by cases e; exact ⟨o, I.kIn a o h, hd⟩⟩
theorem pe_bmX {o e : Expr} {es : List Expr} {to : TE} {t : TA} {name : Str} {apos cpos : Pos} {id : String} {r : V → List V → Hp → VK → Prop} (slot : PySem.Slot "tuple" name id) (hty : typeOf (.builtin id) = pure (.type "method_descriptor")) (hm : MtR X id r) (ho : PE X o to) (ha : PA X (e :: es) t)
    (hbase : attributeBase o name X.env (eval o X.env) = eval o X.env)
    (hfew : ((backTo cpos (starEach (e :: es) X.env)).all (fun x => !x.1) && (backToKw cpos (keywordEach [] X.env)).all (fun x => x.1.isSome)
      && decide ((e :: es).length + ([] : List Keyword).length + (if ([] : List Keyword).isEmpty then 0 else 1) < 30)) = true)
    (hline : (apos.endLine == cpos.line) = true) (hs : starEach (e :: es) X.env = (false, eval e X.env) :: starEach es X.env) (hplain : (backTo cpos (starEach es X.env)).any (·.1) = false) :
    PE X (.Call (.Attribute o name apos) (e :: es) [] cpos) (fun σ H Q => to σ H fun x H1 => ExT X.K H1 x ∧ t σ H1 fun xs H2 => r x xs H2 Q) := by
  refine ⟨fun pins s σ H Q I h => ?_⟩
  refine wpAny_Call_method_late hbase hfew hline rfl (thn (ho.run pins s σ H _ I h) fun v s1 ⟨x, H1, I1, r1, ty, q1⟩ => ?_)
  obtain ⟨g1, g2⟩ := exT_is I1 r1 ty
  refine ⟨"tuple", id, PySem.F.plainAttrs_tuple, slot, hty, g1, g2, ?_⟩
  have run := ha.run cpos pins s1 σ H1 _ I1 q1
  rw [hs] at run ⊢
  refine Calls.callWith_builtin (by show (false || (backTo cpos (starEach es X.env)).any (·.1)) = false; rw [hplain] <;> rfl) (Calls.evalArgs_plain ?_)
  exact thn run fun us s2 ⟨vs, H2, I2, r2, q2⟩ => hm pins s2 σ H2 x vs v us Q I2 r1 r2 q2
end
end Mv

end
section
namespace Mv
open PySem PySem.Spec PyProof.Rows L2
section
variable {X : Cx} {K : PySem.W.Frag} {F F' : Addr → Prop} {H H' : Hp} {fa fb : List Addr} {t x y : T} {v vx vy : V}
theorem bits_okI {i : Int} (h : okI i = true) : Builtin.Int.intBits i ≤ 8192 := intBits_le (of_decide_eq_true h)
theorem log2_okI {i : Int} (h : okI i = true) : i.natAbs.log2 < 9000 := Nat.lt_of_lt_of_le (PySem.Flt.log2_lt_of (by decide : 0 < 8192) (of_decide_eq_true h)) (by decide)
def R2P (K : PySem.W.Frag) (x y t : T) : R2 := fun vx vy H Q => ∃ F fa fb, TRep K F H vx x fa ∧ TRep K F H vy y fb ∧ ∀ v H', PureRes K F H t v H' → Q v H'
theorem trep_int {i : Int} (h : TRep K F H v (.fz (.int i)) fa) : v = .int i := by simpa only [TRep, RepD] using h.2
theorem trep_str {i : Str} (h : TRep K F H v (.fz (.str i)) fa) : v = .str i := by simpa only [TRep, RepD] using h.2
theorem trep_bool {i : Bool} (h : TRep K F H v (.fz (.bool i)) fa) : v = .bl i := by simpa only [TRep, RepD] using h.2
theorem trep_none (h : TRep K F H v (.fz .none) fa) : v = .non := by simpa only [TRep, RepD] using h.2
theorem res_int {i : Int} : PureRes K F H (.fz (.int i)) (.int i) H := .same (by simp only [RepD])
theorem res_str {i : Str} : PureRes K F H (.fz (.str i)) (.str i) H := .same (by simp only [RepD])
theorem res_bool {i : Bool} : PureRes K F H (.fz (.bool i)) (.bl i) H := .same (by simp only [RepD])
theorem upd_keep {p : Addr} {o : HO} (hp : H p = none) : ∀ b u, H b = some u → upd H p o b = some u := fun b u e => by rw [upd_ne (ne_of_none e hp)]; exact e
theorem RepDs.append : ∀ {ds es : List D} {vs ws : List V}, RepDs K F H vs ds → RepDs K F H ws es → RepDs K F H (vs ++ ws) (ds ++ es)
  | [], _, [], _, _, h => h
  | [], _, _ :: _, _, h, _ => by simp only [RepDs] at h
  | _ :: _, _, [], _, h, _ => by simp only [RepDs] at h
  | d :: ds, es, v :: vs, ws, h, h2 => by
    simp only [RepDs] at h
    simp only [List.cons_append, RepDs]
    exact ⟨h.1, RepDs.append h.2 h2⟩
theorem RepDs.get : ∀ {ds : List D} {vs : List V} {k : Nat} {d : D}, RepDs K F H vs ds → ds[k]? = some d → ∃ v, vs[k]? = some v ∧ RepD K F H v d
  | [], _, _, _, _, e => by simp at e
  | _ :: _, [], _, _, h, _ => by simp only [RepDs] at h
  | d :: ds, v :: vs, 0, d', h, e => by simp only [RepDs] at h; simp at e; subst e; exact ⟨v, rfl, h.1⟩
  | d :: ds, v :: vs, k + 1, d', h, e => by
    simp only [RepDs] at h
    obtain ⟨v', a, b⟩ := RepDs.get (k := k) h.2 (by simpa using e)
    exact ⟨v', by simpa using a, b⟩
theorem RepDs.drop : ∀ (n : Nat) {ds : List D} {vs : List V}, RepDs K F H vs ds → RepDs K F H (vs.drop n) (ds.drop n)
  | 0, _, _, h => h
  | n + 1, [], [], h => h
  | n + 1, [], _ :: _, h => by simp only [RepDs] at h
  | n + 1, _ :: _, [], h => by simp only [RepDs] at h
  | n + 1, d :: ds, v :: vs, h => by simp only [RepDs] at h; exact RepDs.drop n h.2
theorem RepDs.take : ∀ (n : Nat) {ds : List D} {vs : List V}, RepDs K F H vs ds → RepDs K F H (vs.take n) (ds.take n)
  | 0, _, _, h => by simp only [List.take_zero, RepDs]
  | n + 1, [], [], h => by simp only [List.take_nil, RepDs]
  | n + 1, [], _ :: _, h => by simp only [RepDs] at h
  | n + 1, _ :: _, [], h => by simp only [RepDs] at h
  | n + 1, d :: ds, v :: vs, h => by simp only [RepDs] at h; simp only [List.take_succ_cons, RepDs]; exact ⟨h.1, RepDs.take n h.2⟩
theorem RepDs.rep (n : Nat) {ds : List D} {vs : List V} (h : RepDs K F H vs ds) : RepDs K F H (List.replicate n vs).flatten (List.replicate n ds).flatten := by
  induction n with
  | zero => simp only [List.replicate_zero, List.flatten_nil, RepDs]
  | succ n ih => simp only [List.replicate_succ, List.flatten_cons]; exact h.append ih
theorem TReps.fzs : ∀ {ds : List D} {vs : List V}, TReps K F H vs (Mv.fzs ds) fa ↔ fa = [] ∧ RepDs K F H vs ds := by
  intro ds
  induction ds generalizing fa with
  | nil => intro vs; cases vs <;> simp [Mv.fzs, TReps, RepDs]
  | cons d ds ih =>
    intro vs
    cases vs with
    | nil => simp [Mv.fzs, TReps, RepDs]
    | cons v vs =>
      have e : Mv.fzs (d :: ds) = .fz d :: Mv.fzs ds := rfl
      rw [e]
      simp only [TReps, RepDs, TRep]
      constructor
      · rintro ⟨f1, f2, rfl, ⟨rfl, h1⟩, h2⟩
        obtain ⟨rfl, h3⟩ := ih.mp h2
        exact ⟨rfl, h1, h3⟩
      · rintro ⟨rfl, h1, h2⟩
        exact ⟨[], [], rfl, ⟨rfl, h1⟩, ih.mpr ⟨rfl, h2⟩⟩
theorem unfzs_eq : ∀ {ts : List T} {ds : List D}, T.unfzs ts = some ds → ts = Mv.fzs ds
  | [], ds, h => by cases h; rfl
  | t :: ts, ds, h => by
    unfold T.unfzs at h
    cases t with
    | fz d =>
      cases e : T.unfzs ts with
      | none => rw [e] at h; simp [T.unfz] at h
      | some es =>
        rw [e] at h
        simp [T.unfz] at h
        subst h
        rw [unfzs_eq e]; rfl
    | lst ts => simp [T.unfz] at h
    | tup ts => simp [T.unfz] at h
    | dct ks ts => simp [T.unfz] at h
theorem res_fl {ds : List D} {vs : List V} {p : Addr} (hp : H p = none) (hF : ∀ b, F b → H b ≠ none) (h : RepDs K F H vs ds) : PureRes K F H (.fl ds) (.ref p) (upd H p (.lst vs)) := by
  refine ⟨F, [p], fun _ h => h, fun b h => .inl h, upd_keep hp, ?_, fun b hb => ?_, by simp⟩
  · unfold T.fl
    simp only [TRep]
    exact ⟨p, vs, [], rfl, rfl, fun f => hF p f hp, upd_same, TReps.fzs.mpr ⟨rfl, RepDs.mono (fun _ h => h) (fun a o _ e => upd_keep hp a o e) ds vs h⟩⟩
  · rw [List.mem_singleton.mp hb]; exact hp
theorem res_tup {ds : List D} {vs : List V} {p : Addr} {o : Obj} (hp : H p = none) (ho : o.dict = none) (h : RepDs K F H vs ds) : PureRes K F H (.fz (.tup ds)) (.ref p) (upd H p (.frz o (.tup vs))) := by
  refine ⟨fun b => F b ∨ b = p, [], fun _ h => .inl h, fun b h => h.imp id fun z => ⟨by rw [z]; exact hp, by rw [z, upd_same]; simp⟩, upd_keep hp, ?_, fun b hb => (nomatch hb), List.nodup_nil⟩
  simp only [TRep, true_and, RepD]
  exact ⟨p, vs, rfl, .inl ⟨.inr rfl, o, ho, upd_same⟩, RepDs.mono (fun _ h => .inl h) (fun a o _ e => upd_keep hp a o e) ds vs h⟩
theorem res_ltp {ds : List D} {vs : List V} {p : Addr} (hp : H p = none) (h : RepDs K F H vs ds) : PureRes K F H (.fz (.ltp ds)) (.ref p) (upd H p (.tup vs)) := by
  refine ⟨fun b => F b ∨ b = p, [], fun _ h => .inl h, fun b h => h.imp id fun z => ⟨by rw [z]; exact hp, by rw [z, upd_same]; simp⟩, upd_keep hp, ?_, fun b hb => (nomatch hb), List.nodup_nil⟩
  simp only [TRep, true_and, RepD]
  exact ⟨p, vs, rfl, .inr rfl, .inl upd_same, RepDs.mono (fun _ h => .inl h) (fun a o _ e => upd_keep hp a o e) ds vs h⟩
theorem flat_rep {ds : List D} (e : x.flat = some ds) (h : TRep K F H vx x fa) : ∃ a vs, vx = .ref a ∧ SqL K H a vs ∧ RepDs K F H vs ds := by
  unfold T.flat at e
  split at e
  · cases e
    simp only [TRep, RepD] at h
    obtain ⟨_, a, vs, rfl, hl, hr⟩ := h
    exact ⟨a, vs, rfl, hl.sq, hr⟩
  · rename_i ts
    rw [unfzs_eq e] at h
    simp only [TRep] at h
    obtain ⟨a, vs, fq, rfl, rfl, nf, ha, hr⟩ := h
    exact ⟨a, vs, rfl, .inl (.inl ha), (TReps.fzs.mp hr).2⟩
  · cases e
theorem op_catR : OpR X (binaryOp .Add) (fun x y H Q => ∃ l b xs zs, x = .ref l ∧ y = .ref b ∧ SqL X.K H l xs ∧ SqL X.K H b zs ∧ xs.length + zs.length ≤ sizeLine ∧ ∀ p, H p = none → Q (.ref p) (upd H p (.lst (xs ++ zs)))) := by
  intro pins s σ H x y v u Q I rx ry h
  obtain ⟨l, b, xs, zs, rfl, rfl, hH, hB, hz, q⟩ := h
  cases rx
  cases ry
  obtain ⟨its, r, ⟨⟨c1, g1, d1, s1⟩, n, e, k1, k2, k3⟩, hl⟩ := I.list hH
  obtain ⟨its2, r2, ⟨⟨c2, g2, d2, s2⟩, n2, e2, m1, m2, m3⟩, hl2⟩ := I.list hB
  simp only at k1 k2 k3 m1 m2 m3
  subst k1 k2 k3 m1 m2 m3
  have l1 := r.length
  have l2 := r2.length
  refine concat_meets ⟨_, e, rfl⟩ ⟨_, e2, rfl⟩ noFill_list_add seq_list_add PySem.F.slot_list_add PySem.F.entry_list_add (PySem.F.args_list_add_2 _ _) (list_addW l b its.toArray its2.toArray n n2 none none s1 s2 (by rw [List.size_toArray, List.size_toArray]; omega)) ⟨e, e2, ?_⟩
  have ea : its.toArray ++ its2.toArray = (its ++ its2).toArray := by simp
  rw [ea]
  exact ⟨.ref _, _, I.lnew (t' := s.toks) (r.append r2) (by rw [List.length_append]; omega), rfl, q _ I.fresh⟩
theorem OpR.mono' {f : Value → Value → Sem Value} {r r' : R2} (h : OpR X f r) (k : ∀ x y H Q, r' x y H Q → r x y H Q) : OpR X f r' := fun pins s σ H x y v u Q I rx ry q => h pins s σ H x y v u Q I rx ry (k _ _ _ _ q)
def R2T (K : PySem.W.Frag) (x y t : T) : R2 := fun vx vy H Q => ∃ F fa fb, (∀ b, F b → H b ≠ none) ∧ TRep K F H vx x fa ∧ TRep K F H vy y fb ∧ ∀ v H', PureRes K F H t v H' → Q v H'
theorem okLen_le {n : Nat} (h : okLen n = true) : n ≤ sizeLine := of_decide_eq_true h
theorem op_addT {x y t : T} (h : addT x y = some t) : OpR X (binaryOp .Add) (R2T X.K x y t) := by
  unfold addT at h
  split at h
  · cases h
    refine OpR.mono' op_add ?_
    rintro vx vy H Q ⟨F, fa, fb, hF, hx, hy, q⟩
    exact ⟨_, _, trep_int hx, trep_int hy, q _ _ res_int⟩
  · split at h
    · rename_i hl
      cases h
      refine OpR.mono' op_add_str ?_
      rintro vx vy H Q ⟨F, fa, fb, hF, hx, hy, q⟩
      exact ⟨_, _, trep_str hx, trep_str hy, okLen_le hl, q _ _ res_str⟩
    · cases h
  · rename_i xs ys
    split at h
    · rename_i hl
      cases h
      refine OpR.mono' op_catX ?_
      rintro vx vy H Q ⟨F, fa, fb, hF, hx, hy, q⟩
      simp only [TRep, RepD] at hx hy
      obtain ⟨_, a, vs, rfl, hl1, hr1⟩ := hx
      obtain ⟨_, b, ws, rfl, hl2, hr2⟩ := hy
      have e1 := hr1.len
      have e2 := hr2.len
      refine ⟨a, b, vs, ws, rfl, rfl, hl1.sq, hl2.sq, by rw [e1, e2]; exact okLen_le hl, fun e => ?_, fun _ e => ?_, fun _ _ p o hp ho => q _ _ (res_tup hp ho (hr1.append hr2))⟩
      · subst e
        have : xs = [] := List.eq_nil_of_length_eq_zero e1.symm
        subst this
        exact q _ _ (.same (by simp only [List.nil_append, RepD]; exact ⟨b, ws, rfl, hl2, hr2⟩))
      · subst e
        have : ys = [] := List.eq_nil_of_length_eq_zero e2.symm
        subst this
        exact q _ _ (.same (by simp only [List.append_nil, RepD]; exact ⟨a, vs, rfl, hl1, hr1⟩))
    · cases h
  · split at h
    · rename_i xs ys ex ey
      split at h
      · rename_i hl
        cases h
        refine OpR.mono' op_catR ?_
        rintro vx vy H Q ⟨F, fa, fb, hF, hx, hy, q⟩
        obtain ⟨a, vs, rfl, h1, r1⟩ := flat_rep ex hx
        obtain ⟨b, ws, rfl, h2, r2⟩ := flat_rep ey hy
        exact ⟨a, b, vs, ws, rfl, rfl, h1, h2, by rw [r1.len, r2.len]; exact okLen_le hl, fun p hp => q _ _ (res_fl hp hF (r1.append r2))⟩
      · cases h
    · cases h
theorem op_mulT {x y t : T} (h : mulT x y = some t) : OpR X (binaryOp .Mult) (R2T X.K x y t) := by
  unfold mulT at h
  split at h
  · split at h
    · rename_i i j hl
      cases h
      rw [Bool.and_eq_true] at hl
      refine OpR.mono' op_mulX ?_
      rintro vx vy H Q ⟨F, fa, fb, hF, hx, hy, q⟩
      refine ⟨_, _, trep_int hx, trep_int hy, ?_, q _ _ res_int⟩
      have := bits_okI hl.1
      have := bits_okI hl.2
      unfold CMulX; omega
    · cases h
  · rename_i ts j
    split at h
    · rename_i ds e
      split at h
      · rename_i hl
        cases h
        simp only [Bool.and_eq_true, decide_eq_true_eq] at hl
        refine OpR.mono' op_rep ?_
        rintro vx vy H Q ⟨F, fa, fb, hF, hx, hy, q⟩
        rw [unfzs_eq e] at hx
        simp only [TRep] at hx
        obtain ⟨a, vs, fq, rfl, rfl, nf, ha, hr⟩ := hx
        have r := (TReps.fzs.mp hr).2
        exact ⟨a, j, vs, rfl, trep_int hy, ha, hl.1.1, hl.1.2, by rw [r.len]; exact okLen_le hl.2, fun p hp => q _ _ (res_fl hp hF (r.rep _))⟩
      · cases h
    · cases h
  · rename_i ds j
    split at h
    · rename_i hl
      cases h
      simp only [Bool.and_eq_true, decide_eq_true_eq] at hl
      by_cases h1 : j = 1
      · subst h1
        refine OpR.mono' op_rep1 ?_
        rintro vx vy H Q ⟨F, fa, fb, hF, hx, hy, q⟩
        simp only [TRep, RepD] at hx
        obtain ⟨_, a, vs, rfl, ht, hr⟩ := hx
        refine ⟨a, vs, rfl, trep_int hy, ht.sq, q _ _ (.same ?_)⟩
        simp only [RepD]
        refine ⟨a, vs, rfl, ht, ?_⟩
        rw [show (List.replicate (1 : Int).toNat ds).flatten = ds by simp]
        exact hr
      · refine OpR.mono' op_repX ?_
        rintro vx vy H Q ⟨F, fa, fb, hF, hx, hy, q⟩
        simp only [TRep, RepD] at hx
        obtain ⟨_, a, vs, rfl, ht, hr⟩ := hx
        have e1 := hr.len
        refine ⟨a, j, vs, rfl, trep_int hy, ht.sq, fun e => ?_, by omega, hl.1.1.2, by omega, fun p o hp ho => q _ _ (res_tup hp ho (hr.rep _))⟩
        rw [e] at e1
        simp at e1
        omega
    · cases h
  · cases h
theorem op_arT {op : Operator} {x y t : T} (h : arT op x y = some t) : OpR X (binaryOp op) (R2T X.K x y t) := by
  unfold arT at h
  split at h
  · rename_i i j
    obtain ⟨k, e, rfl⟩ := Option.map_eq_some_iff.mp h
    unfold intOp at e
    split at e
    · cases e
      refine OpR.mono' op_add ?_
      rintro vx vy H Q ⟨F, fa, fb, hF, hx, hy, q⟩
      exact ⟨_, _, trep_int hx, trep_int hy, q _ _ res_int⟩
    · cases e
      refine OpR.mono' op_sub ?_
      rintro vx vy H Q ⟨F, fa, fb, hF, hx, hy, q⟩
      exact ⟨_, _, trep_int hx, trep_int hy, q _ _ res_int⟩
    · exact op_mulT (by unfold mulT; simp only; split at e <;> cases e; rename_i hh; rw [if_pos hh])
    · split at e
      · rename_i hl
        cases e
        simp only [Bool.and_eq_true, decide_eq_true_eq] at hl
        refine OpR.mono' op_fdivW ?_
        rintro vx vy H Q ⟨F, fa, fb, hF, hx, hy, q⟩
        exact ⟨_, _, trep_int hx, trep_int hy, ⟨hl.1, log2_okI hl.2⟩, q _ _ res_int⟩
      · cases e
    · split at e
      · rename_i hl
        cases e
        refine OpR.mono' op_mod ?_
        rintro vx vy H Q ⟨F, fa, fb, hF, hx, hy, q⟩
        exact ⟨_, _, trep_int hx, trep_int hy, of_decide_eq_true hl, q _ _ res_int⟩
      · cases e
    · split at e
      · rename_i hl
        cases e
        simp only [Bool.and_eq_true, decide_eq_true_eq] at hl
        have hp : OpR X (binaryOp .Pow) (rI (fun i j => 0 ≤ j ∧ (Builtin.Int.intBits i : Int) * j ≤ 2 ^ 27) fun i j => .int (i ^ j.toNat)) := opI fun _ _ _ _ _ _ _ hc q => pow_int hc.1 hc.2 q
        refine OpR.mono' hp ?_
        rintro vx vy H Q ⟨F, fa, fb, hF, hx, hy, q⟩
        refine ⟨_, _, trep_int hx, trep_int hy, ⟨hl.1.1, ?_⟩, q _ _ res_int⟩
        have b := bits_okI hl.2
        have : (Builtin.Int.intBits i : Int) * j ≤ 8192 * 1000 := Int.mul_le_mul (by omega) hl.1.2 hl.1.1 (by omega)
        omega
      · cases e
    · cases e
  · cases h
theorem op_binT {op : Operator} {x y t : T} (h : binT op x y = some t) : OpR X (binaryOp op) (R2T X.K x y t) := by
  unfold binT at h
  split at h
  · exact op_addT h
  · exact op_mulT h
  · exact op_arT h
end
end Mv

end
section
namespace Mv
open PySem PySem.Spec PyProof.Rows L2
section
variable {X : Cx} {K : PySem.W.Frag} {F F' : Addr → Prop} {H H' : Hp} {fa fb : List Addr} {t x y : T} {v vx vy : V} {b : Bool}
mutual
theorem shp_lay : ∀ (d : D) (n : Nat), D.shp n d = true → d.toPy.canLay0 = true ∧ d.toPy.depth ≤ n
  | .none, n, h => by simp [D.toPy, PyData.canLay0, PyData.depth]
  | .bool _, n, h => by simp [D.toPy, PyData.canLay0, PyData.depth]
  | .int _, n, h => by simp [D.toPy, PyData.canLay0, PyData.depth]
  | .str x, n, h => by
    have : PyData.strOk x = true := by cases n <;> simpa only [D.shp] using h
    simp [D.toPy, PyData.canLay0, PyData.depth, this]
  | .list xs, 0, h => by simp [D.shp] at h
  | .tup xs, 0, h => by simp [D.shp] at h
  | .list xs, n + 1, h => by
    simp only [D.shp] at h
    obtain ⟨a, b⟩ := shps_lay xs n h
    simp only [D.toPy, PyData.canLay0, PyData.depth]
    exact ⟨a, by omega⟩
  | .tup xs, n + 1, h => by
    simp only [D.shp] at h
    obtain ⟨a, b⟩ := shps_lay xs n h
    simp only [D.toPy, PyData.canLay0, PyData.depth]
    exact ⟨a, by omega⟩
  | .dict _ _, n, h => by cases n <;> simp [D.shp] at h
  | .ins _ _, n, h => by cases n <;> simp [D.shp] at h
  | .ltp _, n, h => by cases n <;> simp [D.shp] at h
theorem shps_lay : ∀ (ds : List D) (n : Nat), D.shps n ds = true → PyData.canLayAll0 (D.toPys ds) = true ∧ PyData.depthAll (D.toPys ds) ≤ n
  | [], n, h => by simp [D.toPys, PyData.canLayAll0, PyData.depthAll]
  | d :: ds, n, h => by
    have s' : D.shp n d = true ∧ D.shps n ds = true := by cases n <;> simpa [D.shps] using h
    obtain ⟨a, b⟩ := shp_lay d n s'.1
    obtain ⟨a', b'⟩ := shps_lay ds n s'.2
    simp only [D.toPys, PyData.canLayAll0, PyData.depthAll, a, a', Bool.and_self, true_and]
    omega
end
theorem shp_shaped {d : D} (h : d.shp 60 = true) : SeqAt.shaped d.toPy = true := by
  obtain ⟨a, b⟩ := shp_lay d 60 h
  unfold SeqAt.shaped
  rw [a, Bool.true_and]
  exact decide_eq_true (by omega)
theorem shps_shaped {ds : List D} (h : D.shps 60 ds = true) : SeqAt.shaped (.list (D.toPys ds)) = true := by
  obtain ⟨a, b⟩ := shps_lay ds 60 h
  unfold SeqAt.shaped
  simp only [PyData.canLay0, PyData.depth, a, Bool.true_and]
  exact decide_eq_true (by omega)
def R2C (K : PySem.W.Frag) (x y : T) (b : Bool) : R2 := fun vx vy H Q => ∃ F fa fb, TRep K F H vx x fa ∧ TRep K F H vy y fb ∧ Q (.bl b) H
theorem op_deq (hu : X.A.units + 65 < cLine) {d e : D} (h : deq d e = some b) : OpR X (compareOp .Eq) (fun vx vy H Q => RD X.K H vx d ∧ RD X.K H vy e ∧ Q (.bl b) H) := by
  unfold deq at h
  split at h
  · rename_i x y
    cases h
    refine OpR.mono' op_eq ?_
    rintro vx vy H Q ⟨hx, hy, q⟩
    have hx : vx = .str x := by simpa only [RD, RepD] using hx
    have hy : vy = .str y := by simpa only [RD, RepD] using hy
    subst hx hy
    exact ⟨rfl, by simpa using q⟩
  · split at h
    · rename_i hs
      cases h
      rw [Bool.and_eq_true] at hs
      refine OpR.mono' (op_eqD (by omega)) ?_
      rintro vx vy H Q ⟨hx, hy, q⟩
      exact ⟨_, _, RD.dp _ _ _ hs.1 hx, RD.dp _ _ _ hs.2 hy, shp_shaped hs.1, shp_shaped hs.2, q⟩
    · cases h
theorem op_dne (hu : X.A.units + 65 < cLine) {d e : D} (h : deq d e = some b) : OpR X (compareOp .NotEq) (fun vx vy H Q => RD X.K H vx d ∧ RD X.K H vy e ∧ Q (.bl (!b)) H) := by
  unfold deq at h
  split at h
  · rename_i x y
    cases h
    refine OpR.mono' op_ne ?_
    rintro vx vy H Q ⟨hx, hy, q⟩
    have hx : vx = .str x := by simpa only [RD, RepD] using hx
    have hy : vy = .str y := by simpa only [RD, RepD] using hy
    subst hx hy
    exact ⟨rfl, by simpa using q⟩
  · split at h
    · rename_i hs
      cases h
      rw [Bool.and_eq_true] at hs
      refine OpR.mono' (op_neD (by omega)) ?_
      rintro vx vy H Q ⟨hx, hy, q⟩
      exact ⟨_, _, RD.dp _ _ _ hs.1 hx, RD.dp _ _ _ hs.2 hy, shp_shaped hs.1, shp_shaped hs.2, q⟩
    · cases h
theorem isNone_rep (h : TRep K F H v x fa) : decide (v = V.non) = isNone x := by
  cases x with
  | fz d =>
    cases d with
    | none => rw [trep_none h]; rfl
    | bool b => rw [trep_bool h]; rfl
    | int i => rw [trep_int h]; rfl
    | str i => rw [trep_str h]; rfl
    | list ds => simp only [TRep, RepD] at h; obtain ⟨_, a, vs, rfl, _⟩ := h; rfl
    | tup ds => simp only [TRep, RepD] at h; obtain ⟨_, a, vs, rfl, _⟩ := h; rfl
    | dict ks ds => simp only [TRep, RepD] at h; obtain ⟨_, a, vs, rfl, _⟩ := h; rfl
    | ins fs ds => simp only [TRep, RepD] at h; obtain ⟨_, a, C, dx, vs, rfl, _⟩ := h; rfl
    | ltp ds => simp only [TRep, RepD] at h; obtain ⟨_, a, vs, rfl, _⟩ := h; rfl
  | lst ts => simp only [TRep] at h; obtain ⟨a, vs, _, rfl, _⟩ := h; rfl
  | tup ts => simp only [TRep] at h; obtain ⟨a, vs, _, rfl, _⟩ := h; rfl
  | dct ks ts => simp only [TRep] at h; obtain ⟨a, vs, _, rfl, _⟩ := h; rfl
theorem isNone_non (h : TRep K F H v x fa) (e : isNone x = true) : v = .non := by
  rw [← isNone_rep h] at e; exact of_decide_eq_true e
theorem keyOf_rep {d : D} {k : Key} (e : keyOf d = some k) (h : RepD K F H v d) : v = kV k := by
  cases d <;> simp [keyOf] at e
  · subst e; simpa only [RepD, kV] using h
  · subst e; simpa only [RepD, kV] using h
theorem valV_zip {k : Key} : ∀ {ks : List Key} {vs : List V}, vs.length = ks.length → (valV (ks.zip vs) k).isSome = ks.any fun k' => decide (k' = k)
  | [], [], _ => rfl
  | [], _ :: _, h => by simp at h
  | _ :: _, [], h => by simp at h
  | k' :: ks, v :: vs, h => by
    rw [List.zip_cons_cons]
    by_cases e : k' = k
    · rw [valV_pos (p := (k', v)) e]; simp [e]
    · rw [valV_neg (p := (k', v)) e, valV_zip (by simpa using h)]
      simp [e]
theorem flat_V {d : D} (f : flatD d = true) (h : RepD K F H v d) : flatV v = true ∧ Dp K H v d.toPy := by
  have hr : RD K H v d := h.rd
  cases d with
  | none => have : v = .non := by simpa only [RepD] using h
            subst this; exact ⟨rfl, .non⟩
  | bool b => have : v = .bl b := by simpa only [RepD] using h
              subst this; exact ⟨rfl, .bl b⟩
  | int i => have : v = .int i := by simpa only [RepD] using h
             subst this; exact ⟨rfl, .int i⟩
  | str i => have : v = .str i := by simpa only [RepD] using h
             subst this; exact ⟨rfl, .str i⟩
  | list ds => cases f
  | tup ds => cases f
  | dict ks ds => cases f
  | ins fs ds => cases f
  | ltp ds => cases f
theorem eqV_flat {d e : D} {v w : V} (f : flatD d = true) (g : flatD e = true) (h : RepD K F H v d) (h' : RepD K F H w e) : eqV v w = PyData.eqv d.toPy e.toPy := by
  cases d <;> first | (cases f; done) | skip
  all_goals (cases e <;> first | (cases g; done) | skip)
  all_goals (simp only [RepD] at h h'; subst h h'; simp [eqV, D.toPy, PyData.eqv])
theorem flats_V {d : D} {v : V} (f : flatD d = true) (h : RepD K F H v d) : ∀ {ds : List D} {vs : List V}, ds.all flatD = true → RepDs K F H vs ds → vs.all flatV = true ∧ inV v vs = ds.any fun z => PyData.eqv z.toPy d.toPy
  | [], [], _, _ => ⟨rfl, rfl⟩
  | [], _ :: _, _, h => by simp only [RepDs] at h
  | _ :: _, [], _, h => by simp only [RepDs] at h
  | e :: es, w :: ws, g, r => by
    simp only [RepDs] at r
    rw [List.all_cons, Bool.and_eq_true] at g
    obtain ⟨a, b⟩ := flats_V f h g.2 r.2
    refine ⟨by rw [List.all_cons, a, (flat_V g.1 r.1).1]; rfl, ?_⟩
    rw [List.any_cons, ← b]
    show (eqV w v || inV v ws) = _
    rw [eqV_flat g.1 f r.1 h]
theorem op_inT (hu : X.A.units + 65 < cLine) (h : inT x y = some b) : OpR X (compareOp .In) (R2C X.K x y b) ∧ OpR X (compareOp .NotIn) (R2C X.K x y (!b)) := by
  unfold inT at h
  split at h
  · rename_i ks ts
    split at h
    · rename_i d
      obtain ⟨k, e, rfl⟩ := Option.map_eq_some_iff.mp h
      have g : ∀ {H vx vy F fa fb}, TRep X.K F H vx (.fz d) fa → TRep X.K F H vy (.dct ks ts) fb → ∃ a vs, vx = kV k ∧ vy = .ref a ∧ H a = some (.dK (ks.zip vs)) ∧ (valV (ks.zip vs) k).isSome = ks.any fun k' => decide (k' = k) := by
        intro H vx vy F fa fb hx hy
        simp only [TRep] at hx hy
        obtain ⟨a, vs, fq, rfl, _, _, ha, hl, _⟩ := hy
        exact ⟨a, vs, keyOf_rep e hx.2, rfl, ha, valV_zip hl⟩
      constructor
      · rintro pins s σ H vx vy v u Q I rx ry ⟨F, fa, fb, hx, hy, q⟩
        obtain ⟨a, vs, rfl, rfl, ha, ev⟩ := g hx hy
        cases ry
        exact d_in (by omega) I (DGet.k (k := k) ha) rx fun s3 I3 => ⟨.bl _, H, I3, rfl, by rw [ev]; exact q⟩
      · rintro pins s σ H vx vy v u Q I rx ry ⟨F, fa, fb, hx, hy, q⟩
        obtain ⟨a, vs, rfl, rfl, ha, ev⟩ := g hx hy
        cases ry
        exact d_notIn (by omega) I (DGet.k (k := k) ha) rx fun s3 I3 => ⟨.bl _, H, I3, rfl, by rw [ev]; exact q⟩
    · cases h
  · rename_i ks ts
    split at h
    · rename_i d
      obtain ⟨k, e, rfl⟩ := Option.map_eq_some_iff.mp h
      have g : ∀ {H vx vy F fa fb}, TRep X.K F H vx (.fz d) fa → TRep X.K F H vy (.fz (.dict ks ts)) fb → ∃ a vs, vx = kV k ∧ vy = .ref a ∧ H a = some (.dK (ks.zip vs)) ∧ (valV (ks.zip vs) k).isSome = ks.any fun k' => decide (k' = k) := by
        intro H vx vy F fa fb hx hy
        simp only [TRep, RepD] at hx hy
        obtain ⟨_, a, vs, rfl, _, ha, hl, _⟩ := hy
        exact ⟨a, vs, keyOf_rep e hx.2, rfl, ha, valV_zip hl⟩
      constructor
      · rintro pins s σ H vx vy v u Q I rx ry ⟨F, fa, fb, hx, hy, q⟩
        obtain ⟨a, vs, rfl, rfl, ha, ev⟩ := g hx hy
        cases ry
        exact d_in (by omega) I (DGet.k (k := k) ha) rx fun s3 I3 => ⟨.bl _, H, I3, rfl, by rw [ev]; exact q⟩
      · rintro pins s σ H vx vy v u Q I rx ry ⟨F, fa, fb, hx, hy, q⟩
        obtain ⟨a, vs, rfl, rfl, ha, ev⟩ := g hx hy
        cases ry
        exact d_notIn (by omega) I (DGet.k (k := k) ha) rx fun s3 I3 => ⟨.bl _, H, I3, rfl, by rw [ev]; exact q⟩
    · cases h
  · rename_i ds
    split at h
    · rename_i d
      split at h
      · rename_i hf
        cases h
        rw [Bool.or_eq_true] at hf
        rcases hf with hf | hf
        rw [Bool.and_eq_true] at hf
        constructor
        · refine OpR.mono' op_in_seq ?_
          rintro vx vy H Q ⟨F, fa, fb, hx, hy, q⟩
          simp only [TRep, RepD] at hx hy
          obtain ⟨_, a, vs, rfl, hl, hr⟩ := hy
          obtain ⟨g1, g2⟩ := flats_V hf.1 hx.2 hf.2 hr
          exact ⟨a, vs, rfl, .inr hl.sq, (flat_V hf.1 hx.2).1, g1, by simpa [g2] using q⟩
        · refine OpR.mono' op_notIn_seq ?_
          rintro vx vy H Q ⟨F, fa, fb, hx, hy, q⟩
          simp only [TRep, RepD] at hx hy
          obtain ⟨_, a, vs, rfl, hl, hr⟩ := hy
          obtain ⟨g1, g2⟩ := flats_V hf.1 hx.2 hf.2 hr
          exact ⟨a, vs, rfl, .inr hl.sq, (flat_V hf.1 hx.2).1, g1, by simpa [g2] using q⟩
        rw [Bool.and_eq_true] at hf
        have g : ∀ {H vx vy F fa fb}, TRep X.K F H vx (.fz d) fa → TRep X.K F H vy (.fz (.tup ds)) fb → Dp X.K H vx d.toPy ∧ Dp X.K H vy (.tuple (D.toPys ds)) := by
          intro H vx vy F fa fb hx hy
          simp only [TRep, RepD] at hx hy
          obtain ⟨_, a, vs, rfl, hl, hr⟩ := hy
          exact ⟨RD.dp _ _ _ hf.1 hx.2.rd, .tup hl.sq (RDs.dp ds vs 60 hf.2 (RepDs.mono (fun _ _ => trivial) (fun _ _ _ e => e) ds vs hr))⟩
        have e2 : ∀ ds : List D, ((D.toPys ds).any fun z => PyData.eqv z d.toPy) = ds.any fun z => PyData.eqv z.toPy d.toPy := by
          intro ds
          induction ds with
          | nil => rfl
          | cons d ds ih => simp only [D.toPys, List.any_cons, ih]
        constructor
        · refine OpR.mono' (op_tinD hu) ?_
          rintro vx vy H Q ⟨F, fa, fb, hx, hy, q⟩
          obtain ⟨g1, g2⟩ := g hx hy
          exact ⟨_, _, g1, g2, shp_shaped hf.1, shps_shaped hf.2, by rw [e2]; exact q⟩
        · refine OpR.mono' (op_tnotInD hu) ?_
          rintro vx vy H Q ⟨F, fa, fb, hx, hy, q⟩
          obtain ⟨g1, g2⟩ := g hx hy
          exact ⟨_, _, g1, g2, shp_shaped hf.1, shps_shaped hf.2, by rw [e2]; exact q⟩
      · cases h
    · cases h
  · split at h
    · rename_i ds e
      split at h
      · rename_i hs
        cases h
        rw [Bool.and_eq_true] at hs
        have g : ∀ {H vx vy F fa fb}, TRep X.K F H vx x fa → TRep X.K F H vy y fb → Dp X.K H vx x.toD.toPy ∧ Dp X.K H vy (.list (D.toPys ds)) := by
          intro H vx vy F fa fb hx hy
          obtain ⟨a, vs, rfl, hl, hr⟩ := flat_rep e hy
          exact ⟨RD.dp _ _ _ hs.1 hx.rd, .lst hl (RDs.dp ds vs 60 hs.2 (RepDs.mono (fun _ _ => trivial) (fun _ _ _ e => e) ds vs hr))⟩
        have e2 : ∀ ds : List D, ((D.toPys ds).any fun z => PyData.eqv z x.toD.toPy) = ds.any fun z => PyData.eqv z.toPy x.toD.toPy := by
          intro ds
          induction ds with
          | nil => rfl
          | cons d ds ih => simp only [D.toPys, List.any_cons, ih]
        constructor
        · refine OpR.mono' (op_inD hu) ?_
          rintro vx vy H Q ⟨F, fa, fb, hx, hy, q⟩
          obtain ⟨g1, g2⟩ := g hx hy
          exact ⟨_, _, g1, g2, shp_shaped hs.1, shps_shaped hs.2, by rw [e2]; exact q⟩
        · refine OpR.mono' (op_notInD hu) ?_
          rintro vx vy H Q ⟨F, fa, fb, hx, hy, q⟩
          obtain ⟨g1, g2⟩ := g hx hy
          exact ⟨_, _, g1, g2, shp_shaped hs.1, shps_shaped hs.2, by rw [e2]; exact q⟩
      · cases h
    · cases h
theorem op_cmpT (hu : X.A.units + 65 < cLine) {op : CmpOp} (h : cmpT op x y = some b) : OpR X (compareOp op) (R2C X.K x y b) := by
  have lt : ∀ {i j : Int} {op : CmpOp} {p : Int → Int → Bool}, OpR X (compareOp op) (rI0 fun i j => .bl (p i j)) → OpR X (compareOp op) (R2C X.K (.fz (.int i)) (.fz (.int j)) (p i j)) := fun h => by
    refine OpR.mono' h ?_
    rintro vx vy H Q ⟨F, fa, fb, hx, hy, q⟩
    exact ⟨_, _, trep_int hx, trep_int hy, q⟩
  unfold cmpT at h
  split at h
  · refine OpR.mono' (op_deq hu h) ?_
    rintro vx vy H Q ⟨F, fa, fb, hx, hy, q⟩
    exact ⟨hx.rd, hy.rd, q⟩
  · obtain ⟨k, e, rfl⟩ := Option.map_eq_some_iff.mp h
    refine OpR.mono' (op_dne hu e) ?_
    rintro vx vy H Q ⟨F, fa, fb, hx, hy, q⟩
    exact ⟨hx.rd, hy.rd, q⟩
  · split at h
    · rename_i hn
      cases h
      refine OpR.mono' op_isN ?_
      rintro vx vy H Q ⟨F, fa, fb, hx, hy, q⟩
      exact ⟨isNone_non hy hn, by rw [isNone_rep hx]; exact q⟩
    · split at h
      · cases h
        refine OpR.mono' op_isB ?_
        rintro vx vy H Q ⟨F, fa, fb, hx, hy, q⟩
        simp only [TRep, RepD] at hx hy
        exact ⟨_, _, hx.2, hy.2, q⟩
      · cases h
        refine OpR.mono' op_isNB ?_
        rintro vx vy H Q ⟨F, fa, fb, hx, hy, q⟩
        simp only [TRep, RepD] at hx hy
        exact ⟨_, hx.2, hy.2, q⟩
      · cases h
  · split at h
    · rename_i hn
      cases h
      refine OpR.mono' op_notN ?_
      rintro vx vy H Q ⟨F, fa, fb, hx, hy, q⟩
      exact ⟨isNone_non hy hn, by rw [isNone_rep hx]; exact q⟩
    · split at h
      · cases h
        refine OpR.mono' op_notB ?_
        rintro vx vy H Q ⟨F, fa, fb, hx, hy, q⟩
        simp only [TRep, RepD] at hx hy
        exact ⟨_, _, hx.2, hy.2, q⟩
      · cases h
        refine OpR.mono' op_notNB ?_
        rintro vx vy H Q ⟨F, fa, fb, hx, hy, q⟩
        simp only [TRep, RepD] at hx hy
        exact ⟨_, hx.2, hy.2, q⟩
      · cases h
  · exact (op_inT hu h).1
  · obtain ⟨k, e, rfl⟩ := Option.map_eq_some_iff.mp h
    exact (op_inT hu e).2
  · split at h
    · cases h; exact lt op_lt
    · unfold ltD at h
      split at h
      · rename_i c
        cases h
        simp only [Bool.and_eq_true] at c
        obtain ⟨⟨⟨c1, c2⟩, c3⟩, c4⟩ := c
        refine OpR.mono' (op_ltD hu) ?_
        rintro vx vy H Q ⟨F, fa, fb, hx, hy, q⟩
        refine ⟨_, _, RD.dp _ _ _ c1 hx.rd, RD.dp _ _ _ c2 hy.rd, shp_shaped c1, shp_shaped c2, c3, ?_, q⟩
        cases hz : x.toD <;> rw [hz] at c4 <;> first | (exact absurd c4 (by decide)) | (simp only [D.toPy]; exact fun z => nomatch z)
      · cases h
  · split at h
    · cases h; exact lt op_le
    · cases h
  · split at h
    · cases h; exact lt op_gt
    · cases h
  · split at h
    · cases h; exact lt op_ge
    · cases h
theorem findK_T {k : Key} : ∀ {ks : List Key} {ts : List T} {vs : List V} {fq}, TReps K F H vs ts fq → vs.length = ks.length → (∀ t, findK k ks ts = some t → ∃ v f2, valV (ks.zip vs) k = some v ∧ TRep K F H v t f2) ∧ (findK k ks ts = none → valV (ks.zip vs) k = none)
  | [], [], [], _, _, _ => ⟨fun t e => by simp [findK] at e, fun _ => rfl⟩
  | [], _ :: _, _, _, h, hl => by
    have := h.len
    simp_all
  | [], [], _ :: _, _, h, _ => by simp only [TReps] at h
  | _ :: _, ts, [], _, h, hl => by simp at hl
  | _ :: _, [], _ :: _, _, h, hl => by simp only [TReps] at h
  | k' :: ks, t0 :: ts, v :: vs, _, h, hl => by
    simp only [TReps] at h
    obtain ⟨f1, f2, rfl, h1, h2⟩ := h
    obtain ⟨g1, g2⟩ := findK_T (k := k) (ks := ks) h2 (by simpa using hl)
    rw [List.zip_cons_cons]
    by_cases e : k' = k
    · simp only [findK, e, if_true]
      refine ⟨fun t e' => ?_, fun e' => (nomatch e')⟩
      cases e'
      exact ⟨v, f1, valV_pos (p := (k, v)) rfl, h1⟩
    · simp only [findK, if_neg e]
      rw [valV_neg (p := (k', v)) e]
      exact ⟨g1, g2⟩
theorem dict_rep {ks : List Key} {ts : List T} (e : dictOf x = some (ks, ts)) (h : TRep K F H v x fa) : ∃ a vs fq, v = .ref a ∧ H a = some (.dK (ks.zip vs)) ∧ vs.length = ks.length ∧ TReps K F H vs ts fq := by
  unfold dictOf at e
  split at e
  · cases e
    simp only [TRep] at h
    obtain ⟨a, vs, fq, h1, h2, h3, h4, h5, h6, h7⟩ := h
    exact ⟨a, vs, fq, h1, h4, h5, h7⟩
  · cases e
    simp only [TRep, RepD] at h
    obtain ⟨_, a, vs, h1, h2, h4, h5, h6, h7⟩ := h
    exact ⟨a, vs, [], h1, h4, h5, TReps.fzs.mpr ⟨rfl, h7⟩⟩
  · cases e
theorem place_at {α : Type} {i : Int} {n : Nat} {xs : List α} {k : Nat} {a : α} (h : place i n = some k) (e : xs.length = n) (g : xs[k]? = some a) : atI xs i = some a := by
  unfold atI; unfold place at h; rw [e, h]; exact g
def IxT (K : PySem.W.Frag) (x y t : T) : R2 := fun vx vy H Q => ∃ F fa fb, TRep K F H vx x fa ∧ TRep K F H vy y fb ∧ ∀ v f1 f2 f3, fa = f1 ++ f2 ++ f3 → TRep K F H v t f2 → (∀ k, (getIx x y).map (·.2) = some (some k) → ∃ a vs, vx = .ref a ∧ H a = some (.lst vs) ∧ vs[k]? = some v) → Q v H
theorem ix_T {x y t : T} {k : Option Nat} (h : getIx x y = some (t, k)) : IxR X (IxT X.K x y t) := by
  have key : (∃ i, y = .fz (.int i)) ∧ ((∃ ds i, x = .fz (.list ds) ∧ y = .fz (.int i) ∧ ∃ k d, place i ds.length = some k ∧ ds[k]? = some d ∧ t = .fz d) ∨ (∃ ds i, x = .fz (.tup ds) ∧ y = .fz (.int i) ∧ ∃ k d, place i ds.length = some k ∧ ds[k]? = some d ∧ t = .fz d) ∨
      (∃ ts i, x = .lst ts ∧ y = .fz (.int i) ∧ ∃ k, place i ts.length = some k ∧ ts[k]? = some t) ∨ (∃ ts i, x = .tup ts ∧ y = .fz (.int i) ∧ ∃ k, place i ts.length = some k ∧ ts[k]? = some t)) := by
    unfold getIx at h
    split at h
    · split at h
      · rename_i ds i k hk
        obtain ⟨d, e1, e2⟩ := Option.map_eq_some_iff.mp h
        cases e2
        exact ⟨⟨_, rfl⟩, .inl ⟨_, _, rfl, rfl, _, d, hk, e1, rfl⟩⟩
      · cases h
    · split at h
      · rename_i ds i k hk
        obtain ⟨d, e1, e2⟩ := Option.map_eq_some_iff.mp h
        cases e2
        exact ⟨⟨_, rfl⟩, .inr (.inl ⟨_, _, rfl, rfl, _, d, hk, e1, rfl⟩)⟩
      · cases h
    · split at h
      · rename_i ds i k hk
        obtain ⟨d, e1, e2⟩ := Option.map_eq_some_iff.mp h
        cases e2
        exact ⟨⟨_, rfl⟩, .inr (.inr (.inl ⟨_, _, rfl, rfl, _, hk, e1⟩))⟩
      · cases h
    · split at h
      · rename_i ds i k hk
        obtain ⟨d, e1, e2⟩ := Option.map_eq_some_iff.mp h
        cases e2
        exact ⟨⟨_, rfl⟩, .inr (.inr (.inr ⟨_, _, rfl, rfl, _, hk, e1⟩))⟩
      · cases h
    · cases h
  intro value slice pins s σ H vx vy v u Q I rx ry ⟨F, fa, fb, hx, hy, q⟩ hsub
  rcases key.2 with ⟨ds, i, rfl, rfl, k', d, hk, hg, rfl⟩ | ⟨ds, i, rfl, rfl, k', d, hk, hg, rfl⟩ | ⟨ts, i, rfl, rfl, k', hk, hg⟩ | ⟨ts, i, rfl, rfl, k', hk, hg⟩
  · simp only [TRep, RepD] at hx
    obtain ⟨rfl, a, vs, rfl, hl, hr⟩ := hx
    obtain ⟨w, e1, e2⟩ := hr.get hg
    refine ix_list value slice pins s σ H _ _ v u Q I rx ry ⟨a, vs, i, w, rfl, trep_int hy, hl.sq, place_at hk hr.len e1, q w [] [] [] rfl (by simpa only [TRep, true_and] using e2) fun k e => ?_⟩ hsub
    simp [getIx, hk, hg] at e
  · simp only [TRep, RepD] at hx
    obtain ⟨rfl, a, vs, rfl, hl, hr⟩ := hx
    obtain ⟨w, e1, e2⟩ := hr.get hg
    refine ix_tup value slice pins s σ H _ _ v u Q I rx ry ⟨a, vs, i, w, rfl, trep_int hy, hl.sq, place_at hk hr.len e1, q w [] [] [] rfl (by simpa only [TRep, true_and] using e2) fun k e => ?_⟩ hsub
    simp [getIx, hk, hg] at e
  · simp only [TRep] at hx
    obtain ⟨a, vs, fq, rfl, rfl, nf, ha, hr⟩ := hx
    obtain ⟨w, e1⟩ : ∃ w, vs[k']? = some w := by
      have h1 := (List.getElem?_eq_some_iff.mp hg).1
      rw [← hr.len] at h1
      exact ⟨_, List.getElem?_eq_getElem h1⟩
    obtain ⟨f1, f2, f3, e2, r⟩ := hr.get hg e1
    refine ix_list value slice pins s σ H _ _ v u Q I rx ry ⟨a, vs, i, w, rfl, trep_int hy, SqL.of ha, place_at hk hr.len e1, q w (a :: f1) f2 f3 (by rw [e2]; simp) r fun k e => ?_⟩ hsub
    simp [getIx, hk, hg] at e
    subst e
    exact ⟨a, vs, rfl, ha, e1⟩
  · simp only [TRep] at hx
    obtain ⟨a, vs, fq, rfl, rfl, nf, ⟨ob, _, ha⟩, hr⟩ := hx
    obtain ⟨w, e1⟩ : ∃ w, vs[k']? = some w := by
      have h1 := (List.getElem?_eq_some_iff.mp hg).1
      rw [← hr.len] at h1
      exact ⟨_, List.getElem?_eq_getElem h1⟩
    obtain ⟨f1, f2, f3, e2, r⟩ := hr.get hg e1
    refine ix_tup value slice pins s σ H _ _ v u Q I rx ry ⟨a, vs, i, w, rfl, trep_int hy, .inl (.inr ⟨ob, ha⟩), place_at hk hr.len e1, q w (a :: f1) f2 f3 (by rw [e2]; simp) r fun k e => ?_⟩ hsub
    simp [getIx, hk, hg] at e
theorem op_slT (hF : True) {x t : T} {lo hi : Option Int} (h : slT x lo hi = some t) : SlR X (fun vx lo' hi' H Q => lo' = lo ∧ hi' = hi ∧ ∃ F fa, (∀ b, F b → H b ≠ none) ∧ TRep X.K F H vx x fa ∧ ∀ v H', PureRes X.K F H t v H' → Q v H') := by
  unfold slT at h
  intro pins s σ H vx v vl vu lo' hi' sl Q I rx hs pl pu ⟨e1, e2, F, fa, hF, hx, q⟩
  subst e1 e2
  split at h
  · rename_i ds
    cases h
    simp only [TRep, RepD] at hx
    obtain ⟨_, a, vs, rfl, hl, hr⟩ := hx
    have el := hr.len
    have hcut : RepDs X.K F H (cutV vs lo' hi') (slD ds lo' hi') := by
      unfold cutV slD; rw [el]; exact (hr.drop _).take _
    refine sl_tupX pins s σ H _ v vl vu lo' hi' sl Q I rx hs pl pu ⟨a, vs, rfl, hl.sq, fun w => ?_, fun _ p o hp ho => q _ _ (res_tup hp ho hcut)⟩
    have e : slD ds lo' hi' = ds := by
      unfold slD; rw [el] at w; rw [w.1, w.2]; simp
    rw [e] at q
    exact q _ _ (.same (by simp only [RepD]; exact ⟨a, vs, rfl, hl, hr⟩))
  · obtain ⟨ds, e, rfl⟩ := Option.map_eq_some_iff.mp h
    obtain ⟨a, vs, rfl, hl, hr⟩ := flat_rep e hx
    have el := hr.len
    have hcut : RepDs X.K F H (cutV vs lo' hi') (slD ds lo' hi') := by
      unfold cutV slD; rw [el]; exact (hr.drop _).take _
    exact sl_list pins s σ H _ v vl vu lo' hi' sl Q I rx hs pl pu ⟨a, vs, rfl, hl, fun p hp => q _ _ (res_fl hp hF hcut)⟩
theorem truT_rep {x : T} (h : truT x = some b) (hx : TRep K F H v x fa) : TruV K v H b := by
  unfold truT at h
  split at h
  · cases h; rw [trep_bool hx]; rfl
  · cases h; rw [trep_none hx]; rfl
  · cases h; rw [trep_int hx]; rfl
  · rename_i ds
    cases h
    simp only [TRep, RepD] at hx
    obtain ⟨_, a, vs, rfl, hl, hr⟩ := hx
    refine .inl ⟨vs, hl.sq, ?_⟩
    have := hr.len
    cases vs <;> cases ds <;> simp_all
  · rename_i ds
    cases h
    simp only [TRep, RepD] at hx
    obtain ⟨_, a, vs, rfl, hl, hr⟩ := hx
    refine .inr (.inl ⟨vs, hl.sq, ?_⟩)
    have := hr.len
    cases vs <;> cases ds <;> simp_all
  · rename_i ts
    cases h
    simp only [TRep] at hx
    obtain ⟨a, vs, fq, rfl, rfl, nf, ha, hr⟩ := hx
    refine .inl ⟨vs, SqL.of ha, ?_⟩
    have := hr.len
    cases vs <;> cases ts <;> simp_all
  · rename_i ks ts
    cases h
    simp only [TRep] at hx
    obtain ⟨a, vs, fq, rfl, rfl, nf, ha, hl, hd, hr⟩ := hx
    refine .inr (.inr ⟨_, ha, ?_⟩)
    cases ks <;> cases vs <;> simp_all
  · cases h
end
end Mv

end
section
namespace Mv
open PySem PySem.Spec PyProof.Rows L2
def bltN : Blt → Str
  | .len => "len" | .abs => "abs" | .int => "int" | .list => "list" | .repr => "repr" | .sorted => "sorted" | .all => "all" | .any => "any" | .sum => "sum"
  | .max1 => "max" | .min1 => "min" | .max2 => "max" | .min2 => "min" | .divmod => "divmod" | .tuple => "tuple"
  | _ => "isinstance"
def bltV : Blt → Value
  | .len => .builtin "len" | .abs => .builtin "abs" | .int => .type "int" | .list => .type "list" | .repr => .builtin "repr" | .sorted => .builtin "sorted" | .all => .builtin "all" | .any => .builtin "any" | .sum => .builtin "sum"
  | .max1 => .builtin "max" | .min1 => .builtin "min" | .max2 => .builtin "max" | .min2 => .builtin "min" | .divmod => .builtin "divmod" | .tuple => .type "tuple"
  | _ => .builtin "isinstance"
theorem bltV_boot : ∀ f, bootBuiltins (bltN f) = some (bltV f)
  | .len => PySem.boot_len | .abs => boot_abs | .int => boot_int | .list => boot_list | .repr => boot_repr | .sorted => boot_sorted | .all => boot_all | .any => boot_any | .sum => boot_sum
  | .max1 => boot_max | .min1 => boot_min | .max2 => boot_max | .min2 => boot_min | .divmod => boot_divmod | .tuple => boot_tuple
  | .isint => boot_isinstance | .isbool => boot_isinstance | .isstr => boot_isinstance | .islist => boot_isinstance | .istup => boot_isinstance
def isTy : Blt → Option String
  | .isint => some "int" | .isbool => some "bool" | .isstr => some "str" | .islist => some "list" | .istup => some "tuple"
  | _ => none
section
variable {X : Cx} {K : PySem.W.Frag} {F F' : Addr → Prop} {H H' : Hp} {fa fb : List Addr} {t x y : T} {v vx vy : V} {b : Bool}
def CB (K : PySem.W.Frag) (ts : List T) (t : T) : List V → Hp → VK → Prop := fun vs H Q => ∃ F fa, (∀ b, F b → H b ≠ none) ∧ TReps K F H vs ts fa ∧ ∀ v H', PureRes K F H t v H' → Q v H'
theorem CallR.mono' {f : Value} {r r' : List V → Hp → VK → Prop} (h : CallR X f r) (k : ∀ xs H Q, r' xs H Q → r xs H Q) : CallR X f r' := fun pins s σ H xs us Q I r q => h pins s σ H xs us Q I r (k _ _ _ q)
theorem treps1 {vs : List V} (h : TReps K F H vs [x] fa) : ∃ v, vs = [v] ∧ TRep K F H v x fa := by
  cases vs with
  | nil => simp only [TReps] at h
  | cons v vs =>
    simp only [TReps] at h
    obtain ⟨f1, f2, rfl, h1, h2⟩ := h
    cases vs with
    | nil => simp only [TReps] at h2; subst h2; exact ⟨v, rfl, by simpa using h1⟩
    | cons w ws => simp only [TReps] at h2
theorem treps2 {vs : List V} (h : TReps K F H vs [x, y] fa) : ∃ v w f1 f2, vs = [v, w] ∧ TRep K F H v x f1 ∧ TRep K F H w y f2 := by
  cases vs with
  | nil => simp only [TReps] at h
  | cons v vs =>
    simp only [TReps] at h
    obtain ⟨f1, f2, rfl, h1, h2⟩ := h
    obtain ⟨w, rfl, h3⟩ := treps1 h2
    exact ⟨v, w, f1, f2, rfl, h1, h3⟩
theorem intsOf_eq : ∀ {ds : List D} {ns : List Int}, intsOf ds = some ns → ds = ns.map D.int
  | [], ns, h => by simp [intsOf] at h; subst h; rfl
  | d :: ds, ns, h => by
    cases d <;> simp [intsOf] at h
    obtain ⟨ms, e, rfl⟩ := h
    rw [intsOf_eq e]; rfl
theorem boolsOf_eq : ∀ {ds : List D} {ns : List Bool}, boolsOf ds = some ns → ds = ns.map D.bool
  | [], ns, h => by simp [boolsOf] at h; subst h; rfl
  | d :: ds, ns, h => by
    cases d <;> simp [boolsOf] at h
    obtain ⟨ms, e, rfl⟩ := h
    rw [boolsOf_eq e]; rfl
theorem rep_ints : ∀ {ns : List Int} {vs : List V}, RepDs K F H vs (ns.map D.int) → vs = ns.map V.int
  | [], [], _ => rfl
  | [], _ :: _, h => by simp only [List.map_nil, RepDs] at h
  | _ :: _, [], h => by simp only [List.map_cons, RepDs] at h
  | n :: ns, v :: vs, h => by
    simp only [List.map_cons, RepDs, RepD] at h
    rw [h.1, rep_ints h.2]; rfl
theorem rep_bools : ∀ {ns : List Bool} {vs : List V}, RepDs K F H vs (ns.map D.bool) → vs = ns.map V.bl
  | [], [], _ => rfl
  | [], _ :: _, h => by simp only [List.map_nil, RepDs] at h
  | _ :: _, [], h => by simp only [List.map_cons, RepDs] at h
  | n :: ns, v :: vs, h => by
    simp only [List.map_cons, RepDs, RepD] at h
    rw [h.1, rep_bools h.2]; rfl
theorem flat_ints {ds : List D} {ns : List Int} (e : x.flat = some ds) (e2 : intsOf ds = some ns) (h : TRep K F H v x fa) : ∃ a, v = .ref a ∧ SqL K H a (ns.map V.int) := by
  obtain ⟨a, vs, rfl, hl, hr⟩ := flat_rep e h
  rw [intsOf_eq e2] at hr
  exact ⟨a, rfl, by rw [← rep_ints hr]; exact hl⟩
theorem flat_bools {ds : List D} {ns : List Bool} (e : x.flat = some ds) (e2 : boolsOf ds = some ns) (h : TRep K F H v x fa) : ∃ a, v = .ref a ∧ SqL K H a (ns.map V.bl) := by
  obtain ⟨a, vs, rfl, hl, hr⟩ := flat_rep e h
  rw [boolsOf_eq e2] at hr
  exact ⟨a, rfl, by rw [← rep_bools hr]; exact hl⟩
theorem seqT_rep {ds : List D} (e : x.seqT = some ds) (h : TRep K F H vx x fa) : ∃ a vs, vx = .ref a ∧ (SqL K H a vs ∨ SqT K H a vs) ∧ RepDs K F H vs ds ∧ ((∃ d, x = .fz (.tup d)) ∨ SqL K H a vs) := by
  unfold T.seqT at e
  split at e
  · cases e
    simp only [TRep, RepD] at h
    obtain ⟨_, a, vs, rfl, hl, hr⟩ := h
    exact ⟨a, vs, rfl, .inr hl.sq, hr, .inl ⟨_, rfl⟩⟩
  · obtain ⟨a, vs, rfl, hl, hr⟩ := flat_rep e h
    exact ⟨a, vs, rfl, .inl hl, hr, .inr hl⟩
theorem seq_ints {ds : List D} {ns : List Int} (e : x.seqT = some ds) (e2 : intsOf ds = some ns) (h : TRep K F H v x fa) : ∃ a, v = .ref a ∧ (SqL K H a (ns.map V.int) ∨ SqT K H a (ns.map V.int)) := by
  obtain ⟨a, vs, rfl, hl, hr, _⟩ := seqT_rep e h
  rw [intsOf_eq e2] at hr
  exact ⟨a, rfl, by rw [← rep_ints hr]; exact hl⟩
theorem maxI_fold : ∀ (n : Int) (ns : List Int), ns.foldl max n = maxI n ns
  | n, [] => rfl
  | n, m :: ms => by
    rw [List.foldl_cons, maxI_fold, show max n m = if m > n then m else n by split <;> omega]; rfl
theorem minI_fold : ∀ (n : Int) (ns : List Int), ns.foldl min n = minI n ns
  | n, [] => rfl
  | n, m :: ms => by
    rw [List.foldl_cons, minI_fold, show min n m = if m < n then m else n by split <;> omega]; rfl
theorem maxI_spec : ∀ (n : Int) (ns : List Int), maxI n ns ∈ n :: ns ∧ ∀ y ∈ n :: ns, y ≤ maxI n ns
  | n, [] => by simp [maxI]
  | n, m :: ms => by
    unfold maxI
    obtain ⟨a, b⟩ := maxI_spec (if m > n then m else n) ms
    constructor
    · rcases List.mem_cons.mp a with e | e
      · rw [e]; split <;> simp
      · simp [e]
    · intro y hy
      have h0 := b _ List.mem_cons_self
      rcases List.mem_cons.mp hy with rfl | hy
      · split at h0 <;> rename_i hh <;> (try rw [if_pos hh]) <;> (try rw [if_neg hh]) <;> omega
      · rcases List.mem_cons.mp hy with rfl | hy
        · split at h0 <;> rename_i hh <;> (try rw [if_pos hh]) <;> (try rw [if_neg hh]) <;> omega
        · exact b y (List.mem_cons_of_mem _ hy)
section
theorem shpsE_cons {n : Nat} {d : D} {ds : List D} (h : D.shpsE n (d :: ds) = true) : D.shpE n d = true ∧ D.shpsE n ds = true := by cases n <;> simpa [D.shpsE] using h
mutual
theorem shpE_depth : ∀ (d : D) (n : Nat), D.shpE n d = true → d.toPy.depth ≤ n + 1
  | .none, n, h => Nat.zero_le _
  | .bool _, n, h => Nat.zero_le _
  | .int _, n, h => Nat.zero_le _
  | .str _, n, h => Nat.zero_le _
  | .list xs, 0, h => by simp [D.shpE] at h
  | .tup xs, 0, h => by simp [D.shpE] at h
  | .list xs, n + 1, h => by
    have := shpsE_depth xs n (by simpa only [D.shpE] using h)
    simp only [D.toPy, PyData.depth]; omega
  | .tup xs, n + 1, h => by
    have := shpsE_depth xs n (by simpa only [D.shpE] using h)
    simp only [D.toPy, PyData.depth]; omega
  | .dict [] [], n, h => by simp only [D.toPy, PyData.depth, PyData.depthKv]; omega
  | .dict (_ :: _) _, n, h => by cases n <;> simp [D.shpE] at h
  | .dict [] (_ :: _), n, h => by cases n <;> simp [D.shpE] at h
  | .ins _ _, n, h => by cases n <;> simp [D.shpE] at h
  | .ltp _, n, h => by cases n <;> simp [D.shpE] at h
theorem shpsE_depth : ∀ (ds : List D) (n : Nat), D.shpsE n ds = true → PyData.depthAll (D.toPys ds) ≤ n + 1
  | [], n, h => Nat.zero_le _
  | d :: ds, n, h => by
    have a := shpE_depth d n (shpsE_cons h).1
    have b := shpsE_depth ds n (shpsE_cons h).2
    simp only [D.toPys, PyData.depthAll]; omega
end
section
variable {pins : List (Addr × Obj)} {σ : L2.St} {H : Hp} {s : Shared}
def Shw (X : Cx) (s : Shared) (u : Value) (d : PyData) : Prop := (∃ as, Reads s.heap u d as) ∧ (∃ bs, ReadAtMost s.heap d.depth bs ∧ ReprK X.prog X.w bs s.heap d.depth u d.shown) ∧ ∀ a, u = .ref a → ∃ T idr, ShowsBy X.prog X.w s.heap a d T idr
def ShwA (X : Cx) (s : Shared) (us : List Value) (ds : List PyData) : Prop := (∃ as, ReadsAll s.heap us ds as) ∧ ∃ bs, ReadAtMost s.heap (PyData.depthAll ds) bs ∧ ReprAllK X.prog X.w bs s.heap (PyData.depthAll ds) us (PyData.shownAll ds)
theorem Shw.list {a : Addr} {its : List Value} {ds : List PyData} (pl : PlainL s.heap a its.toArray) (A0 : ShwA X s its ds) (hz : (PyData.list ds).shown.length ≤ sizeLine) : Shw X s (.ref a) (.list ds) := by
  obtain ⟨o, n, ho, hc, _, hd⟩ := pl
  obtain ⟨⟨as, ra⟩, bs, hb, hk⟩ := A0
  have rd : Reads s.heap (.ref a) (.list ds) (a :: as) := .list ho hc hd ra
  have na : a ∉ bs := not_mem_of_deeper rd (by simp only [PyData.depth]; omega) hb
  refine ⟨⟨_, rd⟩, ⟨a :: bs, fun b hm => ?_, ?_⟩, fun a' e => ?_⟩
  · rcases List.mem_cons.mp hm with e | hm
    · rw [e]; exact ⟨_, _, rd, Nat.le_refl _⟩
    · obtain ⟨d', as', r', hd'⟩ := hb b hm
      exact ⟨d', as', r', by simp only [PyData.depth]; omega⟩
  · simp only [PyData.depth, PyData.shown]
    cases its with
    | nil => cases ra; simp only [PyData.shownAll, listText_nil]; exact ReprK.listEmpty ho hc hd
    | cons x l => exact ReprK.list ho hc hd na (by simpa using hk.length_eq) fun i y e => hk.item i y (by simpa using e)
  · cases e
    refine ⟨"list", "list.__repr__", F.slot_list_repr.toG, F.slot_list_str, F.slot_list_format, fun s2 k0 => ⟨o, k0 _ _ ho, hc⟩, fun A2 E2 s2 Q2 hg hu k0 hQ => ?_⟩
    simp only [PyData.depth] at hu
    simp only [PyData.shown] at hQ hz
    cases its with
    | nil => cases ra; simp only [PyData.shownAll, listText_nil] at hQ; exact call_list_repr_empty ⟨o, k0 _ _ ho, hc⟩ (k0 _ _ ho) hd (hQ s2.heap _ _ fun _ _ e => e)
    | cons x l => exact call_list_reprK ho hc hd na (by simpa using hk.length_eq) (fun i y e => hk.item i y (by simpa using e)) hg (fun b _ => Clear.nil b) hu k0 hQ hz
theorem Shw.tup {a : Addr} {its : List Value} {ds : List PyData} (pl : IsTup s.heap a its.toArray) (A0 : ShwA X s its ds) (hz : (PyData.tuple ds).shown.length ≤ sizeLine) : Shw X s (.ref a) (.tuple ds) := by
  obtain ⟨o, ho, hc, n, hd⟩ := pl
  obtain ⟨⟨as, ra⟩, bs, hb, hk⟩ := A0
  have rd : Reads s.heap (.ref a) (.tuple ds) as := .tuple ho hc hd ra
  have na : a ∉ bs := not_mem_of_deeper rd (by simp only [PyData.depth]; omega) hb
  refine ⟨⟨_, rd⟩, ⟨a :: bs, fun b hm => ?_, ?_⟩, fun a' e => ?_⟩
  · rcases List.mem_cons.mp hm with e | hm
    · rw [e]; exact ⟨_, _, rd, Nat.le_refl _⟩
    · obtain ⟨d', as', r', hd'⟩ := hb b hm
      exact ⟨d', as', r', by simp only [PyData.depth]; omega⟩
  · simp only [PyData.depth, PyData.shown]
    exact ReprK.tuple ho hc hd na hk
  · cases e
    refine ⟨"tuple", "tuple.__repr__", F.slot_tuple_repr, F.slot_tuple_str, F.slot_tuple_format, fun s2 k0 => ⟨o, k0 _ _ ho, hc⟩, fun A2 E2 s2 Q2 hg hu k0 hQ => ?_⟩
    simp only [PyData.depth] at hu
    simp only [PyData.shown] at hQ hz
    exact call_tuple_reprK ho hc hd na hk hg (fun b _ => Clear.nil b) hu k0 hQ hz
theorem Shw.flat {v : Value} {d : PyData} {t : Str} (rd : ∃ as, Reads s.heap v d as) (r : ReprIs X.prog X.w v t) (e : d.shown = t) (nr : ∀ a, v ≠ .ref a) : Shw X s v d :=
  ⟨rd, ⟨[], (fun _ h => nomatch h), by rw [e]; exact .of_is r _ _ _⟩, fun a e => absurd e (nr a)⟩
theorem shown_le {t : Str} {ds : List PyData} (h : t ∈ PyData.shownAll ds) : t.length ≤ (listText (PyData.shownAll ds)).length ∧ t.length ≤ (tupleText (PyData.shownAll ds)).length := ⟨listText_mem_le h, tupleText_mem_le h⟩
mutual
theorem RD.shw (I : Inv X pins σ H s) : ∀ (d : D) (v : V) (u : Value) (n : Nat), D.shpE n d = true → RD X.K H v d → RelV v u → PyData.showable d.toPy = true → d.toPy.shown.length ≤ sizeLine → Shw X s u d.toPy
  | .none, v, u, n, hs, h, r, _, _ => by
    have h : v = .non := by simpa only [RD, RepD] using h
    subst h; cases r
    exact .flat ⟨_, Reads.none⟩ ReprIs.none (by simp only [D.toPy, PyData.shown]) (fun _ z => nomatch z)
  | .bool b, v, u, n, hs, h, r, _, _ => by
    have h : v = .bl b := by simpa only [RD, RepD] using h
    subst h; cases r
    exact .flat ⟨_, Reads.bool b⟩ (ReprIs.bool b) (by simp only [D.toPy, PyData.shown]) (fun _ z => nomatch z)
  | .int i, v, u, n, hs, h, r, sh, _ => by
    have h : v = .int i := by simpa only [RD, RepD] using h
    subst h; obtain ⟨t, rfl⟩ := r
    exact .flat ⟨_, Reads.int i t⟩ (ReprIs.int t (by simpa [D.toPy, PyData.showable] using sh)) (by simp only [D.toPy, PyData.shown]) (fun _ z => nomatch z)
  | .str x, v, u, n, hs, h, r, _, hz => by
    have h : v = .str x := by simpa only [RD, RepD] using h
    subst h; obtain ⟨t, rfl⟩ := r
    exact .flat ⟨_, Reads.str x t⟩ (ReprIs.str x t (by simpa only [D.toPy, PyData.shown] using hz)) (by simp only [D.toPy, PyData.shown]) (fun _ z => nomatch z)
  | .list ds, v, u, 0, hs, h, r, _, _ => by simp [D.shpE] at hs
  | .tup ds, v, u, 0, hs, h, r, _, _ => by simp [D.shpE] at hs
  | .list ds, v, u, n + 1, hs, h, r, sh, hz => by
    simp only [RD, RepD] at h
    obtain ⟨a, vs, rfl, hl, hr⟩ := h
    cases r
    obtain ⟨its, rv, pl, _⟩ := I.list hl.sq
    simp only [D.toPy] at hz sh ⊢
    exact Shw.list pl (RDs.shw I ds vs its n (by simpa only [D.shpE] using hs) hr rv (by simpa [PyData.showable] using sh) fun t ht => Nat.le_trans (shown_le ht).1 (by simpa only [PyData.shown] using hz)) hz
  | .tup ds, v, u, n + 1, hs, h, r, sh, hz => by
    simp only [RD, RepD] at h
    obtain ⟨a, vs, rfl, hl, hr⟩ := h
    cases r
    obtain ⟨its, rv, pl, _⟩ := I.tuple hl.sq
    simp only [D.toPy] at hz sh ⊢
    exact Shw.tup pl (RDs.shw I ds vs its n (by simpa only [D.shpE] using hs) hr rv (by simpa [PyData.showable] using sh) fun t ht => Nat.le_trans (shown_le ht).2 (by simpa only [PyData.shown] using hz)) hz
  | .dict [] [], v, u, n, hs, h, r, _, _ => by
    simp only [RD, RepD] at h
    obtain ⟨a, vs, rfl, _, ha, _⟩ := h
    obtain rfl : u = Value.ref a := r
    obtain ⟨_, hsys, kv, rel, dof⟩ := dk_of I.hok ha
    cases rel
    obtain ⟨ep, ob, es, ho, hex, hdat, hko, hpr, hnd⟩ := dof.dictAt
    have he : es.toList = [] := by
      generalize es.toList = l at hpr
      cases hpr
      rfl
    have rd : Reads s.heap (.ref a) (.dict []) [a] := .dict (as := []) (bs := []) ho hex.1 hdat (by rw [he]; exact .nil) (by rw [he]; exact .nil)
    have sy : sysModules ∉ [a] := fun z => by
      rw [List.mem_singleton] at z
      rw [← z] at hsys
      simp at hsys
    have zz : (PyData.dict []).shown.length ≤ sizeLine := by rw [sizeLine_eq]; decide +kernel
    simp only [D.toPy]
    refine ⟨⟨_, rd⟩, ReprK.of_reads rd (by decide +kernel) (fun _ => sy) zz, fun a' e => ?_⟩
    cases e
    exact showsBy_of_reads rd (by decide +kernel) (fun _ => sy) zz
  | .dict (_ :: _) _, v, u, n, hs, _, _, _, _ => by cases n <;> simp [D.shpE] at hs
  | .dict [] (_ :: _), v, u, n, hs, _, _, _, _ => by cases n <;> simp [D.shpE] at hs
  | .ins _ _, v, u, n, hs, _, _, _, _ => by cases n <;> simp [D.shpE] at hs
  | .ltp _, v, u, n, hs, _, _, _, _ => by cases n <;> simp [D.shpE] at hs
theorem RDs.shw (I : Inv X pins σ H s) : ∀ (ds : List D) (vs : List V) (us : List Value) (n : Nat), D.shpsE n ds = true → RDs X.K H vs ds → Vals vs us → PyData.showableAll (D.toPys ds) = true → (∀ t ∈ PyData.shownAll (D.toPys ds), t.length ≤ sizeLine) → ShwA X s us (D.toPys ds)
  | [], [], us, n, hs, h, r, _, _ => by
    cases r
    simp only [D.toPys]
    exact ⟨⟨_, .nil⟩, [], (fun _ h => nomatch h), by simp only [PyData.shownAll]; exact .nil⟩
  | [], _ :: _, _, _, _, h, _, _, _ => by simp only [RDs, RepDs] at h
  | _ :: _, [], _, _, _, h, _, _, _ => by simp only [RDs, RepDs] at h
  | d :: ds, v :: vs, us, n, hs, h, r, sh, hz => by
    simp only [RDs, RepDs] at h
    cases r with
    | cons r1 r2 =>
      simp only [D.toPys] at sh hz ⊢
      have sh : PyData.showable d.toPy = true ∧ PyData.showableAll (D.toPys ds) = true := by simpa [PyData.showableAll] using sh
      obtain ⟨⟨as, ra⟩, ⟨b1, hb1, k1⟩, _⟩ := RD.shw I d v _ n (shpsE_cons hs).1 h.1 r1 sh.1 (hz _ (by simp only [PyData.shownAll]; exact List.mem_cons_self))
      obtain ⟨⟨bs, rb⟩, b2, hb2, k2⟩ := RDs.shw I ds vs _ n (shpsE_cons hs).2 h.2 r2 sh.2 (fun t ht => hz t (by simp only [PyData.shownAll]; exact List.mem_cons_of_mem _ ht))
      refine ⟨⟨_, .cons ra rb⟩, b1 ++ b2, ?_, ?_⟩
      · simp only [PyData.depthAll]
        exact (hb1.mono (Nat.le_max_left _ _)).append (hb2.mono (Nat.le_max_right _ _))
      · simp only [PyData.depthAll, PyData.shownAll]
        exact .cons ((k1.more fun b hb => List.mem_append_left _ hb).level_le (Nat.le_max_left _ _)) (k2.more_le (fun b hb => List.mem_append_right _ hb) (Nat.le_max_right _ _))
end
theorem call_reprD9 (hu : X.A.units + 65 < cLine) (gd : X.A.guards = some []) {d : D} (h : (d.shpE 60 && PyData.showable d.toPy && decide (d.toPy.shown.length ≤ sizeLine)) = true) : CallR X (.builtin "repr") (fun xs H Q => ∃ v, xs = [v] ∧ RD X.K H v d ∧ Q (.str d.toPy.shown) H) := by
  intro pins s σ H xs us Q I r ⟨v, e, hd, q⟩
  subst e
  simp only [Bool.and_eq_true, decide_eq_true_eq] at h
  obtain ⟨⟨h1, h2⟩, h3⟩ := h
  obtain ⟨u, rfl, rv⟩ := vals1 r
  have sw := RD.shw I d v u 60 h1 hd rv h2 h3
  have dd := shpE_depth d 60 h1
  have big : ∀ a, u = .ref a → wpAny (model X.prog X.w) X.A (call (.builtin "repr") [u]) (EP X pins σ Q) X.xe s := fun a e => by
    subst e
    obtain ⟨T, idr, S⟩ := sw.2.2 a rfl
    exact call_repr_slot (by omega) (S.typeIs s fun _ _ e => e) S.slotRepr (S.call X.A.in1 X.xe s _ gd (by show X.A.units + 1 + d.toPy.depth < cLine; omega) (fun _ _ e => e) fun h' u tk hk => ⟨_, _, rfl, .str _, H, I.kept hk, ⟨_, rfl⟩, q⟩)
  cases d with
  | none =>
    have : v = .non := by simpa only [RD, RepD] using hd
    subst this; cases rv
    exact PySem.P.repr_of_none ⟨.str _, H, I.tok _, ⟨_, rfl⟩, by simpa only [D.toPy, PyData.shown] using q⟩
  | bool b =>
    have : v = .bl b := by simpa only [RD, RepD] using hd
    subst this; cases rv
    exact PySem.P.repr_of_bool ⟨.str _, H, I.tok _, ⟨_, rfl⟩, by simpa only [D.toPy, PyData.shown] using q⟩
  | int i =>
    have : v = .int i := by simpa only [RD, RepD] using hd
    subst this; obtain ⟨tk, rfl⟩ := rv
    have h2' : i.natAbs.log2 < 1920 := by simpa only [D.toPy, PyData.showable, decide_eq_true_eq] using h2
    exact PySem.P.repr_of_int h2' ⟨.str _, H, I.tok _, ⟨_, rfl⟩, by simpa only [D.toPy, PyData.shown] using q⟩
  | str x =>
    have : v = .str x := by simpa only [RD, RepD] using hd
    subst this; obtain ⟨tk, rfl⟩ := rv
    exact PySem.P.repr_of_str ⟨.str _, H, I.tok _, ⟨_, rfl⟩, by simpa only [D.toPy, PyData.shown] using q⟩ (by simpa only [D.toPy, PyData.shown] using h3)
  | list ds =>
    simp only [RD, RepD] at hd
    obtain ⟨a, vs, rfl, _⟩ := hd
    exact big a rv
  | tup ds =>
    simp only [RD, RepD] at hd
    obtain ⟨a, vs, rfl, _⟩ := hd
    exact big a rv
  | dict ks ds =>
    simp only [RD, RepD] at hd
    obtain ⟨a, vs, rfl, _⟩ := hd
    exact big a rv
  | ins fs ds => simp [D.shpE] at h1
  | ltp ds => simp [D.shpE] at h1
end
end
theorem call_reprD (hu : X.A.units + 65 < cLine) (gd : X.A.guards = some []) {d : D} (h : reprOk d = true) : CallR X (.builtin "repr") (fun xs H Q => ∃ v, xs = [v] ∧ RD X.K H v d ∧ Q (.str d.toPy.shown) H) := call_reprD9 hu gd h
theorem call_appB (hc : X.calm = true) (hu : X.A.units + 65 < cLine) (gd : X.A.guards = some []) {f : Blt} {ts : List T} (h : appB f ts = some t) (hf : isTy f = none) : CallR X (bltV f) (CB X.K ts t) := by
  unfold appB at h
  split at h <;> (try (cases hf; done))
  · rename_i ds
    cases h
    refine CallR.mono' call_len ?_
    rintro vs H Q ⟨F, fa, hF, hr, q⟩
    obtain ⟨v, rfl, hv⟩ := treps1 hr
    simp only [TRep, RepD] at hv
    obtain ⟨_, a, ws, rfl, hl, hr⟩ := hv
    exact ⟨_, ds.length, rfl, .inl ⟨ws, hl.sq, hr.len.symm⟩, q _ _ res_int⟩
  · rename_i ds
    cases h
    refine CallR.mono' call_len ?_
    rintro vs H Q ⟨F, fa, hF, hr, q⟩
    obtain ⟨v, rfl, hv⟩ := treps1 hr
    simp only [TRep, RepD] at hv
    obtain ⟨_, a, ws, rfl, hl, hr⟩ := hv
    exact ⟨_, ds.length, rfl, .inr ⟨ws, hl.sq, hr.len.symm⟩, q _ _ res_int⟩
  · rename_i ts
    cases h
    refine CallR.mono' call_len ?_
    rintro vs H Q ⟨F, fa, hF, hr, q⟩
    obtain ⟨v, rfl, hv⟩ := treps1 hr
    simp only [TRep] at hv
    obtain ⟨a, ws, fq, rfl, rfl, nf, ha, hr⟩ := hv
    exact ⟨_, ts.length, rfl, .inl ⟨ws, SqL.of ha, hr.len.symm⟩, q _ _ res_int⟩
  · cases h
    refine CallR.mono' call_abs ?_
    rintro vs H Q ⟨F, fa, hF, hr, q⟩
    obtain ⟨v, rfl, hv⟩ := treps1 hr
    exact ⟨_, by rw [trep_int hv], q _ _ res_int⟩
  · cases h
    refine CallR.mono' call_int1 ?_
    rintro vs H Q ⟨F, fa, hF, hr, q⟩
    obtain ⟨v, rfl, hv⟩ := treps1 hr
    exact .inl ⟨_, by rw [trep_int hv], q _ _ res_int⟩
  · cases h
    refine CallR.mono' call_int1 ?_
    rintro vs H Q ⟨F, fa, hF, hr, q⟩
    obtain ⟨v, rfl, hv⟩ := treps1 hr
    exact .inr ⟨_, by rw [trep_bool hv], q _ _ res_int⟩
  · obtain ⟨ds, e, rfl⟩ := Option.map_eq_some_iff.mp h
    refine CallR.mono' call_list_of ?_
    rintro vs H Q ⟨F, fa, hF, hr, q⟩
    obtain ⟨v, rfl, hv⟩ := treps1 hr
    obtain ⟨a, ws, rfl, hl, hr, _⟩ := seqT_rep e hv
    exact ⟨a, ws, rfl, hl, fun l hl => q _ _ (res_fl hl hF hr)⟩
  · obtain ⟨ds, e, rfl⟩ := Option.map_eq_some_iff.mp h
    refine CallR.mono' call_tupleX ?_
    rintro vs H Q ⟨F, fa, hF, hr, q⟩
    obtain ⟨v, rfl, hv⟩ := treps1 hr
    obtain ⟨a, ws, rfl, _, hr, hk⟩ := seqT_rep e hv
    rcases hk with ⟨d, rfl⟩ | hk
    · cases e
      simp only [TRep, RepD] at hv
      obtain ⟨_, a', ws', e', hl, hr'⟩ := hv
      cases e'
      exact ⟨a, ws', rfl, .inr ⟨hl.sq, q _ _ (.same (by simp only [RepD]; exact ⟨a, ws', rfl, hl, hr'⟩))⟩⟩
    · exact ⟨a, ws, rfl, .inl ⟨hk, fun l o hl ho => q _ _ (res_tup hl ho hr)⟩⟩
  · split at h
    · rename_i hok
      cases h
      refine CallR.mono' (call_reprD hu gd hok) ?_
      rintro vs H Q ⟨F, fa, hF, hr, q⟩
      obtain ⟨v, rfl, hv⟩ := treps1 hr
      exact ⟨v, rfl, hv.rd, q _ _ res_str⟩
    · cases h
  · split at h
    · rename_i ds e
      split at h
      · rename_i ok
        cases h
        refine CallR.mono' (cr_sortedD hu) ?_
        rintro vs H Q ⟨F, fa, hF, hr, q⟩
        obtain ⟨v, rfl, hv⟩ := treps1 hr
        obtain ⟨a, ws, rfl, hs, hr, _⟩ := seqT_rep e hv
        exact ⟨F, a, ws, ds, rfl, hs, ok, hr, fun ws' p rep hp => q _ _ (res_fl hp hF rep)⟩
      · cases h
    · cases h
  · split at h
    · rename_i ds e
      obtain ⟨ns, e2, rfl⟩ := Option.map_eq_some_iff.mp h
      refine CallR.mono' (cr_all hc) ?_
      rintro vs H Q ⟨F, fa, hF, hr, q⟩
      obtain ⟨v, rfl, hv⟩ := treps1 hr
      obtain ⟨a, rfl, hs⟩ := flat_bools e e2 hv
      exact ⟨a, ns, rfl, hs, q _ _ res_bool⟩
    · cases h
  · split at h
    · rename_i ds e
      obtain ⟨ns, e2, rfl⟩ := Option.map_eq_some_iff.mp h
      refine CallR.mono' (cr_any hc) ?_
      rintro vs H Q ⟨F, fa, hF, hr, q⟩
      obtain ⟨v, rfl, hv⟩ := treps1 hr
      obtain ⟨a, rfl, hs⟩ := flat_bools e e2 hv
      exact ⟨a, ns, rfl, hs, q _ _ res_bool⟩
    · cases h
  · split at h
    · rename_i ds e
      obtain ⟨ns, e2, rfl⟩ := Option.map_eq_some_iff.mp h
      refine CallR.mono' (cr_sum hc) ?_
      rintro vs H Q ⟨F, fa, hF, hr, q⟩
      obtain ⟨v, rfl, hv⟩ := treps1 hr
      obtain ⟨a, rfl, hs⟩ := flat_ints e e2 hv
      exact ⟨a, ns, rfl, hs, q _ _ res_int⟩
    · cases h
  · split at h
    · rename_i ds e
      split at h
      · rename_i n ns e2
        cases h
        refine CallR.mono' (cr_maxA hc hu) ?_
        rintro vs H Q ⟨F, fa, hF, hr, q⟩
        obtain ⟨v, rfl, hv⟩ := treps1 hr
        obtain ⟨a, rfl, hs⟩ := seq_ints e e2 hv
        exact ⟨a, n, ns, rfl, hs, by show Q (V.int (ns.foldl max n)) H; rw [maxI_fold]; exact q _ _ res_int⟩
      · cases h
    · cases h
  · split at h
    · rename_i ds e
      split at h
      · rename_i n ns e2
        cases h
        refine CallR.mono' (cr_minA hc hu) ?_
        rintro vs H Q ⟨F, fa, hF, hr, q⟩
        obtain ⟨v, rfl, hv⟩ := treps1 hr
        obtain ⟨a, rfl, hs⟩ := seq_ints e e2 hv
        exact ⟨a, n, ns, rfl, hs, by show Q (V.int (ns.foldl min n)) H; rw [minI_fold]; exact q _ _ res_int⟩
      · cases h
    · cases h
  · cases h
    refine CallR.mono' (call_max2 hc) ?_
    rintro vs H Q ⟨F, fa, hF, hr, q⟩
    obtain ⟨v, w, f1, f2, rfl, hv, hw⟩ := treps2 hr
    exact ⟨_, _, by rw [trep_int hv, trep_int hw], q _ _ res_int⟩
  · cases h
    refine CallR.mono' (call_min2 hc) ?_
    rintro vs H Q ⟨F, fa, hF, hr, q⟩
    obtain ⟨v, w, f1, f2, rfl, hv, hw⟩ := treps2 hr
    exact ⟨_, _, by rw [trep_int hv, trep_int hw], q _ _ res_int⟩
  · split at h
    · rename_i i j hl
      cases h
      simp only [Bool.and_eq_true, decide_eq_true_eq] at hl
      refine CallR.mono' call_divmodW ?_
      rintro vs H Q ⟨F, fa, hF, hr, q⟩
      obtain ⟨v, w, f1, f2, rfl, hv, hw⟩ := treps2 hr
      refine ⟨i, j, by rw [trep_int hv, trep_int hw], ⟨hl.1, PyProof.noPylong_of_log2 (log2_okI hl.2)⟩, fun p hp => q _ _ (res_ltp hp ?_)⟩
      simp only [RepDs, RepD, and_self]
    · cases h
  · cases h
end
end Mv

end
section
namespace Mv
open PySem PySem.Spec PyProof.Rows L2
def tE (K : PySem.W.Frag) (iov : Nat → Option V) (ρ : Env) (a : Val) (ρ' : Env) (wr : Bool) : TE := fun σ H Q => ∃ F fp, SR K iov [] F H σ ρ fp ∧
  ∀ v H' F' fp' fpv, SR K iov [] F' H' σ ρ' fp' → VR K F' H' σ a v fpv → Post F H fp F' H' fp' fpv wr → Q v H'
def tT (K : PySem.W.Frag) (iov : Nat → Option V) (ρ : Env) (b : Bool) (ρ' : Env) (wr : Bool) : TT := fun σ H Q => ∃ F fp, SR K iov [] F H σ ρ fp ∧
  ∀ H' F' fp', SR K iov [] F' H' σ ρ' fp' → Post F H fp F' H' fp' [] wr → Q b H'
def tA (K : PySem.W.Frag) (iov : Nat → Option V) (ρ : Env) (as : List Val) (ρ' : Env) (wr : Bool) : TA := fun σ H Q => ∃ F fp, SR K iov [] F H σ ρ fp ∧
  ∀ vs H' F' fp' fpv, SR K iov [] F' H' σ ρ' fp' → VRs K F' H' σ as vs fpv → Post F H fp F' H' fp' fpv wr → Q vs H'
theorem PE.imp' {X : Cx} {e : Expr} {t t' : TE} (h : PE X e t) (k : ∀ σ H Q, t' σ H Q → t σ H Q) : PE X e t' := ⟨fun pins s σ H Q I q => h.run pins s σ H Q I (k _ _ _ q)⟩
theorem PT.imp' {X : Cx} {e : Expr} {t t' : TT} (h : PT X e t) (k : ∀ σ H Q, t' σ H Q → t σ H Q) : PT X e t' := ⟨fun pins s σ H Q I q => h.run pins s σ H Q I (k _ _ _ q)⟩
theorem PW.imp' {X : Cx} {e : Expr} {t t' : TT} (h : PW X e t) (k : ∀ σ H Q, t' σ H Q → t σ H Q) : PW X e t' := ⟨fun w pins s σ H Q I q => h.run w pins s σ H Q I (k _ _ _ q)⟩
theorem PA.imp' {X : Cx} {e : List Expr} {t t' : TA} (h : PA X e t) (k : ∀ σ H Q, t' σ H Q → t σ H Q) : PA X e t' := ⟨fun p pins s σ H Q I q => h.run p pins s σ H Q I (k _ _ _ q)⟩
section
variable {X : Cx} {iov : Nat → Option V} {F F1 F2 F' : Addr → Prop} {H H1 H2 H' : Hp} {fp fp1 fp2 fp' : Fp} {fa fb fx fpv : List Addr} {t x y : T} {v vx vy : V} {b : Bool} {ρ ρ1 ρ2 ρ3 ρ' : Env} {wr wa wb wc : Bool} {va vb vc : Val} {σ : L2.St}
theorem Post.fin (P : Post F H fp F2 H2 fp2 fx wr) (h : ∀ b ∈ fx, ¬ F2 b ∧ H2 b ≠ none) (P' : Post F2 H2 fp2 F' H' fp' fpv false) : Post F H fp F' H' fp' fpv wr := by
  have := (P.trans P' h).drop
  simpa using this
theorem Post.sizes (P : Post F H fp F' H' fp' fpv wr) {w : Bool} (h : wr = w) : Post F H fp F' H' fp' fpv w := h ▸ P
theorem offs (h1 : ∀ b ∈ fa, ¬ F b ∧ H b ≠ none) (h2 : ∀ b ∈ fb, ¬ F b ∧ H b ≠ none) : ∀ b ∈ fa ++ fb, ¬ F b ∧ H b ≠ none := fun b hb => (List.mem_append.mp hb).elim (h1 b) (h2 b)
theorem two {R : V → V → Hp → Prop} {ta tb : TE} (hta : ta = tE X.K iov ρ va ρ1 wa) (htb : tb = tE X.K iov ρ1 vb ρ2 wb) (st : stands va wb = true) (S : SR X.K iov [] F H σ ρ fp)
    (k : ∀ vx vy H2 F2 fp2 fa fb, SR X.K iov [] F2 H2 σ ρ2 fp2 → VR X.K F2 H2 σ va vx fa → VR X.K F2 H2 σ vb vy fb → Post F H fp F2 H2 fp2 (fa ++ fb) (wa || wb) → R vx vy H2) :
    ta σ H fun x H1 => tb σ H1 fun y H2 => R x y H2 := by
  subst hta htb
  refine ⟨F, fp, S, fun vx H1 F1 fp1 fa S1 V1 P1 => ⟨F1, fp1, S1, fun vy H2 F2 fp2 fb S2 V2 P2 => ?_⟩⟩
  exact k vx vy H2 F2 fp2 fa fb S2 (V1.step P2 (fun i b hb => (S1.fpF i b hb).1) P1.disv st) V2 (P1.trans P2 V1.fps)
variable {e e1 e2 e3 : Expr} {pos : Pos}
theorem s_bin {op : Operator} (ha : PE X e1 (tE X.K iov ρ va ρ1 wa)) (hb : PE X e2 (tE X.K iov ρ1 vb ρ2 wb)) (st : stands va wb = true) (rx : Mv.resolve ρ2 va = some x) (ry : Mv.resolve ρ2 vb = some y) (h : binT op x y = some t) :
    PE X (.BinOp e1 op e2 pos) (tE X.K iov ρ (.t t) ρ2 (wa || wb)) := by
  refine PE.imp' (pe_op (op_binT h) ha hb) ?_
  rintro σ H Q ⟨F, fp, S, k⟩
  refine two rfl rfl st S fun vx vy H2 F2 fp2 fa fb S2 V1 V2 P => ?_
  obtain ⟨g1, r1⟩ := S2.rslv rx V1
  obtain ⟨g2, r2⟩ := S2.rslv ry V2
  refine ⟨F2, g1, g2, S2.trk, r1, r2, fun v H' pr => ?_⟩
  obtain ⟨F', fpv, S', tr, P'⟩ := S2.pure pr
  exact k v H' F' fp2 fpv S' tr (P.fin (offs V1.fps V2.fps) P')
theorem vr_bool (S : SR X.K iov [] F H σ ρ fp) : VR X.K F H σ (.t (.fz (.bool b))) (.bl b) [] := by
  show TRep _ _ _ _ _ _
  simp only [TRep, RepD, and_self]
theorem vr_int {i : Int} : VR X.K F H σ (.t (.fz (.int i))) (.int i) [] := by
  show TRep _ _ _ _ _ _
  simp only [TRep, RepD, and_self]
theorem s_cmp (hu : X.A.units + 65 < cLine) {op : CmpOp} (ha : PE X e1 (tE X.K iov ρ va ρ1 wa)) (hb : PE X e2 (tE X.K iov ρ1 vb ρ2 wb)) (st : stands va wb = true) (rx : Mv.resolve ρ2 va = some x) (ry : Mv.resolve ρ2 vb = some y) (h : cmpT op x y = some b)
    (hm : behindInMarks op e2 = false) : PE X (.Compare e1 [op] [e2] pos) (tE X.K iov ρ (.t (.fz (.bool b))) ρ2 (wa || wb)) := by
  refine PE.imp' (pe_cmpR (op_cmpT hu h) ha hb hm) ?_
  rintro σ H Q ⟨F, fp, S, k⟩
  refine two rfl rfl st S fun vx vy H2 F2 fp2 fa fb S2 V1 V2 P => ?_
  obtain ⟨g1, r1⟩ := S2.rslv rx V1
  obtain ⟨g2, r2⟩ := S2.rslv ry V2
  exact ⟨F2, g1, g2, r1, r2, k _ H2 F2 fp2 [] S2 (vr_bool S2) P.drop0⟩
theorem s_cmpT (hu : X.A.units + 65 < cLine) {op : CmpOp} (ha : PE X e1 (tE X.K iov ρ va ρ1 wa)) (hb : PE X e2 (tE X.K iov ρ1 vb ρ2 wb)) (st : stands va wb = true) (rx : Mv.resolve ρ2 va = some x) (ry : Mv.resolve ρ2 vb = some y) (h : cmpT op x y = some b)
    (hm : behindInMarks op e2 = false) : PT X (.Compare e1 [op] [e2] pos) (tT X.K iov ρ b ρ2 (wa || wb)) := by
  refine PT.imp' (pt_cmpR (op_cmpT hu h) ha hb hm) ?_
  rintro σ H Q ⟨F, fp, S, k⟩
  refine two (R := fun x y H2 => R2C X.K _ _ b x y H2 fun x H' => ∃ k, x = .bl k ∧ Q k H') rfl rfl st S fun vx vy H2 F2 fp2 fa fb S2 V1 V2 P => ?_
  obtain ⟨g1, r1⟩ := S2.rslv rx V1
  obtain ⟨g2, r2⟩ := S2.rslv ry V2
  exact ⟨F2, g1, g2, r1, r2, _, rfl, k H2 F2 fp2 S2 P.drop0⟩
theorem s_neg {i : Int} (ha : PE X e1 (tE X.K iov ρ (.t (.fz (.int i))) ρ1 wa)) : PE X (.UnaryOp .USub e1 pos) (tE X.K iov ρ (.t (.fz (.int (-i)))) ρ1 wa) := by
  refine PE.imp' (pe_un un_neg ha) ?_
  rintro σ H Q ⟨F, fp, S, k⟩
  refine ⟨F, fp, S, fun vx H1 F1 fp1 fa S1 V1 P1 => ⟨i, trep_int V1, k _ H1 F1 fp1 [] S1 vr_int P1.drop0⟩⟩
theorem s_notv {c : Bool} (ha : PE X e1 (tE X.K iov ρ (.t (.fz (.bool c))) ρ1 wa)) : PE X (.UnaryOp .Not e1 pos) (tE X.K iov ρ (.t (.fz (.bool (!c)))) ρ1 wa) := by
  refine PE.imp' (pe_not ha) ?_
  rintro σ H Q ⟨F, fp, S, k⟩
  refine ⟨F, fp, S, fun vx H1 F1 fp1 fa S1 V1 P1 => ⟨c, trep_bool V1, k _ H1 F1 fp1 [] S1 (vr_bool S1) P1.drop0⟩⟩
theorem s_const_int {i : Int} {j} : PE X (.Constant (.int i) j pos) (tE X.K iov ρ (.t (.fz (.int i))) ρ false) := by
  refine PE.imp' pe_int ?_
  rintro σ H Q ⟨F, fp, S, k⟩
  exact k _ H F fp [] S vr_int (.refl S)
theorem s_const_bool {i : Bool} {j} : PE X (.Constant (.bool i) j pos) (tE X.K iov ρ (.t (.fz (.bool i))) ρ false) := by
  refine PE.imp' pe_bl ?_
  rintro σ H Q ⟨F, fp, S, k⟩
  exact k _ H F fp [] S (vr_bool S) (.refl S)
theorem s_const_none {j} : PE X (.Constant .none j pos) (tE X.K iov ρ (.t (.fz .none)) ρ false) := by
  refine PE.imp' pe_non ?_
  rintro σ H Q ⟨F, fp, S, k⟩
  exact k _ H F fp [] S (by show TRep _ _ _ _ _ _; simp only [TRep, RepD, and_self]) (.refl S)
theorem s_const_str {i : Str} {j} : PE X (.Constant (.str i) j pos) (tE X.K iov ρ (.t (.fz (.str i))) ρ false) := by
  refine PE.imp' pe_str ?_
  rintro σ H Q ⟨F, fp, S, k⟩
  exact k _ H F fp [] S (by show TRep _ _ _ _ _ _; simp only [TRep, RepD, and_self]) (.refl S)
def GlV (X : Cx) (nm : Str) (d : D) : Prop := ∃ u v, X.mg nm = some u ∧ RelV v u ∧ RepD X.K (fun _ => False) (fun _ => none) v d
theorem s_gl {nm : Str} {d : D} (hg : Gl X nm) (g : GlV X nm d) (hd : (nm == ("__debug__" : Str)) = false) : PE X (.Name nm pos) (tE X.K iov ρ (.t (.fz d)) ρ false) := by
  obtain ⟨u, v, h1, h2, h3⟩ := g
  refine PE.imp' (pe_glob hg h1 h2 hd) ?_
  rintro σ H Q ⟨F, fp, S, k⟩
  exact k _ H F fp [] S (by show TRep _ _ _ _ _ _; simp only [TRep, true_and]; exact RepD.mono (fun _ h => h.elim) (fun _ _ h _ => h.elim) d v h3) (.refl S)
theorem Post.mvd (S : SR X.K iov [] F H σ ρ fp) {i : Nat} : Post F H fp F H (updF fp i []) (fp i) false where
  sub := fun _ h => h
  new := fun _ h => .inl h
  keep := fun _ _ h _ => h
  there := fun _ h => h
  fresh := fun j b hb => .inl ⟨j, updF_le (fun _ h => by cases h) j b hb⟩
  freshv := fun b hb => .inl ⟨i, hb⟩
  disv := fun j b hb hc => by
    by_cases hj : j = i
    · subst hj; rw [updF_same] at hb; cases hb
    · rw [updF_ne hj] at hb; exact hj (S.dis j i b hb hc)
  nodv := S.nod i
theorem s_mv {i : Nat} {nm : Str} (hN : X.N[i]? = some nm) (hv : Vis X.env.scope nm) (hd : (nm == ("__debug__" : Str)) = false) (hcd : (nm == ("__classdict__" : Str)) = false) (h : ρ[i]? = some (Slot.ow t)) :
    PE X (.Name nm pos) (tE X.K iov ρ (.t t) ((kills i .none ρ).set i .no) false) := by
  refine PE.imp' (pe_var hN hv hd hcd) ?_
  rintro σ H Q ⟨F, fp, S, k⟩
  obtain ⟨v, e, r, S'⟩ := S.move h
  exact ⟨v, e, k v H F _ (fp i) S' r (.mvd S)⟩
theorem getPt_fz {j k : Nat} {d : D} (S : SR X.K iov [] F H σ ρ fp) {v : V} (h : getPt ρ j (some k) = some (.fz d)) (r : VR X.K F H σ (.pt j (some k)) v fpv) : TRep X.K F H v (.fz d) [] := by
  obtain ⟨_, fq, _, _, q⟩ := S.gtPt h r
  simp only [TRep, true_and] at q ⊢
  exact q.2
theorem s_var {i : Nat} {nm : Str} (hN : X.N[i]? = some nm) (hv : Vis X.env.scope nm) (hd : (nm == ("__debug__" : Str)) = false) (hcd : (nm == ("__classdict__" : Str)) = false) (h : rdName ρ i = some va) :
    PE X (.Name nm pos) (tE X.K iov ρ va ρ false) := by
  refine PE.imp' (pe_var hN hv hd hcd) ?_
  rintro σ H Q ⟨F, fp, S, k⟩
  have go : ∀ t, slotT ρ[i]? = some t → va = (match t with | .fz d => .t (.fz d) | _ => .pt i .none) → tVar i σ H Q := fun t e1 e2 => by
    obtain ⟨v, e, r⟩ := S.slT e1
    refine ⟨v, e, k v H F fp [] S ?_ (.refl S)⟩
    cases t with
    | fz d => subst e2; show TRep _ _ _ _ _ _; simp only [TRep, true_and] at r ⊢; exact r.2
    | lst ts => subst e2; exact ⟨rfl, e⟩
    | tup ts => subst e2; exact ⟨rfl, e⟩
    | dct ks ts => subst e2; exact ⟨rfl, e⟩
  unfold rdName at h
  split at h
  · rename_i t e; exact go t (by rw [e]; rfl) (Option.some.inj h).symm
  · rename_i t e; exact go t (by rw [e]; rfl) (Option.some.inj h).symm
  · rename_i j l e
    obtain ⟨_, r⟩ := S.slot i _ e (by simp)
    rcases r with r | ⟨v, a, vs, h1, h2, h3, h4, h5⟩
    · cases r
    · refine ⟨v, h1, k v H F fp [] S ?_ (.refl S)⟩
      have r : VR X.K F H σ (.pt j (some l)) v [] := ⟨rfl, a, vs, h2, h3, h4⟩
      split at h
      · rename_i d e; cases h; exact getPt_fz S e r
      · cases h; exact r
      · cases h
  · cases h
theorem s_ite {c : Bool} {ec : Expr} {tc : TT} (hc : PT X ec (tT X.K iov ρ c ρ1 wc)) (ha : c = true → PE X e1 (tE X.K iov ρ1 va ρ2 wa)) (hb : c = false → PE X e2 (tE X.K iov ρ1 va ρ2 wa)) : PE X (.IfExp ec e1 e2 pos) (tE X.K iov ρ va ρ2 (wc || wa)) := by
  have pn : ∀ e, PE X e (fun _ _ _ => False) := fun e => ⟨fun _ _ _ _ _ _ q => q.elim⟩
  cases c with
  | true =>
    refine PE.imp' (pe_ifExp hc (ha rfl) (pn e2)) ?_
    rintro σ H Q ⟨F, fp, S, k⟩
    refine ⟨F, fp, S, fun H1 F1 fp1 S1 P1 => ?_⟩
    refine iteT ?_
    exact ⟨F1, fp1, S1, fun v H2 F2 fp2 fpv S2 V2 P2 => k v H2 F2 fp2 fpv S2 V2 (P1.trans P2 fun _ h => (nomatch h))⟩
  | false =>
    refine PE.imp' (pe_ifExp hc (pn e1) (hb rfl)) ?_
    rintro σ H Q ⟨F, fp, S, k⟩
    refine ⟨F, fp, S, fun H1 F1 fp1 S1 P1 => ?_⟩
    refine iteF ?_
    exact ⟨F1, fp1, S1, fun v H2 F2 fp2 fpv S2 V2 P2 => k v H2 F2 fp2 fpv S2 V2 (P1.trans P2 fun _ h => (nomatch h))⟩
theorem Post.more (P : Post F H fp F' H' fp' fpv wa) {w : Bool} (h : wa = true → w = true) : Post F H fp F' H' fp' fpv w :=
  ⟨P.sub, P.new, fun b o e z => P.keep b o e (z.imp (fun z => by cases wa with | false => rfl | true => rw [h rfl] at z; cases z) id), P.there, P.fresh, P.freshv, P.disv, P.nodv⟩
theorem tE.more {w : Bool} (he : PE X e (tE X.K iov ρ va ρ1 wa)) (h : wa = true → w = true) : PE X e (tE X.K iov ρ va ρ1 w) :=
  PE.imp' he fun σ H Q ⟨F, fp, S, k⟩ => ⟨F, fp, S, fun v H1 F1 fp1 fpv S1 V1 P1 => k v H1 F1 fp1 fpv S1 V1 (P1.more h)⟩
theorem tT.more {w : Bool} (he : PT X e (tT X.K iov ρ b ρ1 wa)) (h : wa = true → w = true) : PT X e (tT X.K iov ρ b ρ1 w) :=
  PT.imp' he fun σ H Q ⟨F, fp, S, k⟩ => ⟨F, fp, S, fun H1 F1 fp1 S1 P1 => k H1 F1 fp1 S1 (P1.more h)⟩
theorem tW.more {w : Bool} (he : PW X e (tT X.K iov ρ b ρ1 wa)) (h : wa = true → w = true) : PW X e (tT X.K iov ρ b ρ1 w) :=
  PW.imp' he fun σ H Q ⟨F, fp, S, k⟩ => ⟨F, fp, S, fun H1 F1 fp1 S1 P1 => k H1 F1 fp1 S1 (P1.more h)⟩
theorem s_boolop {op : BoolOp} {k1 : Bool} {es : List Expr} (ha : PE X e1 (tE X.K iov ρ (.t (.fz (.bool k1))) ρ1 wa)) (hb : (decide (op = .And)) = k1 → PE X (.BoolOp op (e2 :: es) pos) (tE X.K iov ρ1 vb ρ2 wb)) (hn : ¬ (decide (op = .And)) = k1 → vb = .t (.fz (.bool k1)) ∧ ρ2 = ρ1) :
    PE X (.BoolOp op (e1 :: e2 :: es) pos) (tE X.K iov ρ vb ρ2 (wa || wb)) := by
  have pn : ∀ e, PE X e (fun _ _ _ => False) := fun e => ⟨fun _ _ _ _ _ _ q => q.elim⟩
  by_cases h : (decide (op = .And)) = k1
  · have hb' := hb h
    clear hb
    cases op with
    | And =>
      have h : k1 = true := h.symm
      subst h
      refine PE.imp' (pe_and ha hb') ?_
      rintro σ H Q ⟨F, fp, S, k⟩
      refine ⟨F, fp, S, fun v H1 F1 fp1 fa S1 V1 P1 => ⟨true, trep_bool V1, ?_⟩⟩
      refine iteT ?_
      exact ⟨F1, fp1, S1, fun v H2 F2 fp2 fpv S2 V2 P2 => k v H2 F2 fp2 fpv S2 V2 (P1.drop0.trans P2 fun _ h => (nomatch h))⟩
    | Or =>
      have h : k1 = false := h.symm
      subst h
      refine PE.imp' (pe_or ha hb') ?_
      rintro σ H Q ⟨F, fp, S, k⟩
      refine ⟨F, fp, S, fun v H1 F1 fp1 fa S1 V1 P1 => ⟨false, trep_bool V1, ?_⟩⟩
      refine iteF ?_
      exact ⟨F1, fp1, S1, fun v H2 F2 fp2 fpv S2 V2 P2 => k v H2 F2 fp2 fpv S2 V2 (P1.drop0.trans P2 fun _ h => (nomatch h))⟩
  · obtain ⟨rfl, rfl⟩ := hn h
    cases op with
    | And =>
      have h : k1 = false := by cases k1 <;> simp_all
      subst h
      refine PE.imp' (pe_and ha (pn _)) ?_
      rintro σ H Q ⟨F, fp, S, k⟩
      refine ⟨F, fp, S, fun v H1 F1 fp1 fa S1 V1 P1 => ⟨false, trep_bool V1, ?_⟩⟩
      refine iteF ?_
      exact k _ H1 F1 fp1 [] S1 (vr_bool S1) (P1.drop0.more (by simp_all))
    | Or =>
      have h : k1 = true := by cases k1 <;> simp_all
      subst h
      refine PE.imp' (pe_or ha (pn _)) ?_
      rintro σ H Q ⟨F, fp, S, k⟩
      refine ⟨F, fp, S, fun v H1 F1 fp1 fa S1 V1 P1 => ⟨true, trep_bool V1, ?_⟩⟩
      refine iteT ?_
      exact k _ H1 F1 fp1 [] S1 (vr_bool S1) (P1.drop0.more (by simp_all))
theorem t_not (ha : PT X e1 (tT X.K iov ρ b ρ1 wa)) : PT X (.UnaryOp .Not e1 pos) (tT X.K iov ρ (!b) ρ1 wa) :=
  PT.imp' (pt_not ha) fun σ H Q ⟨F, fp, S, k⟩ => ⟨F, fp, S, fun H1 F1 fp1 S1 P1 => k H1 F1 fp1 S1 P1⟩
theorem t_val (ha : PE X e1 (tE X.K iov ρ va ρ1 wa)) (rx : Mv.resolve ρ1 va = some x) (h : truT x = some b) (he : ∀ whole, isTrue e1 X.env whole = (do let v ← whole; standAt e1.pos; holding [v] (truthy v))) : PT X e1 (tT X.K iov ρ b ρ1 wa) := by
  refine PT.imp' (pt_truth ha he) ?_
  rintro σ H Q ⟨F, fp, S, k⟩
  refine ⟨F, fp, S, fun v H1 F1 fp1 fa S1 V1 P1 => ?_⟩
  obtain ⟨g1, r1⟩ := S1.rslv rx V1
  exact ⟨b, truT_rep h r1, k H1 F1 fp1 S1 P1.drop0⟩
theorem t_bool1 {op : BoolOp} (ha : PT X e1 (tT X.K iov ρ b ρ1 wa)) : PW X (.BoolOp op [e1] pos) (tT X.K iov ρ b ρ1 wa) := by
  cases op with
  | And => exact pw_and1 ha
  | Or => exact pw_or1 ha
theorem t_bool {op : BoolOp} {k1 : Bool} {es : List Expr} (ha : PT X e1 (tT X.K iov ρ k1 ρ1 wa)) (hb : (decide (op = .And)) = k1 → PW X (.BoolOp op (e2 :: es) pos) (tT X.K iov ρ1 b ρ2 wb)) (hn : ¬ (decide (op = .And)) = k1 → b = k1 ∧ ρ2 = ρ1) :
    PW X (.BoolOp op (e1 :: e2 :: es) pos) (tT X.K iov ρ b ρ2 (wa || wb)) := by
  have pn : ∀ e, PW X e (fun _ _ _ => False) := fun e => ⟨fun _ _ _ _ _ _ _ q => q.elim⟩
  by_cases h : (decide (op = .And)) = k1
  · have hb' := hb h
    clear hb
    cases op with
    | And =>
      have h : k1 = true := h.symm
      subst h
      refine PW.imp' (pw_and ha hb') ?_
      rintro σ H Q ⟨F, fp, S, k⟩
      refine ⟨F, fp, S, fun H1 F1 fp1 S1 P1 => ?_⟩
      refine iteT ?_
      exact ⟨F1, fp1, S1, fun H2 F2 fp2 S2 P2 => k H2 F2 fp2 S2 (P1.trans P2 fun _ h => (nomatch h))⟩
    | Or =>
      have h : k1 = false := h.symm
      subst h
      refine PW.imp' (pw_or ha hb') ?_
      rintro σ H Q ⟨F, fp, S, k⟩
      refine ⟨F, fp, S, fun H1 F1 fp1 S1 P1 => ?_⟩
      refine iteF ?_
      exact ⟨F1, fp1, S1, fun H2 F2 fp2 S2 P2 => k H2 F2 fp2 S2 (P1.trans P2 fun _ h => (nomatch h))⟩
  · obtain ⟨rfl, rfl⟩ := hn h
    cases op with
    | And =>
      have h : b = false := by cases b <;> simp_all
      subst h
      refine PW.imp' (pw_and ha (pn _)) ?_
      rintro σ H Q ⟨F, fp, S, k⟩
      refine ⟨F, fp, S, fun H1 F1 fp1 S1 P1 => ?_⟩
      refine iteF ?_
      exact k H1 F1 fp1 S1 (P1.more (by simp_all))
    | Or =>
      have h : b = true := by cases b <;> simp_all
      subst h
      refine PW.imp' (pw_or ha (pn _)) ?_
      rintro σ H Q ⟨F, fp, S, k⟩
      refine ⟨F, fp, S, fun H1 F1 fp1 S1 P1 => ?_⟩
      refine iteT ?_
      exact k H1 F1 fp1 S1 (P1.more (by simp_all))
end
end Mv

end
section
namespace Mv
open PySem PySem.Spec PyProof.Rows L2
section
variable {X : Cx} {iov : Nat → Option V} {F F1 F2 F' : Addr → Prop} {H H1 H2 H' : Hp} {fp fp1 fp2 fp' : Fp} {fa fb fx fpv : List Addr} {t x y : T} {v vx vy : V} {b : Bool} {ρ ρ1 ρ2 ρ3 ρ' : Env} {wr wa wb wc : Bool} {va vb vc : Val} {σ : L2.St} {e e1 e2 e3 : Expr} {es : List Expr} {pos : Pos} {as : List Val}
def plainE : Expr → Bool
  | .Starred _ _ => false
  | _ => true
theorem star_plain (h : plainE e = true) (env : PySem.Env) : starEach (e :: es) env = (false, eval e env) :: starEach es env := by
  cases e <;> first | rfl | cases h
theorem a_nil : PA X [] (tA X.K iov ρ [] ρ false) := PA.imp' pa_nil fun σ H Q ⟨F, fp, S, k⟩ => k [] H F fp [] S rfl (.refl S)
theorem a_cons (hp : plainE e = true) (ha : PE X e (tE X.K iov ρ va ρ1 wa)) (hb : PA X es (tA X.K iov ρ1 as ρ2 wb)) (st : stands va wb = true) : PA X (e :: es) (tA X.K iov ρ (va :: as) ρ2 (wa || wb)) := by
  refine PA.imp' (pa_cons ha hb (star_plain hp _)) ?_
  rintro σ H Q ⟨F, fp, S, k⟩
  refine ⟨F, fp, S, fun vx H1 F1 fp1 fa S1 V1 P1 => ⟨F1, fp1, S1, fun vs H2 F2 fp2 fb S2 V2 P2 => ?_⟩⟩
  exact k (vx :: vs) H2 F2 fp2 (fa ++ fb) S2 ⟨fa, fb, rfl, V1.step P2 (fun i b hb => (S1.fpF i b hb).1) P1.disv st, V2⟩ (P1.trans P2 V1.fps)
theorem SR.fzVs : ∀ {as : List Val} {vs : List V} {ts : List T} {F fp fpv ρ ρ'}, SR X.K iov [] F H σ ρ fp → fzVals ρ as = some (ts, ρ') → VRs X.K F H σ as vs fpv → (∀ i b, b ∈ fp i → b ∉ fpv) → fpv.Nodup →
    ∃ F' fp', SR X.K iov [] F' H σ ρ' fp' ∧ TReps X.K F' H vs ts fpv ∧ Fz F fp F' fp'
  | [], [], ts, F, fp, fpv, ρ, ρ', S, h, r, hd, nd => by
    simp only [fzVals, Option.some.injEq, Prod.mk.injEq] at h
    obtain ⟨rfl, rfl⟩ := h
    exact ⟨F, fp, S, by simp only [TReps]; exact r, .refl⟩
  | [], _ :: _, _, _, _, _, _, _, _, _, r, _, _ => r.elim
  | _ :: _, [], _, _, _, _, _, _, _, _, r, _, _ => r.elim
  | a :: as, v :: vs, ts, F, fp, fpv, ρ, ρ', S, h, r, hd, nd => by
    obtain ⟨f1, f2, rfl, r1, r2⟩ := r
    unfold fzVals at h
    split at h
    · rename_i t ρ1 e1
      split at h
      · rename_i ts' ρ2 e2
        cases h
        have hd1 : ∀ i b, b ∈ fp i → b ∉ f1 := fun i b hb z => hd i b hb (List.mem_append_left _ z)
        have hd2 : ∀ i b, b ∈ fp i → b ∉ f2 := fun i b hb z => hd i b hb (List.mem_append_right _ z)
        have nd' := List.nodup_append.mp nd
        obtain ⟨F1, fp1, S1, tr, Z1⟩ := S.fzV e1 r1
        have tr1 : TRep X.K F1 H v t f1 := by
          rcases tr with tr | ⟨tr, e⟩
          · exact Z1.tmp tr hd1
          · rw [e]; rw [e] at tr; exact tr
        have r2' := VRs.fz Z1 r2 hd2
        obtain ⟨F2, fp2, S2, trs, Z2⟩ := SR.fzVs S1 e2 r2' (fun i b hb => hd2 i b (Z1.le i b hb)) nd'.2.1
        refine ⟨F2, fp2, S2, ?_, Z1.trans Z2⟩
        simp only [TReps]
        exact ⟨f1, f2, rfl, Z2.tmp tr1 (fun i b hb => hd1 i b (Z1.le i b hb)), trs⟩
      · cases h
    · cases h
theorem unfzs_rep {ts : List T} {ds : List D} {vs : List V} (e : T.unfzs ts = some ds) (h : TReps X.K F H vs ts fa) : fa = [] ∧ RepDs X.K F H vs ds := by
  rw [unfzs_eq e] at h
  exact TReps.fzs.mp h
theorem new_obj {o : HO} {p : Addr} (S : SR X.K iov [] F H σ ρ fp) (hp : H p = none) : SR X.K iov [] F (upd H p o) σ ρ fp :=
  S.step (fun _ h => h) (fun i b hb => (S.fpF i b hb).1) (upd_keep hp) fun b f => by
    have := S.trk b f
    cases e : H b with
    | none => exact absurd e this
    | some u => rw [upd_keep hp b u e]; simp
theorem Post.newO {o : HO} {p : Addr} (P : Post F H fp F' H' fp' fpv wr) (hp : H' p = none) (hv : ∀ b ∈ fpv, H' b ≠ none) (hf : ∀ i b, b ∈ fp' i → H' b ≠ none) : Post F H fp F' (upd H' p o) fp' (p :: fpv) wr where
  sub := P.sub
  new := P.new
  keep := fun b u e w => upd_keep hp b u (P.keep b u e w)
  there := fun b e => by
    have := P.there b e
    cases e' : H' b with
    | none => exact absurd e' this
    | some u => rw [upd_keep hp b u e']; simp
  fresh := P.fresh
  freshv := fun b hb => by
    rcases List.mem_cons.mp hb with rfl | hb
    · refine .inr ?_
      cases e : H b with
      | none => rfl
      | some u => exact absurd hp (P.there b (by rw [e]; simp))
    · exact P.freshv b hb
  disv := fun i b hb z => by
    rcases List.mem_cons.mp z with rfl | z
    · exact hf i b hb hp
    · exact P.disv i b hb z
  nodv := List.nodup_cons.mpr ⟨fun z => hv p z hp, P.nodv⟩
theorem s_list {ts : List T} (hn : es.length ≤ 1000) (ha : PA X es (tA X.K iov ρ as ρ1 wa)) (hl : as.length = es.length) (h : fzVals ρ1 as = some (ts, ρ2)) : PE X (.List es pos) (tE X.K iov ρ (.t (.lst ts)) ρ2 wa) := by
  refine PE.imp' (pe_lst ha) ?_
  rintro σ H Q ⟨F, fp, S, k⟩
  refine ⟨F, fp, S, fun vs H1 F1 fp1 fa S1 V1 P1 => ⟨?_, fun p hp => ?_⟩⟩
  · rw [← V1.len, hl]; exact Nat.le_trans hn (by rw [sizeLine_eq]; decide)
  · obtain ⟨F2, fp2, S2, tr, Z⟩ := SR.fzVs S1 h V1 P1.disv P1.nodv
    have P2 := P1.fz Z
    have of := TReps.fps _ _ _ tr
    refine k _ _ F2 fp2 (p :: fa) (new_obj S2 hp) ?_ (P2.newO hp (fun b hb => (of b hb).2) fun i b hb => (S2.fpF i b hb).2)
    show TRep _ _ _ _ _ _
    simp only [TRep]
    exact ⟨p, vs, fa, rfl, rfl, fun f => S2.trk p f hp, upd_same, TReps.mono (fun _ h => h) ts vs fa (fun b hb => (of b hb).1) (fun b o _ e => upd_keep hp b o e) tr⟩
theorem s_tup {ts : List T} {kk : Nat} (hn : es.length ≤ 1000) (ha : PA X es (tA X.K iov ρ as ρ1 wa)) (hl : as.length = es.length) (h : fzVals ρ1 as = some (ts, ρ2)) : PE X (.Tuple es kk pos) (tE X.K iov ρ (.t (mkTup ts)) ρ2 wa) := by
  refine PE.imp' (pe_tupX ha) ?_
  rintro σ H Q ⟨F, fp, S, k⟩
  refine ⟨F, fp, S, fun vs H1 F1 fp1 fa S1 V1 P1 => ⟨?_, fun p o hp ho => ?_⟩⟩
  · rw [← V1.len, hl]; exact Nat.le_trans hn (by rw [sizeLine_eq]; decide)
  · obtain ⟨F2, fp2, S2, tr, Z⟩ := SR.fzVs S1 h V1 P1.disv P1.nodv
    have P2 := P1.fz Z
    have of := TReps.fps _ _ _ tr
    unfold mkTup at k
    cases e : T.unfzs ts with
    | some ds =>
      rw [e] at k
      obtain ⟨ef, rd⟩ := unfzs_rep e tr
      obtain ⟨F3, fpv, S3, tr3, P3⟩ := S2.pure (res_tup hp ho rd)
      exact k _ _ F3 fp2 fpv S3 tr3 (P2.fin of P3)
    | none =>
      rw [e] at k
      refine k _ _ F2 fp2 (p :: fa) (new_obj S2 hp) ?_ (P2.newO hp (fun b hb => (of b hb).2) fun i b hb => (S2.fpF i b hb).2)
      show TRep _ _ _ _ _ _
      simp only [TRep]
      exact ⟨p, vs, fa, rfl, rfl, fun f => S2.trk p f hp, ⟨o, ho, upd_same⟩, TReps.mono (fun _ h => h) ts vs fa (fun b hb => (of b hb).1) (fun b o _ e => upd_keep hp b o e) tr⟩
theorem s_dict0 : PE X (.Dict [] [] pos) (tE X.K iov ρ (.t (.dct [] [])) ρ false) := by
  refine PE.imp' pe_dnewK ?_
  rintro σ H Q ⟨F, fp, S, k⟩
  intro p hp
  refine k _ _ F fp [p] (new_obj S hp) ?_ ((Post.refl S).newO hp (fun b hb => (nomatch hb)) fun i b hb => (S.fpF i b hb).2)
  show TRep _ _ _ _ _ _
  simp only [TRep]
  exact ⟨p, [], [], rfl, rfl, fun f => S.trk p f hp, upd_same, rfl, List.nodup_nil, by simp only [TReps]⟩
def plainIx : Expr → Bool
  | .Slice _ _ _ _ => false
  | _ => true
theorem plainIx_ok (h : plainIx e = true) : PlainIx e := fun o i => by
  cases e <;> first | rfl | cases h
theorem VR.tree (S : SR X.K iov [] F H σ ρ fp) {a : Val} {v : V} (h : Mv.resolve ρ a = some t) (r : VR X.K F H σ a v fpv) (hd : ∀ i b, b ∈ fp i → b ∉ fpv) : ∃ fq, TRep X.K F H v t fq ∧ ((a = .t t ∧ fq = fpv) ∨ ∃ j l, a = .pt j l ∧ fpv = [] ∧ getPt ρ j l = some t ∧ ∀ b ∈ fq, b ∈ fp j) := by
  cases a with
  | t u => cases h; exact ⟨fpv, r, .inl ⟨rfl, rfl⟩⟩
  | pt i k =>
    obtain ⟨f1, fq, f3, e, q⟩ := S.gtPt h r
    exact ⟨fq, q, .inr ⟨i, k, rfl, by cases k <;> exact r.1, h, fun b hb => by rw [e]; simp [hb]⟩⟩
theorem Post.part (P : Post F H fp F' H' fp' fpv wr) (hs : ∃ f1 f3, fpv = f1 ++ fx ++ f3) : Post F H fp F' H' fp' fx wr := by
  obtain ⟨f1, f3, rfl⟩ := hs
  refine ⟨P.sub, P.new, P.keep, P.there, P.fresh, fun b hb => P.freshv b (by simp [hb]), fun i b hb z => P.disv i b hb (by simp [z]), ?_⟩
  exact (List.nodup_append.mp (List.nodup_append.mp P.nodv).1).2.1
theorem s_ix {i t : T} {k : Option Nat} (hx : plainIx e2 = true) (ha : PE X e1 (tE X.K iov ρ va ρ1 wa)) (hb : PE X e2 (tE X.K iov ρ1 (.t i) ρ2 wb)) (st : stands va wb = true) (rx : Mv.resolve ρ2 va = some x) (hg : getIx x i = some (t, k)) (h : ixVal ρ2 va i = some vc) :
    PE X (.Subscript e1 e2 pos) (tE X.K iov ρ vc ρ2 (wa || wb)) := by
  refine PE.imp' (pe_ix (ix_T hg) ha hb (plainIx_ok hx)) ?_
  rintro σ H Q ⟨F, fp, S, kk⟩
  refine two rfl rfl st S fun vx vy H2 F2 fp2 fa fb S2 V1 V2 P => ?_
  have da : ∀ i b, b ∈ fp2 i → b ∉ fa := fun i b hb z => P.disv i b hb (List.mem_append_left _ z)
  obtain ⟨fq, tr, alt⟩ := V1.tree S2 rx da
  refine ⟨F2, fq, fb, tr, V2, fun v f1 f2 f3 ef trc hk => ?_⟩
  rcases alt with ⟨rfl, rfl⟩ | ⟨j, l, rfl, rfl, hgp, _⟩
  · simp only [ixVal, hg, Option.map_some, Option.some.injEq] at h
    subst h
    exact kk v H2 F2 fp2 f2 S2 trc (P.part ⟨f1, f3 ++ fb, by rw [ef]; simp⟩)
  · simp only [ixVal, hgp, hg] at h
    cases t with
    | fz d =>
      simp only [Option.some.injEq] at h
      subst h
      refine kk v H2 F2 fp2 [] S2 ?_ P.drop0
      show TRep _ _ _ _ _ _
      simp only [TRep, true_and] at trc ⊢
      exact trc.2
    | _ =>
      cases k with
      | none => simp at h
      | some k =>
        simp only at h
        split at h
        · rename_i hl
          simp only [Option.some.injEq] at h
          subst h hl
          obtain ⟨a, vs, e1, e2, e3⟩ := hk k (by rw [hg]; rfl)
          subst e1
          have hσ : σ[j]? = some (some (.ref a)) := V1.2
          exact kk v H2 F2 fp2 [] S2 ⟨rfl, a, vs, hσ, e2, e3⟩ P.drop0
        · cases h
theorem s_dix (hu : X.A.units + 65 < cLine) {ks : List Key} {ts : List T} {d : D} {dk : T} (hx : NoSl e2) (ha : PE X e1 (tE X.K iov ρ va ρ1 wa)) (hb : PE X e2 (tE X.K iov ρ1 (.t dk) ρ2 wb)) (st : stands va wb = true) (rx : Mv.resolve ρ2 va = some x) (hd : dictOf x = some (ks, ts)) (hf : dGet ks ts dk = some d) :
    PE X (.Subscript e1 e2 pos) (tE X.K iov ρ (.t (.fz d)) ρ2 (wa || wb)) := by
  unfold dGet at hf
  split at hf
  · rename_i dk
    split at hf
    · rename_i kk hk
      split at hf
      · rename_i t0 ht
        refine PE.imp' (pe_dget (by omega) ha hb hx) ?_
        rintro σ H Q ⟨F, fp, S, k⟩
        refine two rfl rfl st S fun vx vy H2 F2 fp2 fa fb S2 V1 V2 P => ?_
        obtain ⟨fq, tr⟩ := S2.rslv rx V1
        have V2 : TRep X.K F2 H2 vy (.fz dk) fb := V2
        simp only [TRep] at V2
        obtain ⟨a, vs, f2, rfl, h1, h2, h4⟩ := dict_rep hd tr
        have ek := keyOf_rep hk V2.2
        subst ek
        obtain ⟨v, g2, e1, r⟩ := (findK_T h4 h2).1 _ ht
        cases t0 with
        | fz d0 =>
          cases hf
          refine ⟨a, v, rfl, ?_, k v H2 F2 fp2 [] S2 ?_ P.drop0⟩
          · rw [← e1]; exact DGet.k h1
          · show TRep _ _ _ _ _ _
            simp only [TRep, true_and] at r ⊢
            exact r.2
        | _ => cases hf
      · cases hf
    · cases hf
  · cases hf
theorem s_get2 (hu : X.A.units + 65 < cLine) {x1 x3 : T} {ks ks1 : List Key} {ts ts1 : List T} {d dk df : D} {kk : Key} {apos cpos : Pos} (m : M2 X e1 "get" apos e2 e3 cpos) (ha : PE X e1 (tE X.K iov ρ va ρ1 wa)) (hb : PE X e2 (tE X.K iov ρ1 (.t (.fz dk)) ρ2 wb)) (hc : PE X e3 (tE X.K iov ρ2 (.t (.fz df)) ρ3 wc))
    (st : stands va (wb || wc) = true) (r1 : Mv.resolve ρ1 va = some x1) (d1 : dictOf x1 = some (ks1, ts1)) (r3 : Mv.resolve ρ3 va = some x3) (d3 : dictOf x3 = some (ks, ts)) (hk : keyOf dk = some kk) (hf : (findK kk ks ts = some (.fz d)) ∨ (findK kk ks ts = none ∧ d = df)) :
    PE X (.Call (.Attribute e1 "get" apos) [e2, e3] [] cpos) (tE X.K iov ρ (.t (.fz d)) ρ3 (wa || (wb || wc))) := by
  refine PE.imp' (pe_dget2 (by omega) ha hb hc m) ?_
  rintro σ H Q ⟨F, fp, S, k⟩
  have st1 : stands va wb = true := by cases va with | t _ => rfl | pt i l => cases l <;> cases wb <;> simp_all [stands]
  have st2 : stands va wc = true := by cases va with | t _ => rfl | pt i l => cases l <;> cases wc <;> simp_all [stands]
  refine ⟨F, fp, S, fun vx H1 F1 fp1 fa S1 V1 P1 => ?_⟩
  obtain ⟨q1, t1⟩ := S1.rslv r1 V1
  obtain ⟨a, vs1, _, rfl, h1, _⟩ := dict_rep d1 t1
  refine ⟨a, rfl, .inl ⟨_, .inl h1⟩, F1, fp1, S1, fun vy H2 F2 fp2 fb S2 V2 P2 => ⟨F2, fp2, S2, fun vz H3 F3 fp3 fc S3 V3 P3 => ?_⟩⟩
  have V1' := V1.step P2 (fun i b hb => (S1.fpF i b hb).1) P1.disv st1
  have P12 := P1.trans P2 V1.fps
  have V1'' := V1'.step P3 (fun i b hb => (S2.fpF i b hb).1) (fun i b hb z => P12.disv i b hb (List.mem_append_left _ z)) st2
  have V2' := VR.step P3 (fun i b hb => (S2.fpF i b hb).1) V2 P2.disv (rfl : stands (.t (.fz dk)) wc = true)
  obtain ⟨q3, t3⟩ := S3.rslv r3 V1''
  obtain ⟨a', vs3, _, ea, h3, l3, tr3⟩ := dict_rep d3 t3
  cases ea
  have V2' : TRep X.K F3 H3 vy (.fz dk) fb := V2'
  have V3 : TRep X.K F3 H3 vz (.fz df) fc := V3
  simp only [TRep] at V2' V3
  have ek := keyOf_rep hk V2'.2
  subst ek
  have P := (P12.trans P3 (offs V1'.fps V2.fps)).drop0
  rcases hf with hf | ⟨hf, rfl⟩
  · obtain ⟨v, g2, e1, r⟩ := (findK_T tr3 l3).1 _ hf
    refine ⟨some v, by rw [← e1]; exact DGet.k h3, k v H3 F3 fp3 [] S3 ?_ (P.sizes (by cases wa <;> cases wb <;> rfl))⟩
    show TRep _ _ _ _ _ _
    simp only [TRep, true_and] at r ⊢
    exact r.2
  · have e1 := (findK_T tr3 l3).2 hf
    refine ⟨none, by rw [← e1]; exact DGet.k h3, k vz H3 F3 fp3 [] S3 ?_ (P.sizes (by cases wa <;> cases wb <;> rfl))⟩
    show TRep _ _ _ _ _ _
    simp only [TRep, true_and]
    exact V3.2
theorem s_fzv (ha : PE X e (tE X.K iov ρ va ρ1 wa)) (h : fzVal ρ1 va = some (t, ρ2)) : PE X e (tE X.K iov ρ (.t (.fz t.toD)) ρ2 wa) := by
  refine PE.imp' ha ?_
  rintro σ H Q ⟨F, fp, S, k⟩
  refine ⟨F, fp, S, fun v H1 F1 fp1 fa S1 V1 P1 => ?_⟩
  obtain ⟨F2, fp2, S2, tr, Z⟩ := S1.fzV h V1
  have P2 := P1.fz Z
  have tr2 : TRep X.K F2 H1 v t fa := by
    rcases tr with tr | ⟨tr, e⟩
    · exact Z.tmp tr P1.disv
    · rw [e]; rw [e] at tr; exact tr
  have of := TRep.fps _ _ _ tr2
  have hn : ∀ i b, b ∈ fp2 i → ¬ (F2 b ∨ b ∈ fa) := fun i b hb z => z.elim (S2.fpF i b hb).1 (P2.disv i b hb)
  refine k v H1 (fun b => F2 b ∨ b ∈ fa) fp2 [] (S2.step (fun _ h => .inl h) hn (fun _ _ e => e) fun b hb => hb.elim (S2.trk b) fun z => (of b z).2) ?_ ?_
  · show TRep _ _ _ _ _ _
    simp only [TRep, true_and]
    exact TRep.fz (fun _ h => .inl h) t v fa (fun _ h => .inr h) tr2
  · exact ⟨fun b h => .inl (P2.sub b h), fun b h => h.elim (P2.new b) fun z => (P2.freshv b z).elim (fun z => .inr (.inl z)) fun z => .inr (.inr z), P2.keep, P2.there, P2.fresh, fun b h => (nomatch h), fun i b h z => (nomatch z), List.nodup_nil⟩
theorem s_blt (hc : X.calm = true) (hu : X.A.units + 65 < cLine) (gd : X.A.guards = some []) {f : Blt} {ts : List T} {p : Pos} {nm : Str} (en : nm = bltN f) (hg : Gl X nm) (hm : X.mg nm = none) (hp : plainE e = true) (hps : (backTo pos (starEach es X.env)).any (·.1) = false) (ha : PA X (e :: es) (tA X.K iov ρ as ρ1 wa)) (hr : Mv.resolves ρ1 as = some ts) (h : appB f ts = some t) (hf : isTy f = none) :
    PE X (.Call (.Name nm p) (e :: es) [] pos) (tE X.K iov ρ (.t t) ρ1 wa) := by
  subst en
  have hv := bltV_boot f
  have go : ∀ r : List V → Hp → VK → Prop, (∀ vs H Q, r vs H Q = CB X.K ts t vs H Q) → PE X (.Call (.Name (bltN f) p) (e :: es) [] pos) (tCB r (tA X.K iov ρ as ρ1 wa)) → PE X (.Call (.Name (bltN f) p) (e :: es) [] pos) (tE X.K iov ρ (.t t) ρ1 wa) := fun r er hpe => by
    refine PE.imp' hpe ?_
    rintro σ H Q ⟨F, fp, S, k⟩
    refine ⟨F, fp, S, fun vs H1 F1 fp1 fa S1 V1 P1 => ?_⟩
    show r vs H1 Q
    rw [er]
    obtain ⟨g1, r1⟩ := S1.rslvs hr V1
    refine ⟨F1, g1, S1.trk, r1, fun v H' pr => ?_⟩
    obtain ⟨F', fpv, S', tr, P'⟩ := S1.pure pr
    exact k v H' F' fp1 fpv S' tr (P1.fin V1.fps P')
  have hn : bltN f ≠ "__name__" := by cases f <;> decide
  have hdb : (bltN f == ("__debug__" : Str)) = false := by cases f <;> decide
  have key := call_appB hc hu gd h hf
  cases hvv : bltV f with
  | builtin id =>
    rw [hvv] at hv key
    exact go _ (fun _ _ _ => rfl) (pe_callB key hg hm hv ha hn hdb (star_plain hp _) hps)
  | type T =>
    rw [hvv] at hv key
    exact go _ (fun _ _ _ => rfl) (pe_callTy key hg hm hv ha hn hdb (star_plain hp _) hps)
  | _ => cases f <;> cases hvv
end
end Mv

end
section
namespace Mv
open PySem PySem.Spec PyProof.Rows L2
def tO (K : PySem.W.Frag) (iov : Nat → Option V) (ρ : Env) (l : Option Int) (ρ' : Env) (wr : Bool) : TO := fun σ H Q => ∃ F fp, SR K iov [] F H σ ρ fp ∧
  ∀ H' F' fp', SR K iov [] F' H' σ ρ' fp' → Post F H fp F' H' fp' [] wr → Q l H'
section
variable {X : Cx} {iov : Nat → Option V} {F F1 F2 F' : Addr → Prop} {H H1 H2 H' : Hp} {fp fp1 fp2 fp' : Fp} {fa fb fx fpv : List Addr} {t x y : T} {v vx vy : V} {b : Bool} {ρ ρ1 ρ2 ρ3 ρ' : Env} {wr wa wb wc : Bool} {va vb vc : Val} {σ : L2.St} {e e1 e2 e3 : Expr} {es : List Expr} {pos : Pos} {as : List Val}
theorem PO.imp' {X : Cx} {e : Option Expr} {t t' : TO} (h : PO X e t) (k : ∀ σ H Q, t' σ H Q → t σ H Q) : PO X e t' := ⟨fun pins s σ H Q I q => h.run pins s σ H Q I (k _ _ _ q)⟩
theorem o_none : PO X none (tO X.K iov ρ none ρ false) := PO.imp' po_none fun σ H Q ⟨F, fp, S, k⟩ => k H F fp S (.refl S)
theorem o_some {i : Int} (ha : PE X e (tE X.K iov ρ (.t (.fz (.int i))) ρ1 wa)) : PO X (some e) (tO X.K iov ρ (some i) ρ1 wa) :=
  PO.imp' (po_some ha) fun σ H Q ⟨F, fp, S, k⟩ => ⟨F, fp, S, fun v H1 F1 fp1 fa S1 V1 P1 => ⟨i, trep_int V1, k H1 F1 fp1 S1 P1.drop0⟩⟩
theorem s_sl {lo hi : Option Expr} {l h : Option Int} {p2 : Pos} (ha : PE X e (tE X.K iov ρ va ρ1 wa)) (hl : PO X lo (tO X.K iov ρ1 l ρ2 wb)) (hh : PO X hi (tO X.K iov ρ2 h ρ3 wc)) (st : stands va (wb || wc) = true) (rx : Mv.resolve ρ3 va = some x) (hs : slT x l h = some t) :
    PE X (.Subscript e (.Slice lo hi none p2) pos) (tE X.K iov ρ (.t t) ρ3 (wa || (wb || wc))) := by
  refine PE.imp' (pe_slice (op_slT trivial hs) ha hl hh) ?_
  rintro σ H Q ⟨F, fp, S, k⟩
  have st1 : stands va wb = true := by cases va with | t _ => rfl | pt i l => cases l <;> cases wb <;> simp_all [stands]
  have st2 : stands va wc = true := by cases va with | t _ => rfl | pt i l => cases l <;> cases wc <;> simp_all [stands]
  refine ⟨F, fp, S, fun vx H1 F1 fp1 fa S1 V1 P1 => ⟨F1, fp1, S1, fun H2 F2 fp2 S2 P2 => ⟨F2, fp2, S2, fun H3 F3 fp3 S3 P3 => ?_⟩⟩⟩
  have V1' := V1.step P2 (fun i b hb => (S1.fpF i b hb).1) P1.disv st1
  have P12 := P1.trans P2 V1.fps
  rw [List.append_nil] at P12
  have V1'' := V1'.step P3 (fun i b hb => (S2.fpF i b hb).1) P12.disv st2
  have P := P12.trans P3 V1'.fps
  obtain ⟨g1, r1⟩ := S3.rslv rx V1''
  refine ⟨rfl, rfl, F3, g1, S3.trk, r1, fun v H' pr => ?_⟩
  obtain ⟨F', fpv, S', tr, P'⟩ := S3.pure pr
  refine k v H' F' fp3 fpv S' tr ((P.fin ?_ P').sizes (by cases wa <;> cases wb <;> rfl))
  rw [List.append_nil]
  exact V1''.fps
def tyOf : T → Option String
  | .fz .none => some "NoneType" | .fz (.bool _) => some "bool" | .fz (.int _) => some "int" | .fz (.str _) => some "str"
  | .fz (.list _) => some "list" | .fz (.tup _) => some "tuple" | .fz (.dict _ _) => some "dict" | .fz (.ins _ _) => none | .fz (.ltp _) => none | .lst _ => some "list" | .tup _ => some "tuple" | .dct _ _ => some "dict"
theorem tyX_rep {x : T} (hi : x.noIns = true) (h : TRep X.K F H v x fa) : ∃ n, tyOf x = some n ∧ TyX X.K H v (.type n) := by
  cases x with
  | fz d =>
    cases d with
    | none => rw [trep_none h]; exact ⟨_, rfl, .base .non⟩
    | bool b => rw [trep_bool h]; exact ⟨_, rfl, .base (.bl b)⟩
    | int i => rw [trep_int h]; exact ⟨_, rfl, .base (.int i)⟩
    | str i => rw [trep_str h]; exact ⟨_, rfl, .base (.str i)⟩
    | list ds =>
      simp only [TRep, RepD] at h
      obtain ⟨_, a, vs, rfl, ⟨_, hl | ⟨o, hl⟩⟩ | ⟨o, its, n, h1, h2, _⟩, _⟩ := h
      · exact ⟨_, rfl, .base (.lst hl)⟩
      · exact ⟨_, rfl, .base (.frz hl)⟩
      · exact ⟨_, rfl, .kList h1 h2⟩
    | tup ds =>
      simp only [TRep, RepD] at h
      obtain ⟨_, a, vs, rfl, ⟨_, o, _, hl⟩ | ⟨o, its, n, h1, h2, _⟩, _⟩ := h
      · exact ⟨_, rfl, .fTuple hl⟩
      · exact ⟨_, rfl, .kTuple h1 h2⟩
    | dict ks ds =>
      simp only [TRep, RepD] at h
      obtain ⟨_, a, vs, rfl, _, h1, _⟩ := h
      exact ⟨_, rfl, .base (.dK h1)⟩
    | ins fs ds => cases hi
    | ltp ds => cases hi
  | lst ts => simp only [TRep] at h; obtain ⟨a, vs, _, rfl, _, _, h1, _⟩ := h; exact ⟨_, rfl, .base (.lst h1)⟩
  | tup ts => simp only [TRep] at h; obtain ⟨a, vs, _, rfl, _, _, ⟨o, _, h1⟩, _⟩ := h; exact ⟨_, rfl, .fTuple h1⟩
  | dct ks ts => simp only [TRep] at h; obtain ⟨a, vs, _, rfl, _, _, h1, _⟩ := h; exact ⟨_, rfl, .base (.dK h1)⟩
theorem isTy_kit {f : Blt} {T n : String} (hT : isTy f = some T) (hn : tyOf x = some n) : ∃ b, appB f [x] = some (.fz (.bool b)) ∧ kitB n T = some b := by
  cases f <;> simp [isTy] at hT <;> subst hT <;> cases x <;> (try (rename_i d; cases d)) <;> simp [tyOf] at hn <;> subst hn <;> first | exact ⟨true, rfl, by decide +kernel⟩ | exact ⟨false, rfl, by decide +kernel⟩
theorem s_isi {f : Blt} {T : String} {nm : Str} {p p2 : Pos} (hT : isTy f = some T) (hv : bootBuiltins nm = some (.type T)) (hg : Gl X "isinstance") (hm : X.mg "isinstance" = none) (hg2 : Gl X nm) (hm2 : X.mg nm = none) (hn2 : nm ≠ "__name__") (hd2 : (nm == ("__debug__" : Str)) = false) (hp : plainE e = true)
    (ha : PE X e (tE X.K iov ρ va ρ1 wa)) (rx : Mv.resolve ρ1 va = some x) (h : appB f [x] = some t) : PE X (.Call (.Name "isinstance" p) [e, .Name nm p2] [] pos) (tE X.K iov ρ (.t t) ρ1 wa) := by
  refine PE.imp' (pe_callB call_isi hg hm boot_isinstance (pa_cons ha (pa_cons (pe_bltn hg2 hm2 hv (show RelV (.ty T) (.type T) from rfl) hn2 hd2) pa_nil rfl) (star_plain hp _)) (by decide) (by decide) (star_plain hp _) rfl) ?_
  rintro σ H Q ⟨F, fp, S, k⟩
  refine ⟨F, fp, S, fun v H1 F1 fp1 fa S1 V1 P1 => ?_⟩
  obtain ⟨g1, r1⟩ := S1.rslv rx V1
  have hi : x.noIns = true := by
    cases hx : x.noIns with
    | true => rfl
    | false => cases f <;> simp [isTy] at hT <;> simp [appB, hx] at h
  obtain ⟨n, e1, ty⟩ := tyX_rep hi r1
  obtain ⟨b, e2, kt⟩ := isTy_kit hT e1
  rw [e2] at h; cases h
  exact ⟨v, .ty T, .type n, .type T, b, rfl, .ty T, ty, kit_ty kt, k _ H1 F1 fp1 [] S1 (vr_bool S1) P1.drop0⟩
def pick : List Bool → List V → List V
  | true :: io, v :: vs => v :: pick io vs
  | false :: io, _ :: vs => pick io vs
  | _, _ => []
def spF (K : PySem.W.Frag) (f : Fn) : Sp := fun vs H Q _ => vs.length = f.io.length ∧ ∃ F ts fpa t ios, TReps K F H vs ts fpa ∧ fpa.Nodup ∧ (∀ b, F b → H b ≠ none) ∧ f.run ts = some (t, ios) ∧
  ∀ v H' F' fpv fpi, (∀ b, F b → F' b) → (∀ b, F' b → F b ∨ b ∈ fpa ∨ H b = none) → (∀ b o, H b = some o → b ∉ fpa → H' b = some o) → (∀ b, H b ≠ none → H' b ≠ none) → (∀ b, F' b → H' b ≠ none) →
    TRep K F' H' v t fpv → TReps K F' H' (pick f.io vs) ios fpi → (fpv ++ fpi).Nodup → (∀ b ∈ fpv ++ fpi, b ∈ fpa ∨ H b = none) → Q v H'
structure FnG (P : Program) (w : World) (K : PySem.W.Frag) (mg : Str → Option Value) (base : Heap) (k : Nat) (f : Addr) (fd : FuncData) (ps : List Str) (sp : Sp) : Prop where
  len : ∀ vs H Q E, sp vs H Q E → vs.length = ps.length
  run : ∀ (A : Around) (outer : List PySem.Env) (s : Shared) (H : Hp) (args : Args) (us : List Value) (vs : List V) (Q : VK) (E : XK), A.guards = some [] → Room k A → Env0 P w K mg base A outer s H → BindsTo s fd args (ps.zip us) → Vals vs us → sp vs H Q E →
    codeAny (model P w) A (.call (.ref f) args) (CR CX0 outer P w H s Q E) s
theorem FnG.mono {P : Program} {w : World} {K : PySem.W.Frag} {mg : Str → Option Value} {base : Heap} {j k : Nat} {f : Addr} {fd : FuncData} {ps : List Str} {sp : Sp} (F : FnG P w K mg base j f fd ps sp) (h : j ≤ k) : FnG P w K mg base k f fd ps sp :=
  ⟨F.len, fun A outer s H args us vs Q E hg hr => F.run A outer s H args us vs Q E hg (hr.mono h)⟩
def permL {α : Type} (perm : List Nat) (vs : List α) : List α := perm.filterMap fun i => vs[i]?
abbrev Kbs := List (List Str × List Nat)
def BindsAll (fd : FuncData) (ps : List Str) (kb : Kbs) : Prop := (∀ us : List Value, us.length = ps.length → bindArgs fd ⟨us, []⟩ = pure (ps.zip us)) ∧
  ∀ q ∈ kb, ∀ us : List Value, us.length = q.1.length → bindArgs fd ⟨[], q.1.zip us⟩ = pure (ps.zip (permL q.2 us))
def mkIns (fs : List Str) : Fn := ⟨fs.map fun _ => false, fun ts => if ts.length = fs.length then (T.unfzs ts).map fun ds => (.fz (.ins fs ds), []) else none⟩
def spI (K : PySem.W.Frag) (fs : List Str) : Sp := fun vs H Q _ => ∃ x C dx ws, vs = .ref x :: ws ∧ ws.length = fs.length ∧ H x = some (.ins C dx []) ∧ Cls K C ∧ (∀ f ∈ fs, NoAttr K C f) ∧ Q .non (upd H x (.ins C dx (fs.zip ws)))
structure ClsAt (P : Program) (w : World) (K : PySem.W.Frag) (mg : Str → Option Value) (base : Heap) (k : Nat) (nm : Str) (ps : List Str) (f : Fn) : Prop where
  ex : ∃ (C fi : Addr) (fd : FuncData) (s0 : Str) (fs : List Str), mg nm = some (.ref C) ∧ Mk K C fi ∧ (∀ us : List Value, us.length = ps.length + 1 → bindArgs fd ⟨us, []⟩ = pure ((s0 :: ps).zip us)) ∧
    FnG P w K mg base k fi fd (s0 :: ps) (spI K fs) ∧ f = mkIns fs ∧ Cls K C ∧ (∀ f ∈ fs, NoAttr K C f) ∧ fs.Nodup ∧ fs.length = ps.length
structure FnAt (X : Cx) (nm : Str) (ps : List Str) (kb : Kbs) (f : Fn) : Prop where
  ex : (∃ (a : Addr) (fd : FuncData) (k : Nat), X.mg nm = some (.ref a) ∧ PySem.W.keepIn X.K (.ref a) = true ∧ Room k X.A ∧ BindsAll fd ps kb ∧ FnG X.prog X.w X.K X.mg X.base k a fd ps (spF X.K f)) ∨
    (∃ k : Nat, Room (k + 1) X.A ∧ kb = [] ∧ ClsAt X.prog X.w X.K X.mg X.base k nm ps f)
  io : f.io.length = ps.length
theorem pushG_nil {A : Around} {C : Addr} {us : List Value} (h : A.guards = some []) : (A.under (.builtin "type.__call__" ⟨.ref C :: us, []⟩)).guards = some [] := by
  unfold Around.under
  simp only [h]
  rfl
theorem mkIns_run {fs : List Str} {ts : List T} {t : T} {ios : List T} (h : (mkIns fs).run ts = some (t, ios)) : ∃ ds, ts = fzs ds ∧ ds.length = fs.length ∧ t = .fz (.ins fs ds) ∧ ios = [] := by
  have h : (if ts.length = fs.length then (T.unfzs ts).map fun ds => (T.fz (.ins fs ds), ([] : List T)) else none) = some (t, ios) := h
  split at h
  · rename_i hl
    obtain ⟨ds, e1, e2⟩ := Option.map_eq_some_iff.mp h
    cases e2
    have := unfzs_eq e1
    subst this
    exact ⟨ds, rfl, by simpa [fzs] using hl, rfl, rfl⟩
  · cases h
theorem run_mkIns {pins : List (Addr × Obj)} {σ : L2.St} {H : Hp} {s : Shared} {Q : VK} {us : List Value} {vs : List V} {C fi : Addr} {fd : FuncData} {k : Nat} {s0 : Str} {ps : List Str} {fs : List Str} (M : Mk X.K C fi) (G : FnG X.prog X.w X.K X.mg X.base k fi fd (s0 :: ps) (spI X.K fs)) (hr : Room (k + 1) X.A) (gd : X.A.guards = some [])
    (hb : ∀ us : List Value, us.length = ps.length + 1 → bindArgs fd ⟨us, []⟩ = pure ((s0 :: ps).zip us)) (hc : Cls X.K C) (hna : ∀ f ∈ fs, NoAttr X.K C f) (hnd : fs.Nodup) (hl : fs.length = ps.length) (I : Inv X pins σ H s) (r : Vals vs us) (h : spF X.K (mkIns fs) vs H Q E0) :
    wpAny (model X.prog X.w) X.A (call (.ref C) us) (EP X pins σ Q) X.xe s := by
  obtain ⟨hvl, F, ts, fpa, t, ios, hr0, hnd0, htr, hrun, kk⟩ := h
  obtain ⟨ds, rfl, hdl, rfl, rfl⟩ := mkIns_run hrun
  obtain ⟨rfl, rds⟩ := TReps.fzs.mp hr0
  have hvl : vs.length = fs.length := by rw [rds.len, hdl]
  have nx : H (s.heap.objs.size + 1) = none := I.hok.fresh (Nat.le_succ _)
  have nd : H s.heap.objs.size = none := I.hok.fresh (Nat.le_refl _)
  have I2 := Inv.made (C := C) I
  have r2 : Vals (V.ref (s.heap.objs.size + 1) :: vs) (Value.ref (s.heap.objs.size + 1) :: us) := .cons rfl r
  have ln : (Value.ref (s.heap.objs.size + 1) :: us).length = ps.length + 1 := by rw [List.length_cons, ← r.length]; omega
  have ne : s.heap.objs.size ≠ s.heap.objs.size + 1 := Nat.ne_of_lt (Nat.lt_succ_self _)
  have hq : spI X.K fs (V.ref (s.heap.objs.size + 1) :: vs) (upd (upd H s.heap.objs.size (.own (s.heap.objs.size + 1))) (s.heap.objs.size + 1) (.ins C s.heap.objs.size [])) (fun v H2 => v = .non ∧ Q (.ref (s.heap.objs.size + 1)) H2) E0 := by
    refine ⟨_, C, _, vs, rfl, hvl, upd_same, hc, hna, rfl, ?_⟩
    rw [upd_upd]
    have keep : ∀ b o, H b = some o → upd (upd H s.heap.objs.size (.own (s.heap.objs.size + 1))) (s.heap.objs.size + 1) (.ins C s.heap.objs.size (fs.zip vs)) b = some o := fun b o e => by
      rw [upd_ne (ne_of_none e nx), upd_ne (ne_of_none e nd)]; exact e
    refine kk _ _ (fun b => F b ∨ b = s.heap.objs.size + 1) [] [] (fun b f => .inl f) (fun b f => f.imp id fun z => .inr (by rw [z]; exact nx)) (fun b o e _ => keep b o e) (fun b hb => ?_) (fun b hb => ?_) ?_ ?_ List.nodup_nil (fun _ z => nomatch z)
    · cases e : H b with
      | none => exact absurd e hb
      | some o => rw [keep b o e]; simp
    · rcases hb with hb | hb
      · cases e : H b with
        | none => exact absurd e (htr b hb)
        | some o => rw [keep b o e]; simp
      · rw [hb, upd_same]; simp
    · simp only [TRep, RepD, true_and]
      exact ⟨_, C, _, vs, rfl, .inr rfl, upd_same, hvl, hnd, hc, hna, RepDs.mono (fun _ h => .inl h) (fun b o _ e => keep b o e) ds vs rds⟩
    · have : ∀ (fs : List Str) (vs : List V), pick (fs.map fun _ => false) vs = [] := by
        intro fs
        induction fs with
        | nil => intro vs; cases vs <;> rfl
        | cons f fs ih =>
          intro vs
          cases vs with
          | nil => rfl
          | cons v vs => exact ih vs
      show TReps X.K _ _ (pick (fs.map fun _ => false) vs) [] []
      rw [this]
      simp only [TReps]
  refine wpAny_call (make_map (f := fi) I.kIn M.makes M.init (beq_iff_eq.mp M.fn) (codeAny_mono (G.run _ X.stack _ _ ⟨Value.ref (s.heap.objs.size + 1) :: us, []⟩ (Value.ref (s.heap.objs.size + 1) :: us) _ _ E0 (pushG_nil gd) (hr.make C us [])
    (I2.env0.make C us []) (.of_eq (hb _ ln)) r2 hq) fun r' s' hq' => ?_))
  cases r' with
  | error e => exact hq'.elim
  | ok fl =>
    cases fl with
    | ret u =>
      obtain ⟨v, H', I3, rv, ev, q3⟩ := I2.after hq'
      subst ev
      exact ⟨rv, ⟨V.ref (s.heap.objs.size + 1), H', I3, rfl, q3⟩⟩
    | next => exact False.elim hq'
    | brk => exact False.elim hq'
    | cont => exact False.elim hq'
theorem e_call {nm : Str} {ps : List Str} {kb : Kbs} {f : Fn} {p : Pos} {ta : TA} (F : FnAt X nm ps kb f) (gd : X.A.guards = some []) (hg : Gl X nm) (hdb : (nm == ("__debug__" : Str)) = false) (he : starEach (e :: es) X.env = (false, eval e X.env) :: starEach es X.env) (hpl : (backTo pos (starEach es X.env)).any (·.1) = false) (ha : PA X (e :: es) ta) :
    PE X (.Call (.Name nm p) (e :: es) [] pos) (fun σ H Q => ta σ H fun vs H1 => spF X.K f vs H1 Q E0) := by
  rcases F.ex with ⟨a, fd, k, h1, h2, hr, hb, G⟩ | ⟨k, hr, _, C, fi, fd, s0, fs, h1, M, hb, G, rfl, hc, hna, hnd, hl⟩
  case inr =>
    refine ⟨fun pins s σ H Q I h => ?_⟩
    refine wpAny_Call_Name_kw (ld_glob I hg h1 ?_ hdb)
    refine PySem.W.callWith_K (h₀ := X.base) I.ok.mod.kin M.kp (thn (ha.run pos pins s σ H _ I h) fun us s1 ⟨vs, H1, I1, r, q⟩ => ⟨I1.kIn, ?_⟩) he hpl
    exact run_mkIns M G hr gd hb hc hna hnd hl I1 r q
  refine ⟨fun pins s σ H Q I h => ?_⟩
  refine wpAny_Call_Name_kw (ld_glob I hg h1 ?_ hdb)
  refine PySem.W.callWith_K (h₀ := X.base) I.ok.mod.kin h2 (thn (ha.run pos pins s σ H _ I h) fun us s1 ⟨vs, H1, I1, r, q⟩ => ⟨I1.kIn, ?_⟩) he hpl
  have hl : us.length = ps.length := r.length ▸ G.len _ _ _ _ q
  refine wpAny_call (codeAny_mono (G.run X.A X.stack s1 H1 ⟨us, []⟩ us vs Q E0 gd hr I1.env0 (.of_eq (hb.1 us hl)) r q) fun r' s' hq => ?_)
  cases r' with
  | error e' => exact hq.elim
  | ok fl =>
    cases fl with
    | ret u => exact I1.after hq
    | next => exact hq.elim
    | brk => exact hq.elim
    | cont => exact hq.elim
theorem e_callk {nm : Str} {ps : List Str} {kb : Kbs} {f : Fn} {p : Pos} {ta : TA} {kws : List Keyword} {ks : List Str} {perm : List Nat} (F : FnAt X nm ps kb f) (gd : X.A.guards = some []) (hg : Gl X nm) (hdb : (nm == ("__debug__" : Str)) = false) (hq : (ks, perm) ∈ kb) (hkw : PK X kws ta) (hks : kws.map (·.arg) = ks.map some) (hkl : kws.length = ks.length)
    (hpn : ∀ i ∈ perm, i < ks.length) : PE X (.Call (.Name nm p) [] kws pos) (fun σ H Q => ta σ H fun vs H1 => vs.length = ks.length ∧ spF X.K f (permL perm vs) H1 Q E0) := by
  rcases F.ex with ⟨a, fd, k, h1, h2, hr, hb, G⟩ | ⟨k, hr, hkb, _⟩
  case inr => rw [hkb] at hq; cases hq
  have nms : ∀ (kws : List Keyword) (ks : List Str), kws.map (·.arg) = ks.map some → (backToKw pos (keywordEach kws X.env)).all (·.1.isSome) = true ∧ (backToKw pos (keywordEach kws X.env)).filterMap (·.1) = ks ∧ (backToKw pos (keywordEach kws X.env)).any (·.1.isNone) = false := by
    intro kws
    induction kws with
    | nil =>
      intro ks h
      cases ks with
      | nil => exact ⟨rfl, rfl, rfl⟩
      | cons _ _ => simp at h
    | cons kw kws ih =>
      intro ks h
      cases ks with
      | nil => simp at h
      | cons k ks =>
        simp only [List.map_cons, List.cons.injEq] at h
        obtain ⟨q1, q2, q3⟩ := ih ks h.2
        obtain ⟨n, v, pp⟩ := kw
        obtain rfl : n = some k := h.1
        have e : backToKw pos (keywordEach (⟨some k, v, pp⟩ :: kws) X.env) = (some k, do let v ← eval v X.env; standAt pos; pure v) :: backToKw pos (keywordEach kws X.env) := rfl
        rw [e]
        exact ⟨by simp [q1], by simp [q2], by simp [q3]⟩
  obtain ⟨n1, n2, n3⟩ := nms kws ks hks
  refine ⟨fun pins s σ H Q I h => ?_⟩
  refine wpAny_Call_Name_kw (ld_glob I hg h1 ?_ hdb)
  refine PySem.W.callWith_KW0 (h₀ := X.base) I.ok.mod.kin h2 n1 (thn (hkw.run pos pins s σ H _ I h) fun us s1 ⟨vs, H1, I1, r, hlv, q⟩ => ⟨I1.kIn, ?_⟩) (by rw [n3]; rfl)
  rw [n2]
  have hl : us.length = ks.length := r.length ▸ hlv
  have rp : Vals (permL perm vs) (permL perm us) := by
    have : ∀ (perm : List Nat), (∀ i ∈ perm, i < ks.length) → Vals (permL perm vs) (permL perm us) := by
      intro perm
      induction perm with
      | nil => intro _; exact .nil
      | cons i is ih =>
        intro hp
        have hi : i < vs.length := by rw [hlv]; exact hp i (by simp)
        have e1 : vs[i]? = some vs[i] := List.getElem?_eq_getElem hi
        obtain ⟨u, hu, ru⟩ := r.get e1
        have z1 : permL (i :: is) vs = vs[i] :: permL is vs := by simp [permL, List.filterMap_cons, e1]
        have z2 : permL (i :: is) us = u :: permL is us := by simp [permL, List.filterMap_cons, hu]
        rw [z1, z2]
        exact .cons ru (ih fun j hj => hp j (by simp [hj]))
    exact this perm hpn
  refine wpAny_call (codeAny_mono (G.run X.A X.stack s1 H1 ⟨[] ++ [], ks.zip us⟩ (permL perm us) (permL perm vs) Q E0 gd hr I1.env0 (.of_eq (hb.2 _ hq us hl)) rp q) fun r' s' hq => ?_)
  cases r' with
  | error e' => exact hq.elim
  | ok fl =>
    cases fl with
    | ret u => exact I1.after hq
    | next => exact hq.elim
    | brk => exact hq.elim
    | cont => exact hq.elim
theorem k_nil : PK X [] (tA X.K iov ρ [] ρ false) := ⟨fun pos pins s σ H Q I ⟨F, fp, S, k⟩ => (pk_nil (X := X)).run pos pins s σ H Q I (k [] H F fp [] S rfl (.refl S))⟩
theorem k_cons {nm : Option Str} {kp : Pos} {kws : List Keyword} (ha : PE X e (tE X.K iov ρ va ρ1 wa)) (hb : PK X kws (tA X.K iov ρ1 as ρ2 wb)) (st : stands va wb = true) : PK X (⟨nm, e, kp⟩ :: kws) (tA X.K iov ρ (va :: as) ρ2 (wa || wb)) :=
  ⟨fun pos pins s σ H Q I ⟨F, fp, S, k⟩ => (pk_cons ha hb).run pos pins s σ H Q I ⟨F, fp, S, fun vx H1 F1 fp1 fa S1 V1 P1 => ⟨F1, fp1, S1, fun vs H2 F2 fp2 fb S2 V2 P2 => k (vx :: vs) H2 F2 fp2 (fa ++ fb) S2 ⟨fa, fb, rfl, V1.step P2 (fun i b hb => (S1.fpF i b hb).1) P1.disv st, V2⟩ (P1.trans P2 V1.fps)⟩⟩⟩
end
end Mv

end
section
namespace Mv
open PySem PySem.Spec PyProof.Rows L2
section
variable {X : Cx} {K : PySem.W.Frag} {iov : Nat → Option V} {F F1 F2 F' Fc : Addr → Prop} {H H1 H2 H' : Hp} {fp fp1 fp2 fp' : Fp} {fa fb fx fpv : List Addr} {t x y : T} {v vx vy : V} {b : Bool} {ρ ρ1 ρ2 ρ3 ρ' : Env} {wr wa wb wc : Bool} {va vb vc : Val} {σ : L2.St} {e e1 e2 e3 : Expr} {es : List Expr} {pos : Pos} {as : List Val}
theorem argTs_len : ∀ {io : List Bool} {as : List Val} {ts : List T}, argTs ρ io as = some ts → as.length = io.length
  | [], [], _, _ => rfl
  | [], _ :: _, _, h => by simp [argTs] at h
  | true :: io, [], _, h => by simp [argTs] at h
  | false :: io, [], _, h => by simp [argTs] at h
  | true :: io, a :: as, ts, h => by
    cases a with
    | t u => simp [argTs] at h
    | pt i k =>
      cases k with
      | some k => simp [argTs] at h
      | none =>
        simp only [argTs] at h
        split at h
        · rename_i t0 ts0 e1 e2
          simp [argTs_len e2]
        · cases h
  | false :: io, a :: as, ts, h => by
    simp only [argTs] at h
    split at h
    · rename_i t0 ts0 e1 e2
      simp [argTs_len e2]
    · cases h
theorem args_rep (S : SR K iov [] F H σ ρ fp) (hF : ∀ b, F b → Fc b) : ∀ {io : List Bool} {as : List Val} {vs : List V} {fa : List Addr} {ts : List T}, VRs K F H σ as vs fa → argTs ρ io as = some ts →
    (∀ i ∈ rdSlots io as, ∀ b ∈ fp i, Fc b) → (∀ b ∈ fa, Fc b) → (∀ i ∈ ioSlots io as, ∀ b ∈ fp i, ¬ Fc b) → (ioSlots io as).Nodup →
    ∃ fpa, TReps K Fc H vs ts fpa ∧ (∀ b ∈ fpa, ∃ i ∈ ioSlots io as, b ∈ fp i) ∧ fpa.Nodup
  | [], [], [], fa, ts, _, h, _, _, _, _ => by
    simp only [argTs, Option.some.injEq] at h
    subst h
    exact ⟨[], by simp only [TReps], fun b hb => (nomatch hb), List.nodup_nil⟩
  | [], [], _ :: _, _, _, h, _, _, _, _, _ => h.elim
  | _, _ :: _, [], _, _, h, _, _, _, _, _ => h.elim
  | [], _ :: _, _, _, _, _, h, _, _, _, _ => by simp [argTs] at h
  | true :: io, [], _, _, _, _, h, _, _, _, _ => by simp [argTs] at h
  | false :: io, [], _, _, _, _, h, _, _, _, _ => by simp [argTs] at h
  | true :: io, a :: as, v :: vs, fa, ts, hv, h, hrd, hfa, hio, hnd => by
    cases a with
    | t u => simp [argTs] at h
    | pt i k =>
      cases k with
      | some k => simp [argTs] at h
      | none =>
        simp only [argTs] at h
        split at h
        · rename_i t0 ts0 e1 e2
          cases h
          obtain ⟨f1, f2, rfl, r1, r2⟩ := hv
          simp only [ioSlots, List.nodup_cons] at hio hnd
          have hrd' : ∀ j ∈ rdSlots io as, ∀ b ∈ fp j, Fc b := hrd
          obtain ⟨fpa, q1, q2, q3⟩ := args_rep S hF r2 e2 hrd' (fun b hb => hfa b (List.mem_append_right _ hb)) (fun j hj => hio j (List.mem_cons_of_mem _ hj)) hnd.2
          obtain ⟨v', hv', tr⟩ := S.slT e1
          have rv := r1.2
          rw [hv'] at rv; cases rv
          refine ⟨fp i ++ fpa, ?_, fun b hb => ?_, List.nodup_append.mpr ⟨S.nod i, q3, fun b hb c hc e => ?_⟩⟩
          · simp only [TReps]
            exact ⟨fp i, fpa, rfl, TRep.mono hF _ _ _ (hio i List.mem_cons_self) (fun _ _ _ e => e) tr, q1⟩
          · rcases List.mem_append.mp hb with hb | hb
            · exact ⟨i, List.mem_cons_self, hb⟩
            · obtain ⟨j, hj, z⟩ := q2 b hb
              exact ⟨j, List.mem_cons_of_mem _ hj, z⟩
          · subst e
            obtain ⟨j, hj, z⟩ := q2 b hc
            have := S.dis i j b hb z
            subst this
            exact hnd.1 hj
        · cases h
  | false :: io, a :: as, v :: vs, fa, ts, hv, h, hrd, hfa, hio, hnd => by
    simp only [argTs] at h
    split at h
    · rename_i t0 ts0 e1 e2
      cases h
      obtain ⟨f1, f2, rfl, r1, r2⟩ := hv
      have hio' : ioSlots (false :: io) (a :: as) = ioSlots io as := by cases a <;> rfl
      rw [hio'] at hio hnd
      have hrd' : ∀ j ∈ rdSlots io as, ∀ b ∈ fp j, Fc b := fun j hj => hrd j (by cases a with | t u => exact hj | pt i k => exact List.mem_cons_of_mem _ hj)
      obtain ⟨fpa, q1, q2, q3⟩ := args_rep S hF r2 e2 hrd' (fun b hb => hfa b (List.mem_append_right _ hb)) hio hnd
      refine ⟨fpa, ?_, by rw [hio']; exact q2, q3⟩
      simp only [TReps]
      refine ⟨[], fpa, rfl, ?_, q1⟩
      simp only [TRep, true_and]
      cases a with
      | t u =>
        cases e1
        exact TRep.fz hF _ _ _ (fun b hb => hfa b (List.mem_append_left _ hb)) r1
      | pt i k =>
        obtain ⟨g1, gq, g3, eg, tr⟩ := S.gtPt e1 r1
        exact TRep.fz hF _ _ _ (fun b hb => hrd i List.mem_cons_self b (by rw [eg]; simp [hb])) tr
    · cases h
theorem killAll_get (i : Nat) : ∀ (is : List Nat) (ρ : Env), (∀ t, (killAll ρ is)[i]? = some (Slot.ow t) ↔ ρ[i]? = some (Slot.ow t)) ∧ (∀ t, (killAll ρ is)[i]? = some (Slot.io t) ↔ ρ[i]? = some (Slot.io t)) ∧ (∀ j k, (killAll ρ is)[i]? = some (Slot.al j k) → ρ[i]? = some (Slot.al j k) ∧ j ∉ is) ∧ ((killAll ρ is)[i]? = none ↔ ρ[i]? = none)
  | [], ρ => ⟨fun _ => .rfl, fun _ => .rfl, fun _ _ h => ⟨h, by simp⟩, .rfl⟩
  | m :: is, ρ => by
    obtain ⟨a, b, c, d⟩ := killAll_get i is ρ
    unfold killAll
    refine ⟨fun t => ?_, fun t => ?_, fun j k h => ?_, ?_⟩
    · rw [kills_get, ← a t]
      cases h : (killAll ρ is)[i]? with
      | none => simp
      | some s => cases s <;> simp [kill] <;> split <;> simp
    · rw [kills_get, ← b t]
      cases h : (killAll ρ is)[i]? with
      | none => simp
      | some s => cases s <;> simp [kill] <;> split <;> simp
    · rw [kills_get] at h
      cases h' : (killAll ρ is)[i]? with
      | none => rw [h'] at h; cases h
      | some s =>
        rw [h'] at h
        have h2 := kill_al (Option.some.inj h)
        obtain ⟨q1, q2⟩ := c j k (by rw [h', h2.1])
        exact ⟨q1, fun z => (List.mem_cons.mp z).elim (fun z => h2.2 ⟨z, .inl rfl⟩) q2⟩
    · rw [kills_get, ← d]; simp
theorem killAll_lk (i : Nat) : ∀ (is : List Nat) (ρ : Env), (killAll ρ is)[i]? = some Slot.lk → ρ[i]? = some Slot.lk
  | [], ρ, h => h
  | m :: is, ρ, h => by
    unfold killAll at h
    rw [kills_get] at h
    refine killAll_lk i is ρ ?_
    cases h' : (killAll ρ is)[i]? with
    | none => rw [h'] at h; cases h
    | some s =>
      rw [h'] at h
      cases s with
      | lk => rfl
      | al j k =>
        have h := Option.some.inj h
        simp only [kill] at h
        split at h <;> cases h
      | _ => cases h
theorem killAll_len : ∀ (is : List Nat) (ρ : Env), (killAll ρ is).length = ρ.length
  | [], _ => rfl
  | i :: is, ρ => by unfold killAll kills; rw [List.length_map, killAll_len is ρ]
theorem putIo_ok : ∀ {io : List Bool} {as : List Val} {vs : List V} {ios : List T} {fpi : List Addr} {ρ ρ' : Env} {fp : Fp} {fa : List Addr} {Fa : Addr → Prop} {Ha : Hp}, SR K iov (ioSlots io as) F H σ ρ fp → (ioSlots io as).Nodup → putIo ρ io as ios = some ρ' → VRs K Fa Ha σ as vs fa → TReps K F H (pick io vs) ios fpi → fpi.Nodup →
    (∀ i b, b ∈ fp i → b ∉ fpi) → (∀ i ∈ ioSlots io as, ∀ u v, ρ[i]? = some (Slot.io u) → σ[i]? = some (some v) → iov i = some v) → (∀ (m j l : Nat), ρ[m]? = some (Slot.al j l) → j ∉ ioSlots io as) →
    ∃ fp', SR K iov [] F H σ ρ' fp' ∧ ∀ i b, b ∈ fp' i → b ∈ fp i ∨ b ∈ fpi
  | [], [], vs, ios, fpi, ρ, ρ', fp, fa, Fa, Ha, S, _, h, _, r, _, _, _, _ => by
    cases ios with
    | nil => simp only [putIo, Option.some.injEq] at h; subst h; exact ⟨fp, S, fun i b hb => .inl hb⟩
    | cons t ts => simp [putIo] at h
  | [], _ :: _, _, _, _, _, _, _, _, _, _, _, _, h, _, _, _, _, _, _ => by simp [putIo] at h
  | true :: io, [], _, _, _, _, _, _, _, _, _, _, _, h, _, _, _, _, _, _ => by simp [putIo] at h
  | false :: io, [], _, _, _, _, _, _, _, _, _, _, _, h, _, _, _, _, _, _ => by simp [putIo] at h
  | true :: io, a :: as, [], _, _, _, _, _, _, _, _, _, _, _, h, _, _, _, _, _ => h.elim
  | false :: io, a :: as, [], _, _, _, _, _, _, _, _, _, _, _, h, _, _, _, _, _ => h.elim
  | false :: io, a :: as, v :: vs, ios, fpi, ρ, ρ', fp, fa, Fa, Ha, S, nd, h, hv, r, ni, di, hio, hal => by
    have hio' : ioSlots (false :: io) (a :: as) = ioSlots io as := by cases a <;> rfl
    rw [hio'] at S nd hio hal
    obtain ⟨f1, f2, rfl, r1, r2⟩ := hv
    have h' : putIo ρ io as ios = some ρ' := by cases a <;> exact h
    exact putIo_ok S nd h' r2 r ni di hio hal
  | true :: io, a :: as, v :: vs, ios, fpi, ρ, ρ', fp, fa, Fa, Ha, S, nd, h, hv, r, ni, di, hio, hal => by
    obtain ⟨f1, f2, rfl, r1, r2⟩ := hv
    cases a with
    | t u => simp [putIo] at h
    | pt i k =>
      cases k with
      | some k => simp [putIo] at h
      | none =>
        cases ios with
        | nil => simp [putIo] at h
        | cons t ts =>
          simp only [putIo] at h
          obtain ⟨ρ1, e1, e2⟩ := Option.bind_eq_some_iff.mp h
          simp only [ioSlots] at S nd hio hal
          simp only [pick, TReps] at r
          obtain ⟨g1, g2, rfl, t1, t2⟩ := r
          have hσ : σ[i]? = some (some v) := r1.2
          have nd' := List.nodup_cons.mp nd
          have ni' := List.nodup_append.mp ni
          have S1 := S.setSlot (i := i) (y := t) (fq := g1) (v := v) (F' := F) (H' := H) e1 hσ (fun u hu => hio i List.mem_cons_self u v hu hσ) (fun _ h => h) (fun j b _ hb => (S.fpF j b hb).1) (fun _ _ _ e => e) S.trk t1 ni'.1 (fun j b _ hb z => di j b hb (List.mem_append_left _ z))
            (fun m j l v' a vs q1 q2 q3 q4 q5 q6 => ⟨vs, q4, q5, q6.imp id fun z => by
              by_cases hj : j = i
              · subst hj; exact absurd List.mem_cons_self q2
              · rw [updF_ne hj]; exact z⟩) (fun m l q => hal m i l q)
          have ef : (i :: ioSlots io as).filter (· ≠ i) = ioSlots io as := by
            rw [List.filter_cons_of_neg (by simp)]
            exact List.filter_eq_self.mpr fun x hx => by simp; exact fun z => nd'.1 (z ▸ hx)
          rw [ef] at S1
          have keepS : ∀ m, m ≠ i → ρ1[m]? = ρ[m]? := fun m hm => by
            rcases setSlotT_eq e1 with ⟨_, rfl⟩ | ⟨_, rfl⟩ <;> rw [List.getElem?_set_ne (Ne.symm hm)]
          obtain ⟨fp', q1, q2⟩ := putIo_ok S1 nd'.2 e2 r2 t2 ni'.2.1 (fun j b hb z => by
              by_cases hj : j = i
              · subst hj; rw [updF_same] at hb; exact ni'.2.2 b hb b z rfl
              · rw [updF_ne hj] at hb; exact di j b hb (List.mem_append_right _ z))
            (fun j hj u w e3 e4 => hio j (List.mem_cons_of_mem _ hj) u w (by rw [← keepS j fun z => nd'.1 (z ▸ hj)]; exact e3) e4)
            (fun m j l q z => by
              by_cases hm : m = i
              · subst hm
                rcases setSlotT_eq e1 with ⟨⟨u, hu⟩, rfl⟩ | ⟨⟨u, hu⟩, rfl⟩ <;> rw [List.getElem?_set_self (List.getElem?_eq_some_iff.mp hu).1] at q <;> cases q
              · exact hal m j l (by rw [← keepS m hm]; exact q) (List.mem_cons_of_mem _ z))
          refine ⟨fp', q1, fun j b hb => ?_⟩
          rcases q2 j b hb with hb | hb
          · by_cases hj : j = i
            · subst hj; rw [updF_same] at hb; exact .inr (List.mem_append_left _ hb)
            · rw [updF_ne hj] at hb; exact .inl hb
          · exact .inr (List.mem_append_right _ hb)
structure PostX (F : Addr → Prop) (H : Hp) (fp : Fp) (fa : List Addr) (F' : Addr → Prop) (H' : Hp) (fp' : Fp) (fpv : List Addr) : Prop where
  sub : ∀ b, F b → F' b
  new : ∀ b, F' b → F b ∨ (∃ i, b ∈ fp i) ∨ b ∈ fa ∨ H b = none
  keep : ∀ b o, H b = some o → (∀ i, b ∉ fp i) → H' b = some o
  there : ∀ b, H b ≠ none → H' b ≠ none
  fresh : ∀ i b, b ∈ fp' i → (∃ j, b ∈ fp j) ∨ b ∈ fa ∨ H b = none
  freshv : ∀ b, b ∈ fpv → (∃ j, b ∈ fp j) ∨ b ∈ fa ∨ H b = none
  disv : ∀ i b, b ∈ fp' i → b ∉ fpv
  nodv : fpv.Nodup
theorem Post.transX (P : Post F H fp F1 H1 fp1 fa wr) (Q : PostX F1 H1 fp1 fa F2 H2 fp2 fpv) : Post F H fp F2 H2 fp2 fpv true := by
  have nn : ∀ b, H1 b = none → H b = none := fun b z => by
    cases e : H b with
    | none => rfl
    | some o => exact absurd z (P.there b (by rw [e]; simp))
  have lift : ∀ b, ((∃ i, b ∈ fp1 i) ∨ b ∈ fa ∨ H1 b = none) → (∃ i, b ∈ fp i) ∨ H b = none := fun b h => by
    rcases h with ⟨i, h⟩ | h | h
    · exact P.fresh i b h
    · exact P.freshv b h
    · exact .inr (nn b h)
  refine ⟨fun b h => Q.sub b (P.sub b h), fun b h => ?_, fun b o e w => ?_, fun b h => Q.there b (P.there b h), fun i b h => lift b (Q.fresh i b h), fun b h => lift b (Q.freshv b h), Q.disv, Q.nodv⟩
  · rcases Q.new b h with h | h
    · exact P.new b h
    · exact .inr (lift b h)
  · rcases w with w | w
    · cases w
    · refine Q.keep b o (P.keep b o e (.inr w)) fun i hi => ?_
      rcases P.fresh i b hi with ⟨j, z⟩ | z
      · exact w j z
      · rw [e] at z; cases z
mutual
theorem noTup_fp : ∀ (t : T) (v : V) (fq : List Addr), T.noTup t = true → TRep K F H v t fq → ∀ b ∈ fq, ∃ o, H b = some o ∧ ∀ xs ob, o ≠ .tup xs ∧ o ≠ .frz ob (.tup xs)
  | .fz d, v, fq, _, h => by simp only [TRep] at h; rw [h.1]; intro b hb; cases hb
  | .lst ts, v, fq, e, h => by
    simp only [TRep] at h
    obtain ⟨a, vs, fr, rfl, rfl, nf, ha, hr⟩ := h
    intro b hb
    rcases List.mem_cons.mp hb with rfl | hb
    · exact ⟨_, ha, fun _ _ => ⟨(fun z => by cases z), (fun z => by cases z)⟩⟩
    · exact noTups_fp ts vs fr (by simpa only [T.noTup] using e) hr b hb
  | .tup ts, v, fq, e, h => by simp [T.noTup] at e
  | .dct ks ts, v, fq, e, h => by
    simp only [TRep] at h
    obtain ⟨a, vs, fr, rfl, rfl, nf, ha, _, _, hr⟩ := h
    intro b hb
    rcases List.mem_cons.mp hb with rfl | hb
    · exact ⟨_, ha, fun _ _ => ⟨(fun z => by cases z), (fun z => by cases z)⟩⟩
    · exact noTups_fp ts vs fr (by simpa only [T.noTup] using e) hr b hb
theorem noTups_fp : ∀ (ts : List T) (vs : List V) (fq : List Addr), T.noTups ts = true → TReps K F H vs ts fq → ∀ b ∈ fq, ∃ o, H b = some o ∧ ∀ xs ob, o ≠ .tup xs ∧ o ≠ .frz ob (.tup xs)
  | [], [], fq, _, h => by simp only [TReps] at h; rw [h]; intro b hb; cases hb
  | [], _ :: _, _, _, h => by simp only [TReps] at h
  | _ :: _, [], _, _, h => by simp only [TReps] at h
  | t :: ts, v :: vs, fq, e, h => by
    simp only [TReps] at h
    obtain ⟨f1, f2, rfl, h1, h2⟩ := h
    simp only [T.noTups, Bool.and_eq_true] at e
    intro b hb
    rcases List.mem_append.mp hb with hb | hb
    · exact noTup_fp t v f1 e.1 h1 b hb
    · exact noTups_fp ts vs f2 e.2 h2 b hb
end
def NoT (BR : Addr → Prop) (H : Hp) : Prop := ∀ b, BR b → ∃ o, H b = some o ∧ ∀ xs ob, o ≠ .tup xs ∧ o ≠ .frz ob (.tup xs)
theorem rd_not {BR : Addr → Prop} (hB : NoT BR H) {a : Addr} {xs : List V} (h : Rd H a (.tup xs)) : ¬ BR a := fun hb => by
  obtain ⟨o, e, q⟩ := hB a hb
  rcases h with h | ⟨ob, h⟩
  · rw [e] at h; cases h; exact (q xs default).1 rfl
  · rw [e] at h; cases h; exact (q xs ob).2 rfl
mutual
theorem imm_minus {BR : Addr → Prop} (hB : NoT BR H) : ∀ (d : D) (v : V), d.imm = true → RepD K F H v d → RepD K (fun b => F b ∧ ¬ BR b) H v d
  | .none, v, _, h => by simpa only [RepD] using h
  | .bool _, v, _, h => by simpa only [RepD] using h
  | .int _, v, _, h => by simpa only [RepD] using h
  | .str _, v, _, h => by simpa only [RepD] using h
  | .list _, v, e, h => by simp [D.imm] at e
  | .dict _ _, v, e, h => by simp [D.imm] at e
  | .ins _ _, v, e, h => by simp [D.imm] at e
  | .ltp _, v, e, h => by simp [D.imm] at e
  | .tup ds, v, e, h => by
    simp only [RepD] at h ⊢
    obtain ⟨a, vs, rfl, hl, hr⟩ := h
    refine ⟨a, vs, rfl, ?_, imms_minus hB ds vs (by simpa only [D.imm] using e) hr⟩
    rcases hl with ⟨f, o, z, r⟩ | w
    · exact .inl ⟨⟨f, rd_not hB (.inr ⟨o, r⟩)⟩, o, z, r⟩
    · exact .inr w
theorem imms_minus {BR : Addr → Prop} (hB : NoT BR H) : ∀ (ds : List D) (vs : List V), D.imm.D.imms ds = true → RepDs K F H vs ds → RepDs K (fun b => F b ∧ ¬ BR b) H vs ds
  | [], [], _, h => by simp only [RepDs]
  | [], _ :: _, _, h => by simp only [RepDs] at h
  | _ :: _, [], _, h => by simp only [RepDs] at h
  | d :: ds, v :: vs, e, h => by
    simp only [RepDs] at h ⊢
    simp only [D.imm.D.imms, Bool.and_eq_true] at e
    exact ⟨imm_minus hB d v e.1 h.1, imms_minus hB ds vs e.2 h.2⟩
end
mutual
theorem timm_minus {BR : Addr → Prop} (hB : NoT BR H) : ∀ (t : T) (v : V) (fq : List Addr), t.imm = true → TRep K F H v t fq → TRep K (fun b => F b ∧ ¬ BR b) H v t fq
  | .fz d, v, fq, e, h => by simp only [TRep] at h ⊢; exact ⟨h.1, imm_minus hB d v (by simpa only [T.imm] using e) h.2⟩
  | .lst ts, v, fq, e, h => by
    simp only [TRep] at h ⊢
    obtain ⟨a, vs, fr, h1, h2, nf, ha, hr⟩ := h
    exact ⟨a, vs, fr, h1, h2, fun z => nf z.1, ha, timms_minus hB ts vs fr (by simpa only [T.imm] using e) hr⟩
  | .tup ts, v, fq, e, h => by
    simp only [TRep] at h ⊢
    obtain ⟨a, vs, fr, h1, h2, nf, ha, hr⟩ := h
    exact ⟨a, vs, fr, h1, h2, fun z => nf z.1, ha, timms_minus hB ts vs fr (by simpa only [T.imm] using e) hr⟩
  | .dct ks ts, v, fq, e, h => by
    simp only [TRep] at h ⊢
    obtain ⟨a, vs, fr, h1, h2, nf, ha, h3, h4, hr⟩ := h
    exact ⟨a, vs, fr, h1, h2, fun z => nf z.1, ha, h3, h4, timms_minus hB ts vs fr (by simpa only [T.imm] using e) hr⟩
theorem timms_minus {BR : Addr → Prop} (hB : NoT BR H) : ∀ (ts : List T) (vs : List V) (fq : List Addr), T.imms ts = true → TReps K F H vs ts fq → TReps K (fun b => F b ∧ ¬ BR b) H vs ts fq
  | [], [], _, _, h => by simpa only [TReps] using h
  | [], _ :: _, _, _, h => by simp only [TReps] at h
  | _ :: _, [], _, _, h => by simp only [TReps] at h
  | t :: ts, v :: vs, fq, e, h => by
    simp only [TReps] at h ⊢
    simp only [T.imms, Bool.and_eq_true] at e
    obtain ⟨f1, f2, h0, h1, h2⟩ := h
    exact ⟨f1, f2, h0, timm_minus hB t v f1 e.1 h1, timms_minus hB ts vs f2 e.2 h2⟩
end
theorem callF_sp {f : Fn} {vs : List V} {Q : VK} {E : XK} (S : SR K iov [] F H σ ρ fp) (V : VRs K F H σ as vs fa) (dv : ∀ i b, b ∈ fp i → b ∉ fa) (h : callF f ρ as = some (t, ρ'))
    (k : ∀ v H' F' fp' fpv, SR K iov [] F' H' σ ρ' fp' → TRep K F' H' v t fpv → PostX F H fp fa F' H' fp' fpv → Q v H') : spF K f vs H Q E := by
  unfold callF at h
  split at h
  · rename_i hok
    split at h
    · rename_i ts hts
      split at h
      · rename_i t' ios hrun
        split at h
        · rename_i hbr
          obtain ⟨ρ2, hput, e⟩ := Option.map_eq_some_iff.mp h
          cases e
          unfold ioOk at hok
          simp only [Bool.and_eq_true, decide_eq_true_eq, List.all_eq_true, Bool.not_eq_true', List.contains_eq_mem, decide_eq_false_iff_not] at hok
          obtain ⟨hnd, hdj⟩ := hok
          have ofa := V.fps
          let BR : Addr → Prop := fun b => ∃ i ∈ rdSlots f.io as, b ∈ fp i
          let Fc : Addr → Prop := fun b => F b ∨ BR b ∨ b ∈ fa
          have hion : ∀ i ∈ ioSlots f.io as, ∀ b ∈ fp i, ¬ Fc b := fun i hi b hb z => by
            rcases z with z | ⟨j, hj, z⟩ | z
            · exact (S.fpF i b hb).1 z
            · have := S.dis i j b hb z
              subst this
              exact hdj i hj hi
            · exact dv i b hb z
          obtain ⟨fpa, ar, ain, and_⟩ := args_rep (Fc := Fc) S (fun b h => .inl h) V hts (fun i hi b hb => .inr (.inl ⟨i, hi, hb⟩)) (fun b hb => .inr (.inr hb)) hion hnd
          refine ⟨by rw [← V.len]; exact argTs_len hts, Fc, ts, fpa, t, ios, ar, and_, fun b hb => ?_, hrun, fun v H' F' fpv fpi hsub hnew hkeep hthere htrk tr trs nd hfr => ?_⟩
          · rcases hb with hb | ⟨i, _, hb⟩ | hb
            · exact S.trk b hb
            · exact (S.fpF i b hb).2
            · exact (ofa b hb).2
          have nofpa : ∀ j, j ∉ ioSlots f.io as → ∀ b ∈ fp j, b ∉ fpa := fun j hj b hb z => by
            obtain ⟨i, hi, w⟩ := ain b z
            have := S.dis j i b hb w
            subst this
            exact hj hi
          have minus : TRep K (fun b => F' b ∧ ¬ BR b) H' v t fpv ∧ TReps K (fun b => F' b ∧ ¬ BR b) H' (pick f.io vs) ios fpi := by
            rw [Bool.or_eq_true] at hbr
            rcases hbr with hbr | hbr
            · have nb : ∀ b, ¬ BR b := fun b ⟨i, hi, _⟩ => by
                rw [List.isEmpty_iff.mp hbr] at hi; cases hi
              have eq : (fun b => F' b ∧ ¬ BR b) = F' := funext fun b => propext ⟨fun z => z.1, fun z => ⟨z, nb b⟩⟩
              rw [eq]; exact ⟨tr, trs⟩
            · simp only [Bool.and_eq_true] at hbr
              have hB : NoT BR H' := fun b ⟨i, hi, hb⟩ => by
                have := List.all_eq_true.mp hbr.2 i hi
                split at this
                · rename_i u hu
                  obtain ⟨v', _, tr'⟩ := S.slT hu
                  obtain ⟨o, e1, e2⟩ := noTup_fp u v' _ this tr' b hb
                  exact ⟨o, hkeep b o e1 (nofpa i (fun z => hdj i hi z) b hb), e2⟩
                · cases this
              exact ⟨timm_minus hB t v fpv hbr.1.1 tr, timms_minus hB ios _ fpi hbr.1.2 trs⟩
          have nd' := List.nodup_append.mp nd
          have F2off : ∀ j, j ∉ ioSlots f.io as → ∀ b ∈ fp j, ¬ (F' b ∧ ¬ BR b) := fun j hj b hb z => by
            rcases hnew b z.1 with w | w | w
            · rcases w with w | w | w
              · exact (S.fpF j b hb).1 w
              · exact z.2 w
              · exact dv j b hb w
            · exact nofpa j hj b hb w
            · exact (S.fpF j b hb).2 w
          have Fk : ∀ b o, F b → H b = some o → H' b = some o := fun b o fb e => hkeep b o e fun z => by
            obtain ⟨i, hi, w⟩ := ain b z
            exact (S.fpF i b w).1 fb
          have Fsub : ∀ b, F b → (F' b ∧ ¬ BR b) := fun b fb => ⟨hsub b (.inl fb), fun ⟨i, _, w⟩ => (S.fpF i b w).1 fb⟩
          have S1 : SR K iov (ioSlots f.io as) (fun b => F' b ∧ ¬ BR b) H' σ (killAll ρ (ioSlots f.io as)) (fun i => if i ∈ ioSlots f.io as then [] else fp i) := by
            refine ⟨by rw [killAll_len]; exact S.len, fun i s e hx => ?_, fun i hi => by simp [hi], fun i e => ?_, fun i => ?_, fun i j b hb hc => ?_, fun b hb => htrk b hb.1⟩
            · obtain ⟨k1, k2, k3, k4⟩ := killAll_get i (ioSlots f.io as) ρ
              have mk : ∀ u v', TRep K F H v' u (fp i) → TRep K (fun b => F' b ∧ ¬ BR b) H' v' u (fp i) := fun u v' r =>
                TRep.mono Fsub u v' _ (F2off i hx) (fun b o hb e => hb.elim (fun fb => Fk b o fb e) fun fb => hkeep b o e (nofpa i hx b fb)) r
              have ei : (if i ∈ ioSlots f.io as then [] else fp i) = fp i := by rw [if_neg hx]
              cases s with
              | no =>
                show (if i ∈ ioSlots f.io as then [] else fp i) = []
                rw [ei]
                cases es : ρ[i]? with
                | none => exact S.out i es
                | some s0 =>
                  have r := S.slot i s0 es (by simp)
                  cases s0 with
                  | no => exact r
                  | lk => exact r.1
                  | ow u => rw [(k1 u).mpr es] at e; cases e
                  | io u => rw [(k2 u).mpr es] at e; cases e
                  | al j l => exact r.1
              | lk =>
                obtain ⟨z, r⟩ := S.slot i _ (killAll_lk i (ioSlots f.io as) ρ e) (by simp)
                exact ⟨by simp only [ei]; exact z, r⟩
              | ow u =>
                obtain ⟨v', a, r⟩ := S.slot i _ ((k1 u).mp e) (by simp)
                exact ⟨v', a, by simp only [ei]; exact mk u v' r⟩
              | io u =>
                obtain ⟨v', a, c, r⟩ := S.slot i _ ((k2 u).mp e) (by simp)
                exact ⟨v', a, c, by simp only [ei]; exact mk u v' r⟩
              | al j l =>
                obtain ⟨e', hj⟩ := k3 j l e
                obtain ⟨z, r⟩ := S.slot i _ e' (by simp)
                refine ⟨by simp only [ei]; exact z, .inr ?_⟩
                rcases r with r | ⟨v', a, vs', h1, h2, h3, h4, h5⟩
                · cases r
                · refine ⟨v', a, vs', h1, h2, ?_, h4, ?_⟩
                  · rcases h5 with h5 | h5
                    · exact Fk a _ h5 h3
                    · exact hkeep a _ h3 (nofpa j hj a h5)
                  · rcases h5 with h5 | h5
                    · exact .inl (Fsub a h5)
                    · exact .inr (by simp only [if_neg hj]; exact h5)
            · obtain ⟨k1, k2, k3, k4⟩ := killAll_get i (ioSlots f.io as) ρ
              have := S.out i (k4.mp e)
              simp only [this]; split <;> rfl
            · show (if i ∈ ioSlots f.io as then [] else fp i).Nodup
              split
              · exact List.nodup_nil
              · exact S.nod i
            · have hb : b ∈ (if i ∈ ioSlots f.io as then [] else fp i) := hb
              have hc : b ∈ (if j ∈ ioSlots f.io as then [] else fp j) := hc
              split at hb
              · cases hb
              · split at hc
                · cases hc
                · exact S.dis i j b hb hc
          have sf : ∀ i b, b ∈ (if i ∈ ioSlots f.io as then [] else fp i) → b ∈ fp i ∧ i ∉ ioSlots f.io as := fun i b hb => by
            split at hb
            · cases hb
            · rename_i hi; exact ⟨hb, hi⟩
          have offr : ∀ i b, b ∈ (if i ∈ ioSlots f.io as then [] else fp i) → ∀ fq : List Addr, (∀ b ∈ fq, b ∈ fpa ∨ H b = none) → b ∉ fq := fun i b hb fq hq z => by
            obtain ⟨q1, q2⟩ := sf i b hb
            rcases hq b z with w | w
            · exact nofpa i q2 b q1 w
            · exact (S.fpF i b q1).2 w
          obtain ⟨fp', S2, hfp'⟩ := putIo_ok S1 hnd hput V minus.2 nd'.2.1 (fun i b hb => offr i b hb fpi fun b hb => hfr b (List.mem_append_right _ hb))
            (fun i hi u w e1 e2 => by
              obtain ⟨k1, k2, k3, k4⟩ := killAll_get i (ioSlots f.io as) ρ
              exact S.ioOf (by simp) e2 u ((k2 u).mp e1)) (fun m j l q => by
              obtain ⟨k1, k2, k3, k4⟩ := killAll_get m (ioSlots f.io as) ρ
              exact (k3 j l q).2)
          have infr : ∀ b, b ∈ fpa ∨ H b = none → (∃ j, b ∈ fp j) ∨ b ∈ fa ∨ H b = none := fun b hb => hb.elim (fun z => let ⟨i, _, w⟩ := ain b z; .inl ⟨i, w⟩) fun z => .inr (.inr z)
          refine k v H' _ fp' fpv S2 minus.1 ⟨Fsub, fun b z => ?_, fun b o e w => hkeep b o e fun z => ?_, hthere, fun i b hb => ?_, fun b hb => infr b (hfr b (List.mem_append_left _ hb)), fun i b hb z => ?_, nd'.1⟩
          · rcases hnew b z.1 with w | w | w
            · rcases w with w | ⟨i, _, w⟩ | w
              · exact .inl w
              · exact .inr (.inl ⟨i, w⟩)
              · exact .inr (.inr (.inl w))
            · exact .inr (infr b (.inl w))
            · exact .inr (.inr (.inr w))
          · obtain ⟨i, _, q⟩ := ain b z
            exact w i q
          · rcases hfp' i b hb with w | w
            · exact .inl ⟨i, (sf i b w).1⟩
            · exact infr b (hfr b (List.mem_append_right _ w))
          · rcases hfp' i b hb with w | w
            · exact offr i b w fpv (fun b hb => hfr b (List.mem_append_left _ hb)) z
            · exact nd'.2.2 b z b w rfl
        · cases h
      · cases h
    · cases h
  · cases h
theorem s_call {nm : Str} {ps : List Str} {kb : Kbs} {f : Fn} {p : Pos} (Fn_ : FnAt X nm ps kb f) (gd : X.A.guards = some []) (hg : Gl X nm) (hdb : (nm == ("__debug__" : Str)) = false) (hp : plainE e = true) (hpl : (backTo pos (starEach es X.env)).any (·.1) = false) (ha : PA X (e :: es) (tA X.K iov ρ as ρ1 wa)) (h : callF f ρ1 as = some (t, ρ2)) :
    PE X (.Call (.Name nm p) (e :: es) [] pos) (tE X.K iov ρ (.t t) ρ2 true) := by
  refine PE.imp' (e_call Fn_ gd hg hdb (star_plain hp _) hpl ha) ?_
  rintro σ H Q ⟨F, fp, S, k⟩
  exact ⟨F, fp, S, fun vs H1 F1 fp1 fa S1 V1 P1 => callF_sp S1 V1 P1.disv h fun v H' F' fp' fpv S' tr PX => k v H' F' fp' fpv S' tr (P1.transX PX)⟩
theorem VRs.split : ∀ {as : List Val} {vs : List V} {fq : List Addr}, VRs K F H σ as vs fq → ∃ fs : List (List Addr), fq = fs.flatten ∧ fs.length = as.length ∧ ∀ (i : Nat) t v f, as[i]? = some t → vs[i]? = some v → fs[i]? = some f → VR K F H σ t v f
  | [], [], fq, h => ⟨[], by have h : fq = [] := h; rw [h]; rfl, rfl, fun i t v f e => by simp at e⟩
  | [], _ :: _, _, h => h.elim
  | _ :: _, [], _, h => h.elim
  | t :: ts, v :: vs, fq, h => by
    obtain ⟨f1, f2, rfl, h1, h2⟩ := h
    obtain ⟨fs, e1, e2, e3⟩ := VRs.split h2
    refine ⟨f1 :: fs, by rw [e1]; rfl, by simp [e2], fun i t' v' f' q1 q2 q3 => ?_⟩
    cases i with
    | zero => simp at q1 q2 q3; subst q1 q2 q3; exact h1
    | succ i => exact e3 i t' v' f' (by simpa using q1) (by simpa using q2) (by simpa using q3)
theorem flats_nodup : ∀ {fs : List (List Addr)}, fs.flatten.Nodup → (∀ (i : Nat) f, fs[i]? = some f → f.Nodup) ∧ ∀ (i j : Nat) f g b, fs[i]? = some f → fs[j]? = some g → b ∈ f → b ∈ g → i = j
  | [], _ => ⟨fun i f e => by simp at e, fun i j f g b e => by simp at e⟩
  | f0 :: fs, h => by
    have h : (f0 ++ fs.flatten).Nodup := h
    obtain ⟨n1, n2, n3⟩ := List.nodup_append.mp h
    obtain ⟨a1, a2⟩ := flats_nodup n2
    refine ⟨fun i f e => ?_, fun i j f g b e1 e2 hb hc => ?_⟩
    · cases i with
      | zero => simp at e; subst e; exact n1
      | succ i => exact a1 i f (by simpa using e)
    · cases i with
      | zero =>
        cases j with
        | zero => rfl
        | succ j =>
          simp at e1 e2; subst e1
          exact absurd rfl (n3 b hb b (List.mem_flatten.mpr ⟨g, List.mem_of_getElem? e2, hc⟩))
      | succ i =>
        cases j with
        | zero =>
          simp at e1 e2; subst e2
          exact absurd rfl (n3 b hc b (List.mem_flatten.mpr ⟨f, List.mem_of_getElem? e1, hb⟩))
        | succ j => rw [a2 i j f g b (by simpa using e1) (by simpa using e2) hb hc]
theorem perm_rep {vs : List V} (V : VRs K F H σ as vs fa) (nd : fa.Nodup) : ∀ {perm : List Nat} {bs : List Val}, perm.Nodup → permV perm as = some bs → ∃ fb, VRs K F H σ bs (permL perm vs) fb ∧ fb.Nodup ∧ (∀ b ∈ fb, b ∈ fa) := by
  obtain ⟨fs, rfl, e2, e3⟩ := V.split
  obtain ⟨a1, a2⟩ := flats_nodup nd
  have hl := V.len
  have go : ∀ {perm : List Nat} {bs : List Val}, perm.Nodup → permV perm as = some bs → ∃ fb, VRs K F H σ bs (permL perm vs) fb ∧ fb.Nodup ∧ ∀ b ∈ fb, ∃ i ∈ perm, ∃ f, fs[i]? = some f ∧ b ∈ f := by
    intro perm
    induction perm with
    | nil => intro bs _ h; cases h; exact ⟨[], rfl, List.nodup_nil, fun _ h => (nomatch h)⟩
    | cons i is ih =>
      intro bs hn h
      unfold permV at h
      split at h
      · rename_i a r ea er
        cases h
        obtain ⟨hi, hn2⟩ := List.nodup_cons.mp hn
        obtain ⟨fb, V2, n2, s2⟩ := ih hn2 er
        have il : i < as.length := (List.getElem?_eq_some_iff.mp ea).1
        have ev : vs[i]? = some (vs[i]'(by omega)) := List.getElem?_eq_getElem _
        have ef : fs[i]? = some (fs[i]'(by omega)) := List.getElem?_eq_getElem _
        have z1 : permL (i :: is) vs = (vs[i]'(by omega)) :: permL is vs := by simp [permL, List.filterMap_cons, ev]
        rw [z1]
        refine ⟨_, ⟨_, _, rfl, e3 i _ _ _ ea ev ef, V2⟩, List.nodup_append.mpr ⟨a1 i _ ef, n2, fun b hb c hc e => ?_⟩, fun b hb => ?_⟩
        · subst e
          obtain ⟨j, hj, f, e4, hf⟩ := s2 b hc
          have := a2 i j _ _ b ef e4 hb hf
          subst this
          exact hi hj
        · rcases List.mem_append.mp hb with hb | hb
          · exact ⟨i, by simp, _, ef, hb⟩
          · obtain ⟨j, hj, r⟩ := s2 b hb
            exact ⟨j, by simp [hj], r⟩
      · cases h
  intro perm bs hn h
  obtain ⟨fb, q1, q2, q3⟩ := go hn h
  exact ⟨fb, q1, q2, fun b hb => by
    obtain ⟨i, _, f, e, hf⟩ := q3 b hb
    exact List.mem_flatten.mpr ⟨f, List.mem_of_getElem? e, hf⟩⟩
theorem Post.subv (P : Post F H fp F' H' fp' fa wr) (h : ∀ b ∈ fb, b ∈ fa) (n : fb.Nodup) : Post F H fp F' H' fp' fb wr :=
  ⟨P.sub, P.new, P.keep, P.there, P.fresh, fun b hb => P.freshv b (h b hb), fun i b hb z => P.disv i b hb (h b z), n⟩
theorem permV_lt {as bs : List Val} : ∀ {perm : List Nat} {bs : List Val}, permV perm as = some bs → ∀ i ∈ perm, i < as.length
  | [], _, _, i, hi => by cases hi
  | j :: is, bs, h, i, hi => by
    unfold permV at h
    split at h
    · rename_i a r ea er
      rcases List.mem_cons.mp hi with rfl | hi
      · exact (List.getElem?_eq_some_iff.mp ea).1
      · exact permV_lt (bs := r) er i hi
    · cases h
theorem s_callk {nm : Str} {ps : List Str} {kb : Kbs} {f : Fn} {p : Pos} {kws : List Keyword} {ks : List Str} {perm : List Nat} {bs : List Val} (Fn_ : FnAt X nm ps kb f) (gd : X.A.guards = some []) (hg : Gl X nm) (hdb : (nm == ("__debug__" : Str)) = false) (hq : (ks, perm) ∈ kb) (hks : kws.map (·.arg) = ks.map some) (hkl : kws.length = ks.length) (hal : as.length = ks.length)
    (hkw : PK X kws (tA X.K iov ρ as ρ1 wa)) (hpm : permV perm as = some bs) (hpn : perm.Nodup) (h : callF f ρ1 bs = some (t, ρ2)) : PE X (.Call (.Name nm p) [] kws pos) (tE X.K iov ρ (.t t) ρ2 true) := by
  refine PE.imp' (e_callk Fn_ gd hg hdb hq hkw hks hkl fun i hi => by rw [← hal]; exact permV_lt (bs := bs) hpm i hi) ?_
  rintro σ H Q ⟨F, fp, S, k⟩
  refine ⟨F, fp, S, fun vs H1 F1 fp1 fa S1 V1 P1 => ⟨by rw [← hal, V1.len], ?_⟩⟩
  obtain ⟨fb, V2, n2, s2⟩ := perm_rep V1 P1.nodv hpn hpm
  have P2 := P1.subv s2 n2
  exact callF_sp S1 V2 P2.disv h fun v H' F' fp' fpv S' tr PX => k v H' F' fp' fpv S' tr (P2.transX PX)
end
end Mv

end
section
namespace Mv
open PySem PySem.Spec PyProof.Rows L2
def ItOk (K : PySem.W.Frag) (F : Addr → Prop) (H : Hp) (J : It) (ds : List D) : Prop := ∀ F2 H2, (∀ b, F b → F2 b) → (∀ b o, F b → H b = some o → H2 b = some o) →
  (∀ (i : Nat) (d : D), ds[i]? = some d → J.go i H2 ∧ ∀ x H3, J.yld i H2 x H3 → PureRes K F2 H2 (.fz d) x H3) ∧ J.stop ds.length H2
def tI (K : PySem.W.Frag) (iov : Nat → Option V) (ρ : Env) (ds : List D) (ρ' : Env) (wr : Bool) : TI := fun σ H R => ∃ F fp, SR K iov [] F H σ ρ fp ∧
  ∀ J H' F' fp', SR K iov [] F' H' σ ρ' fp' → ItOk K F' H' J ds → Post F H fp F' H' fp' [] wr → R J H'
def ItOkW (wb : Bool) (K : PySem.W.Frag) (F : Addr → Prop) (H : Hp) (J : It) (ds : List D) : Prop := ∀ F2 H2, (∀ b, F b → F2 b) → (∀ b o, (wb = false ∨ F b) → H b = some o → H2 b = some o) →
  (∀ (i : Nat) (d : D), ds[i]? = some d → J.go i H2 ∧ ∀ x H3, J.yld i H2 x H3 → PureRes K F2 H2 (.fz d) x H3) ∧ J.stop ds.length H2
def tIW (wb : Bool) (K : PySem.W.Frag) (iov : Nat → Option V) (ρ : Env) (ds : List D) (ρ' : Env) (wr : Bool) : TI := fun σ H R => ∃ F fp, SR K iov [] F H σ ρ fp ∧
  ∀ J H' F' fp', SR K iov [] F' H' σ ρ' fp' → ItOkW wb K F' H' J ds → Post F H fp F' H' fp' [] wr → R J H'
theorem ItOkW.of {wb : Bool} {K : PySem.W.Frag} {F : Addr → Prop} {H : Hp} {J : It} {ds : List D} (h : ItOk K F H J ds) : ItOkW wb K F H J ds := fun F2 H2 hF hk => h F2 H2 hF fun b o f => hk b o (.inr f)
theorem ItOkW.toI {K : PySem.W.Frag} {F : Addr → Prop} {H : Hp} {J : It} {ds : List D} (h : ItOkW true K F H J ds) : ItOk K F H J ds := fun F2 H2 hF hk => h F2 H2 hF fun b o f => f.elim (fun z => nomatch z) (hk b o)
theorem PI.imp' {X : Cx} {tg e : Expr} {t t' : TI} (h : PI X tg e t) (k : ∀ σ H Q, t' σ H Q → t σ H Q) : PI X tg e t' := ⟨fun pins s σ H Q I q => h.run pins s σ H Q I (k _ _ _ q)⟩
theorem PG.imp' {X : Cx} {e : Expr} {t t' : TG} (h : PG X e t) (k : ∀ v σ H Q, t' v σ H Q → t v σ H Q) : PG X e t' := ⟨fun pins s σ H v u Q I r q => h.run pins s σ H v u Q I r (k _ _ _ _ q)⟩
theorem PGs.imp' {X : Cx} {e : List Expr} {t t' : TGs} (h : PGs X e t) (k : ∀ v σ H Q, t' v σ H Q → t v σ H Q) : PGs X e t' := ⟨fun pins s σ H v u Q I r q => h.run pins s σ H v u Q I r (k _ _ _ _ q)⟩
section
variable {X : Cx} {K : PySem.W.Frag} {iov : Nat → Option V} {F F1 F2 F' Fc : Addr → Prop} {H H1 H2 H' : Hp} {fp fp1 fp2 fp' : Fp} {fa fb fx fpv : List Addr} {t x y : T} {v vx vy : V} {b : Bool} {ρ ρ1 ρ2 ρ3 ρ' : Env} {wr wa wb wc : Bool} {va vb vc : Val} {σ : L2.St} {e e1 e2 e3 tg : Expr} {es : List Expr} {pos : Pos} {as : List Val} {ds : List D}
theorem it_list {a : Addr} {vs : List V} (hl : LstF K F H a vs) (hr : RepDs K F H vs ds) : ItOk K F H (Itl K a) ds := fun F2 H2 hF hk => by
  have r2 : SqL K H2 a vs := by
    rcases hl with ⟨f, r⟩ | w
    · exact .inl (rdKeep r fun o => hk a o f)
    · exact LstF.sq (F := F) (.inr w)
  have q2 := RepDs.mono hF hk ds vs hr
  refine ⟨fun i d e => ?_, vs, r2, by rw [hr.len]; exact Nat.le_refl _⟩
  obtain ⟨v, e1, e2⟩ := q2.get e
  refine ⟨⟨vs, v, r2, e1⟩, fun x H3 ⟨e3, e4⟩ => ?_⟩
  subst e3
  have := e4 vs (r2)
  rw [e1] at this; cases this
  exact .same e2
theorem it_tup {a : Addr} {vs : List V} (hl : TupF K F H a vs) (hr : RepDs K F H vs ds) : ItOk K F H (Itt K a) ds := fun F2 H2 hF hk => by
  have r2 : SqT K H2 a vs := by
    rcases hl with ⟨f, o, _, r⟩ | w
    · exact .inl (.inr ⟨o, hk a _ f r⟩)
    · exact TupF.sq (F := F) (.inr w)
  have q2 := RepDs.mono hF hk ds vs hr
  refine ⟨fun i d e => ?_, vs, r2, by rw [hr.len]; exact Nat.le_refl _⟩
  obtain ⟨v, e1, e2⟩ := q2.get e
  refine ⟨⟨vs, v, r2, e1⟩, fun x H3 ⟨e3, e4⟩ => ?_⟩
  subst e3
  have := e4 vs r2
  rw [e1] at this; cases this
  exact .same e2
theorem enumD_get : ∀ (ds : List D) (n i : Nat) (d : D), (enumD n ds)[i]? = some d → ∃ d0, ds[i]? = some d0 ∧ d = .ltp [.int ((n + i : Nat) : Int), d0]
  | [], n, i, d, h => by simp [enumD] at h
  | d0 :: ds, n, 0, d, h => by simp [enumD] at h; exact ⟨d0, rfl, by rw [← h]; simp⟩
  | d0 :: ds, n, i + 1, d, h => by
    obtain ⟨d1, e1, e2⟩ := enumD_get ds (n + 1) i d (by simpa [enumD] using h)
    exact ⟨d1, by simpa using e1, by rw [e2]; congr 3; omega⟩
theorem enumD_len : ∀ (ds : List D) (n : Nat), (enumD n ds).length = ds.length
  | [], _ => rfl
  | d :: ds, n => by simp [enumD, enumD_len ds]
theorem it_enum {a : Addr} {vs : List V} (hl : LstF K F H a vs) (hr : RepDs K F H vs ds) : ItOk K F H (Ite K a) (enumD 0 ds) := fun F2 H2 hF hk => by
  have r2 : SqL K H2 a vs := by
    rcases hl with ⟨f, r⟩ | w
    · exact .inl (rdKeep r fun o => hk a o f)
    · exact LstF.sq (F := F) (.inr w)
  have q2 := RepDs.mono hF hk ds vs hr
  refine ⟨fun i d e => ?_, vs, r2, by rw [hr.len, enumD_len]; exact Nat.le_refl _⟩
  obtain ⟨d0, e0, rfl⟩ := enumD_get ds 0 i d e
  obtain ⟨v, e1, e2⟩ := q2.get e0
  refine ⟨⟨vs, v, r2, e1⟩, fun x H3 ⟨T, x0, e3, e4, e5, e6⟩ => ?_⟩
  subst e3 e5
  have := e6 vs (r2)
  rw [e1] at this; cases this
  refine res_ltp e4 ?_
  simp only [RepDs, RepD, and_true]
  exact ⟨by simp, e2⟩
theorem it_range {lo hi : Int} : ItOk K F H (Itr lo (hi - lo).toNat) (rangeD lo hi) := fun F2 H2 hF hk => by
  refine ⟨fun i d e => ?_, by show (hi - lo).toNat ≤ _; simp [rangeD]⟩
  unfold rangeD at e
  rw [List.getElem?_map] at e
  have hi' : i < (hi - lo).toNat := by
    cases h : (List.range (hi - lo).toNat)[i]? with
    | none => rw [h] at e; cases e
    | some n => have := (List.getElem?_eq_some_iff.mp h).1; simpa using this
  rw [List.getElem?_range hi'] at e
  simp at e
  subst e
  refine ⟨hi', fun x H3 ⟨e3, e4⟩ => ?_⟩
  subst e3 e4
  exact res_int
theorem i_list (ha : PE X e (tE X.K iov ρ va ρ1 wa)) (h : fzVal ρ1 va = some (t, ρ2)) (ht : t.toD = .list ds) : PI X tg e (tI X.K iov ρ ds ρ2 wa) := by
  have hz := s_fzv ha h
  rw [ht] at hz
  refine PI.imp' (pi_list hz) ?_
  rintro σ H Q ⟨F, fp, S, k⟩
  refine ⟨F, fp, S, fun v H1 F1 fp1 fa S1 V1 P1 => ?_⟩
  have V1 : TRep X.K F1 H1 v (.fz (.list ds)) fa := V1
  simp only [TRep, RepD] at V1
  obtain ⟨_, a, vs, rfl, hl, hr⟩ := V1
  exact ⟨a, rfl, ⟨vs, hl.sq⟩, k _ H1 F1 fp1 S1 (it_list hl hr) P1.drop0⟩
theorem i_tup (ha : PE X e (tE X.K iov ρ va ρ1 wa)) (h : fzVal ρ1 va = some (t, ρ2)) (ht : t.toD = .tup ds) : PI X tg e (tI X.K iov ρ ds ρ2 wa) := by
  have hz := s_fzv ha h
  rw [ht] at hz
  refine PI.imp' (pi_tup hz) ?_
  rintro σ H Q ⟨F, fp, S, k⟩
  refine ⟨F, fp, S, fun v H1 F1 fp1 fa S1 V1 P1 => ?_⟩
  have V1 : TRep X.K F1 H1 v (.fz (.tup ds)) fa := V1
  simp only [TRep, RepD] at V1
  obtain ⟨_, a, vs, rfl, hl, hr⟩ := V1
  exact ⟨a, rfl, ⟨vs, hl.sq⟩, k _ H1 F1 fp1 S1 (it_tup hl hr) P1.drop0⟩
theorem turn_rangeL {P : Program} {w : World} {K : PySem.W.Frag} (it : Addr) (lo : Int) (n : Nat) : Turn P w K tg (Itr lo n) [it] it (fun i h => IsLongIter h it (lo + (i : Nat) * 1) ((n : Int) - (i : Nat)) 1) where
  mem := by simp
  obj := fun i h st b hb => by
    have e : b = it := by simpa using hb
    subst e
    exact ⟨_, st, fun v z => nomatch z⟩
  keep := fun i h h' st k => k it (by simp) _ st
  item := by
    intro X hP hw hK hc i pins s σ H E I hf st hg
    subst hP hw hK
    obtain ⟨f0, f1, f2, f3, f4, f5⟩ := hf it (by simp)
    have W := Walks.longrange (prog := X.prog) (w := X.w) (I.ok.hd hc) it lo 1 n
    refine W.item i s _ _ hg st fun v h' tk hv st' kk => ?_
    obtain ⟨t, rfl⟩ := hv
    have I1 : Inv X pins σ H { s with heap := h', toks := tk } := I.turned (fun b o hb e => kk b o (by simpa using hb) e) f0 f1 f3 f4 f5
    refine ⟨_, rfl, go_of (s := { s with heap := h', toks := tk }) (n := "longrange_iterator") st' rfl rfl (by decide) ⟨.int (lo + i), H, I1, ⟨t, ?_⟩, ⟨rfl, rfl⟩, st', fun b hb => (hf b hb).1⟩⟩
    rw [Int.mul_one]
  done := by
    intro X hP hw hK hc i pins s σ H E I hf st hg
    subst hP hw hK
    obtain ⟨f0, f1, f2, f3, f4, f5⟩ := hf it (by simp)
    exact wpAny_pyNext_long_end (I.ok.hd hc) st (by have : n ≤ i := hg; omega) fun h' eb => ⟨rfl, I.turned (t' := s.toks) (fun b o hb e => eb b o hb e) f0 f1 f3 f4 f5⟩
  self := fun A i s Q E st h => wpAny_pyIter_longiter st h
theorem range_itL {pins : List (Addr × Obj)} {σ : L2.St} {H : Hp} {s : Shared} {R : It → Hp → Prop} {E : Value → Shared → Prop} {lo hi : Int} {t u v : Tok} {tk : Nat} (I : Inv X pins σ H s)
    (q : R (Itr lo (hi - lo).toNat) H) : wpAny (model X.prog X.w) X.A (pyIter (.ref s.heap.objs.size)) (PIE X pins σ tg R) E { s with heap := s.heap.push { cls := .type "range", data := .fields #[.int lo t, .int hi u, .int 1 v] }, toks := tk } := by
  have I2 : Inv X pins σ H { s with heap := s.heap.push { cls := .type "range", data := .fields #[.int lo t, .int hi u, .int 1 v] }, toks := tk } := I.kept fun b o e => Heap.get?_push_of_some _ e
  have e1 : lo + ((0 : Nat) : Int) * 1 = lo := by simp
  have e2 : (((hi - lo).toNat : Nat) : Int) - ((0 : Nat) : Int) = Builtin.Range.rangeSize lo hi 1 := by rw [rangeSize_one]; split <;> omega
  cases hs : Builtin.Range.small lo hi 1
  · refine wpAny_pyIter_longrange (IsRange.new ..) hs ?_
    refine pi_one (tk := tk) I2 _ (turn_rangeL _ lo (hi - lo).toNat) ?_ q
    show IsLongIter _ _ (lo + ((0 : Nat) : Int) * 1) ((((hi - lo).toNat : Nat) : Int) - ((0 : Nat) : Int)) 1
    rw [e1, e2]
    exact Heap.get?_push_size _ rfl
  · refine wpAny_pyIter_range (IsRange.new ..) hs ?_
    refine pi_one (tk := tk) I2 _ (turn_range _ lo (hi - lo).toNat) ?_ q
    show IsRangeIter _ _ (lo + ((0 : Nat) : Int) * 1) ((((hi - lo).toNat : Nat) : Int) - ((0 : Nat) : Int)) 1
    rw [e1, e2]
    exact Heap.get?_push_size _ rfl
def iRngL1 (ta : TA) : TI := fun σ H R => ta σ H fun vs H1 => ∃ i : Int, vs = [.int i] ∧ R (Itr 0 i.toNat) H1
def iRngL2 (ta : TA) : TI := fun σ H R => ta σ H fun vs H1 => ∃ i j : Int, vs = [.int i, .int j] ∧ R (Itr i (j - i).toNat) H1
theorem pi_rangeL1 {a : Expr} {ta : TA} {p pos : Pos} (hg : Gl X "range") (hm : X.mg "range" = none) (ha : PA X [a] ta) (hs : starEach [a] X.env = [(false, eval a X.env)] := by rfl) : PI X tg (.Call (.Name "range" p) [a] [] pos) (iRngL1 ta) := by
  refine ⟨fun pins s σ H R I h => ?_⟩
  refine Call_ (ld_blt I hg hm boot_range (PyProof.Rows.callWith_type1 (thn (ha.run pos pins s σ H _ I h) fun us s1 ⟨vs, H1, I1, r1, q1⟩ => ?_) hs rfl))
  obtain ⟨j, e, q⟩ := q1
  subst e
  cases r1 with
  | cons r rr =>
    cases rr
    obtain ⟨t, rfl⟩ := r
    exact call_range_1 (range_itL (lo := 0) (hi := j) I1 (by simpa using q))
theorem pi_rangeL2 {a b : Expr} {ta : TA} {p pos : Pos} (hg : Gl X "range") (hm : X.mg "range" = none) (ha : PA X [a, b] ta) (hs : starEach [a, b] X.env = [(false, eval a X.env), (false, eval b X.env)] := by rfl) (hs2 : starEach [b] X.env = [(false, eval b X.env)] := by rfl) :
    PI X tg (.Call (.Name "range" p) [a, b] [] pos) (iRngL2 ta) := by
  refine ⟨fun pins s σ H R I h => ?_⟩
  refine Call_ (ld_blt I hg hm boot_range (PyProof.Rows.callWith_type1 (thn (ha.run pos pins s σ H _ I h) fun us s1 ⟨vs, H1, I1, r1, q1⟩ => ?_) (by rw [hs, hs2]) (by rw [hs2]; rfl)))
  obtain ⟨i, j, e, q⟩ := q1
  subst e
  cases r1 with
  | cons r rr =>
    cases rr with
    | cons r' rr =>
      cases rr
      obtain ⟨t, rfl⟩ := r
      obtain ⟨t', rfl⟩ := r'
      exact call_range_2 (range_itL I1 q)
theorem i_rng1 {i : Int} {p : Pos} (hg : Gl X "range") (hm : X.mg "range" = none) (hp : plainE e = true) (ha : PE X e (tE X.K iov ρ (.t (.fz (.int i))) ρ1 wa)) (hi : okR i = true) : PI X tg (.Call (.Name "range" p) [e] [] pos) (tI X.K iov ρ (rangeD 0 i) ρ1 wa) := by
  refine PI.imp' (pi_rangeL1 hg hm (pa_cons ha pa_nil (star_plain hp _)) (star_plain hp _)) ?_
  rintro σ H Q ⟨F, fp, S, k⟩
  refine ⟨F, fp, S, fun v H1 F1 fp1 fa S1 V1 P1 => ⟨i, by rw [trep_int V1], ?_⟩⟩
  have := k _ H1 F1 fp1 S1 (it_range (lo := 0) (hi := i)) P1.drop0
  simpa using this
theorem i_rng2 {i j : Int} {p : Pos} (hg : Gl X "range") (hm : X.mg "range" = none) (hp : plainE e1 = true) (hp2 : plainE e2 = true) (ha : PE X e1 (tE X.K iov ρ (.t (.fz (.int i))) ρ1 wa)) (hb : PE X e2 (tE X.K iov ρ1 (.t (.fz (.int j))) ρ2 wb)) (hi : okR i = true) (hj : okR j = true) : PI X tg (.Call (.Name "range" p) [e1, e2] [] pos) (tI X.K iov ρ (rangeD i j) ρ2 (wa || wb)) := by
  refine PI.imp' (pi_rangeL2 hg hm (pa_cons ha (pa_cons hb pa_nil (star_plain hp2 _)) (star_plain hp _)) (by rw [star_plain hp, star_plain hp2]; rfl) (star_plain hp2 _)) ?_
  rintro σ H Q ⟨F, fp, S, k⟩
  refine two (R := fun x y H2 => ∃ i j : Int, [x, y] = [.int i, .int j] ∧ Q (Itr i (j - i).toNat) H2) rfl rfl rfl S fun vx vy H2 F2 fp2 fa fb S2 V1 V2 P => ?_
  exact ⟨i, j, by rw [trep_int V1, trep_int V2], k _ H2 F2 fp2 S2 it_range P.drop0⟩
theorem it_rangeB {lo hi : Int} : ItOk K F H (Itc lo (-1) (lo - hi).toNat) (rangeB lo hi) := fun F2 H2 hF hk => by
  refine ⟨fun i d e => ?_, by show (lo - hi).toNat ≤ _; simp [rangeB]⟩
  unfold rangeB at e
  rw [List.getElem?_map] at e
  have hi' : i < (lo - hi).toNat := by
    cases h : (List.range (lo - hi).toNat)[i]? with
    | none => rw [h] at e; cases e
    | some n => have := (List.getElem?_eq_some_iff.mp h).1; simpa using this
  rw [List.getElem?_range hi'] at e
  simp at e
  subst e
  refine ⟨hi', fun x H3 ⟨e3, e4⟩ => ?_⟩
  subst e3 e4
  have e5 : lo + (i : Nat) * (-1) = lo - (i : Int) := by omega
  rw [e5]
  exact res_int
theorem i_rngd {i j : Int} {p : Pos} (hg : Gl X "range") (hm : X.mg "range" = none) (hp : plainE e1 = true) (hp2 : plainE e2 = true) (hp3 : plainE e3 = true) (ha : PE X e1 (tE X.K iov ρ (.t (.fz (.int i))) ρ1 wa)) (hb : PE X e2 (tE X.K iov ρ1 (.t (.fz (.int j))) ρ2 wb)) (hc : PE X e3 (tE X.K iov ρ2 (.t (.fz (.int (-1)))) ρ3 wc)) (hi : okR0 i = true) (hj : okR0 j = true) :
    PI X tg (.Call (.Name "range" p) [e1, e2, e3] [] pos) (tI X.K iov ρ (rangeB i j) ρ3 (wa || wb || wc)) := by
  refine PI.imp' (pi_range3 hg hm (pa_cons ha (pa_cons hb (pa_cons hc pa_nil (star_plain hp3 _)) (star_plain hp2 _)) (star_plain hp _)) (star_plain hp _) (by rw [star_plain hp2, star_plain hp3]; rfl)) ?_
  rintro σ H Q ⟨F, fp, S, k⟩
  refine ⟨F, fp, S, fun vx H1 F1 fp1 fa S1 V1 P1 => ⟨F1, fp1, S1, fun vy H2 F2 fp2 fb S2 V2 P2 => ⟨F2, fp2, S2, fun vz H3 F3 fp3 fc S3 V3 P3 => ?_⟩⟩⟩
  unfold okR0 at hi hj
  simp only [Bool.and_eq_true, decide_eq_true_eq] at hi hj
  refine ⟨i, j, -1, (i - j).toNat, by rw [trep_int V1, trep_int V2, trep_int V3], RgC.neg hi.1 hi.2 hj.1 hj.2, k _ H3 F3 fp3 S3 it_rangeB ?_⟩
  exact (P1.drop0.trans (P2.drop0.trans P3.drop0 (fun _ h => nomatch h)) (fun _ h => nomatch h)).more (by rw [Bool.or_assoc]; exact id)
theorem i_enum {elts : List Expr} {kk : Nat} {tpos p : Pos} (hg : Gl X "enumerate") (hm : X.mg "enumerate" = none) (hp : plainE e = true) (ha : PE X e (tE X.K iov ρ va ρ1 wa)) (h : fzVal ρ1 va = some (t, ρ2)) (ht : t.toD = .list ds) : PI X (.Tuple elts kk tpos) (.Call (.Name "enumerate" p) [e] [] pos) (tI X.K iov ρ (enumD 0 ds) ρ2 wa) := by
  have hz := s_fzv ha h
  rw [ht] at hz
  refine PI.imp' (pi_enum hg hm (pa_cons hz pa_nil (star_plain hp _)) (star_plain hp _)) ?_
  rintro σ H Q ⟨F, fp, S, k⟩
  refine ⟨F, fp, S, fun v H1 F1 fp1 fa S1 V1 P1 => ?_⟩
  have V1 : TRep X.K F1 H1 v (.fz (.list ds)) fa := V1
  simp only [TRep, RepD] at V1
  obtain ⟨_, a, vs, rfl, hl, hr⟩ := V1
  exact ⟨a, vs, rfl, hl.sq, k _ H1 F1 fp1 S1 (it_enum hl hr) P1.drop0⟩
theorem zipD_get {xs ys : List D} {i : Nat} {d : D} (h : (zipD xs ys)[i]? = some d) : ∃ x y, xs[i]? = some x ∧ ys[i]? = some y ∧ d = .ltp [x, y] := by
  unfold zipD at h
  rw [List.getElem?_map] at h
  obtain ⟨⟨x, y⟩, e1, e2⟩ := Option.map_eq_some_iff.mp h
  rw [List.getElem?_zip_eq_some] at e1
  exact ⟨x, y, e1.1, e1.2, e2.symm⟩
theorem zipD_len (xs ys : List D) : (zipD xs ys).length = min xs.length ys.length := by simp [zipD]
theorem it_zipL {a b : Addr} {xs ys : List D} {vs ws : List V} (hl : LstF K F H a vs) (hl2 : LstF K F H b ws) (hr : RepDs K F H vs xs) (hr2 : RepDs K F H ws ys) : ItOk K F H (Itz K a b) (zipD xs ys) := fun F2 H2 hF hk => by
  have go : ∀ {a : Addr} {vs : List V}, LstF K F H a vs → SqL K H2 a vs := fun {a vs} hl => by
    rcases hl with ⟨f, r⟩ | w
    · exact .inl (rdKeep r fun o => hk a o f)
    · exact LstF.sq (F := F) (.inr w)
  have q1 := RepDs.mono hF hk xs vs hr
  have q2 := RepDs.mono hF hk ys ws hr2
  refine ⟨fun i d e => ?_, vs, ws, go hl, go hl2, ?_⟩
  · obtain ⟨x, y, ex, ey, rfl⟩ := zipD_get e
    obtain ⟨v, e1, r1⟩ := q1.get ex
    obtain ⟨w', e2, r2⟩ := q2.get ey
    refine ⟨⟨vs, ws, v, w', go hl, go hl2, e1, e2⟩, fun z H3 ⟨T, x0, y0, e3, e4, e5, e6, e7⟩ => ?_⟩
    subst e3 e5
    have z1 := e6 vs (go hl)
    have z2 := e7 ws (go hl2)
    rw [e1] at z1; cases z1
    rw [e2] at z2; cases z2
    refine res_ltp e4 ?_
    simp only [RepDs, and_true]
    exact ⟨r1, r2⟩
  · rw [zipD_len, hr.len, hr2.len]; omega
theorem it_zipT {a b : Addr} {xs ys : List D} {vs ws : List V} (hl : TupF K F H a vs) (hl2 : TupF K F H b ws) (hr : RepDs K F H vs xs) (hr2 : RepDs K F H ws ys) : ItOk K F H (RZ.ItzT K a b) (zipD xs ys) := fun F2 H2 hF hk => by
  have go : ∀ {a : Addr} {vs : List V}, TupF K F H a vs → SqT K H2 a vs := fun {a vs} hl => by
    rcases hl with ⟨f, o, _, r⟩ | w
    · exact .inl (.inr ⟨o, hk a _ f r⟩)
    · exact TupF.sq (F := F) (.inr w)
  have q1 := RepDs.mono hF hk xs vs hr
  have q2 := RepDs.mono hF hk ys ws hr2
  refine ⟨fun i d e => ?_, vs, ws, go hl, go hl2, ?_⟩
  · obtain ⟨x, y, ex, ey, rfl⟩ := zipD_get e
    obtain ⟨v, e1, r1⟩ := q1.get ex
    obtain ⟨w', e2, r2⟩ := q2.get ey
    refine ⟨⟨vs, ws, v, w', go hl, go hl2, e1, e2⟩, fun z H3 ⟨T, x0, y0, e3, e4, e5, e6, e7⟩ => ?_⟩
    subst e3 e5
    have z1 := e6 vs (go hl)
    have z2 := e7 ws (go hl2)
    rw [e1] at z1; cases z1
    rw [e2] at z2; cases z2
    refine res_ltp e4 ?_
    simp only [RepDs, and_true]
    exact ⟨r1, r2⟩
  · rw [zipD_len, hr.len, hr2.len]; omega
theorem i_zip {xs ys : List D} {elts : List Expr} {kk : Nat} {tpos p : Pos} (hg : Gl X "zip") (hm : X.mg "zip" = none) (hp : plainE e1 = true) (hp2 : plainE e2 = true)
    (hxy : (x = .fz (.list xs) ∧ y = .fz (.list ys)) ∨ (x = .fz (.tup xs) ∧ y = .fz (.tup ys))) (ha : PE X e1 (tE X.K iov ρ (.t x) ρ1 wa)) (hb : PE X e2 (tE X.K iov ρ1 (.t y) ρ2 wb)) :
    PI X (.Tuple elts kk tpos) (.Call (.Name "zip" p) [e1, e2] [] pos) (tI X.K iov ρ (zipD xs ys) ρ2 (wa || wb)) := by
  refine PI.imp' (RZ.pi_zipA hg hm (pa_cons ha (pa_cons hb pa_nil (star_plain hp2 _)) (star_plain hp _)) (by rw [star_plain hp]) (by rw [star_plain hp2]; rfl)) ?_
  rintro σ H Q ⟨F, fp, S, k⟩
  refine two (R := fun vx vy H2 => ∃ a b xs ys, [vx, vy] = [V.ref a, V.ref b] ∧ ((SqL X.K H2 a xs ∧ SqL X.K H2 b ys ∧ Q (Itz X.K a b) H2) ∨ (SqT X.K H2 a xs ∧ SqT X.K H2 b ys ∧ Q (RZ.ItzT X.K a b) H2))) rfl rfl rfl S fun vx vy H2 F2 fp2 fa fb S2 V1 V2 P => ?_
  have V1 : TRep X.K F2 H2 vx x fa := V1
  have V2 : TRep X.K F2 H2 vy y fb := V2
  rcases hxy with ⟨rfl, rfl⟩ | ⟨rfl, rfl⟩
  · simp only [TRep, RepD] at V1 V2
    obtain ⟨_, a, vs, rfl, hl, hr⟩ := V1
    obtain ⟨_, b, ws, rfl, hl2, hr2⟩ := V2
    exact ⟨a, b, vs, ws, rfl, .inl ⟨hl.sq, hl2.sq, k _ H2 F2 fp2 S2 (it_zipL hl hl2 hr hr2) P.drop0⟩⟩
  · simp only [TRep, RepD] at V1 V2
    obtain ⟨_, a, vs, rfl, hl, hr⟩ := V1
    obtain ⟨_, b, ws, rfl, hl2, hr2⟩ := V2
    exact ⟨a, b, vs, ws, rfl, .inr ⟨hl.sq, hl2.sq, k _ H2 F2 fp2 S2 (it_zipT hl hl2 hr hr2) P.drop0⟩⟩
def ItzM (K : PySem.W.Frag) (a b : Addr) : It where
  go := fun i H => ∃ (xs ys : List V) (x y : V), SqT K H a xs ∧ SqL K H b ys ∧ xs[i]? = some x ∧ ys[i]? = some y
  yld := fun i H v H' => ∃ c x y, v = .ref c ∧ H c = none ∧ H' = upd H c (.tup [x, y]) ∧ (∀ xs, SqT K H a xs → xs[i]? = some x) ∧ ∀ ys, SqL K H b ys → ys[i]? = some y
  stop := fun i H => ∃ xs ys : List V, SqT K H a xs ∧ SqL K H b ys ∧ i = min xs.length ys.length
theorem turn_zipM {P : Program} {w : World} {K : PySem.W.Frag} {es : List Expr} {k : Nat} {tp : Pos} {a b z c1 c2 j1 j2 : Addr} (S : ZipSep2 z c1 c2 j1 j2 [j1, a] [j2, b]) (na : a ≠ j1) (nb : b ≠ j2) :
    Turn P w K (.Tuple es k tp) (ItzM K a b) [z, c1, c2, j1, j2] z fun i h => IsZip h z c1 c2 .none ∧ IsTupOf2 h c1 (.ref j1) (.ref j2) ∧ (∃ x y, IsTupOf2 h c2 x y) ∧ h.IsTupleIter j1 a i ∧ h.IsListIter j2 b i := by
  have nz1 : j1 ≠ z := fun e => S.zi1 e.symm
  have nz2 : j2 ≠ z := fun e => S.zi2 e.symm
  have five : ∀ {c : Addr}, c ∈ [z, c1, c2, j1, j2] → c = z ∨ c = c1 ∨ c = c2 ∨ c = j1 ∨ c = j2 := fun h => by simpa using h
  have live : ∀ {h : Heap} {i : Nat}, IsZip h z c1 c2 .none → IsTupOf2 h c1 (.ref j1) (.ref j2) → (∃ x y, IsTupOf2 h c2 x y) → h.IsTupleIter j1 a i → h.IsListIter j2 b i → ∀ c ∈ [z, c1, c2, j1, j2], c < h.objs.size := fun {h i} g1 g2 g3 g4 g5 c hc => by
    obtain ⟨_, _, g3⟩ := g3
    obtain ⟨_, g4, _⟩ := g4
    obtain ⟨_, g5, _⟩ := g5
    rcases five hc with e | e | e | e | e <;> rw [e]
    · exact Heap.lt_size g1
    · exact Heap.lt_size g2
    · exact Heap.lt_size g3
    · exact Heap.lt_size g4
    · exact Heap.lt_size g5
  refine { mem := by simp, obj := ?_, keep := ?_, item := ?_, done := ?_, self := fun A i s Q E st h => wpAny_pyIter_zip st.1 h }
  · rintro i h ⟨g1, g2, ⟨x, y, g3⟩, ⟨o1, e1, _, d1⟩, ⟨o2, e2, _, d2⟩⟩ c hc
    rcases five hc with e | e | e | e | e <;> rw [e]
    · exact ⟨_, g1, fun v q => nomatch q⟩
    · exact ⟨_, g2, fun v q => nomatch q⟩
    · exact ⟨_, g3, fun v q => nomatch q⟩
    · exact ⟨o1, e1, fun v q => by rw [d1] at q; cases q⟩
    · exact ⟨o2, e2, fun v q => by rw [d2] at q; cases q⟩
  · rintro i h h' ⟨g1, g2, ⟨x, y, g3⟩, g4, g5⟩ st
    have up : ∀ c ∈ [z, c1, c2, j1, j2], ∀ o, h.get? c = some o → h'.get? c = some o := st
    exact ⟨up z (by simp) _ g1, up c1 (by simp) _ g2, ⟨x, y, up c2 (by simp) _ g3⟩, g4.at (up j1 (by simp)), g5.at (up j2 (by simp))⟩
  · rintro X rfl rfl rfl hc i pins s σ H E I hf ⟨g1, g2, ⟨x0, y0, g3⟩, g4, g5⟩ ⟨xs, ys, x, y, qa, qb, hx, hy⟩
    obtain ⟨us, ra, pa, _⟩ := I.tuple qa
    obtain ⟨ws, rb, pb, _⟩ := I.list qb
    obtain ⟨u, hu, ru⟩ := ra.get hx
    obtain ⟨u', hu', ru'⟩ := rb.get hy
    have hh : X.A.in1.handled = none := I.ok.hd hc
    have lt := live g1 g2 ⟨x0, y0, g3⟩ g4 g5
    refine wpAny_pyNext_zipD2_item S (Draws.tuple hh j1 a na us.toArray) (Draws.list hh j2 b nb ws.toArray) g1 g2 g3 ⟨g4, pa⟩ ⟨g5, pb.isList⟩ (by simpa using (List.getElem?_eq_some_iff.mp hu).1) (by simpa using (List.getElem?_eq_some_iff.mp hu').1)
      fun v v' h' tk q q' z' _ s1 s2 new _ old => ⟨_, rfl, wpAny_letOwnedTupleGo_zip (s := { s with heap := h', toks := tk }) z' fun h2 z2 sb => ?_⟩
    have e : v = u := by simpa [hu] using q.symm
    have e' : v' = u' := by simpa [hu'] using q'.symm
    subst e e'
    have new2 : h2.get? s.heap.objs.size = some { cls := .type "tuple", data := .seq #[v, v'] } := (sb.2 _ fun e => Nat.lt_irrefl _ (e ▸ lt z (by simp))).trans new
    have old2 : ∀ c o, c ∉ [z, c1, c2, j1, j2] → s.heap.get? c = some o → h2.get? c = some o := fun c o m g => by
      simp only [List.mem_cons, List.not_mem_nil, or_false, not_or] at m
      exact (sb.2 c m.1).trans (old c o m.1 m.2.2.1 m.2.2.2.1 m.2.2.2.2 g)
    have okN : ObjOk X.prog X.w (upd H s.heap.objs.size (.tup [x, y])) h2 s.heap.objs.size (.tup [x, y]) := ⟨by show 2 ≤ sizeLine; decide, [v, v'], .cons ru (.cons ru' .nil), ⟨_, new2, rfl, _, rfl⟩⟩
    have I2 := I.turnedNew (t' := tk) (ch := [z, c1, c2, j1, j2]) (h' := h2) (fun c o m g => old2 c o m g) hf (Nat.le_refl _) okN
    refine ⟨.ref s.heap.objs.size, _, I2, rfl, ⟨_, x, y, rfl, I.hok.fresh (Nat.le_refl _), rfl, fun l hl => by rw [I.tuple_inj hl qa]; exact hx, fun l hl => by rw [I.list_inj hl qb]; exact hy⟩, ⟨z2, ?_, ⟨v, v', ?_⟩, ?_, ?_⟩, fun c m => ?_⟩
    · exact (sb.2 _ S.TIz).trans (old _ _ S.TIz S.TITO S.TIi1 S.TIi2 g2)
    · exact (sb.2 _ S.TOz).trans ‹_›
    · exact s1.1.at fun o g => (sb.2 _ nz1).trans g
    · exact s2.1.at fun o g => (sb.2 _ nz2).trans g
    · rw [upd_ne (Nat.ne_of_lt (lt c m))]
      exact (hf c m).1
  · rintro X rfl rfl rfl hc i pins s σ H E I hf ⟨g1, g2, ⟨x0, y0, g3⟩, g4, g5⟩ ⟨xs, ys, qa, qb, en⟩
    obtain ⟨us, ra, pa, _⟩ := I.tuple qa
    obtain ⟨ws, rb, pb, _⟩ := I.list qb
    have l1 := ra.length
    have l2 := rb.length
    have hh : X.A.in1.handled = none := I.ok.hd hc
    refine wpAny_pyNext_zipD2_end S (Draws.tuple hh j1 a na us.toArray) (Draws.list hh j2 b nb ws.toArray) g1 g2 g3 ⟨g4, pa⟩ ⟨g5, pb.isList⟩ (by simp; omega) (by simp; omega) (by simp; omega) fun h' tk old => ⟨rfl, ?_⟩
    refine I.turnedL (t' := tk) (ch := [z, c1, c2, j1, j2]) (fun c o m g => ?_) hf
    simp only [List.mem_cons, List.not_mem_nil, or_false, not_or] at m
    exact old c o m.1 m.2.2.1 m.2.2.2.1 m.2.2.2.2 g
def iZipM (K : PySem.W.Frag) (ta : TA) : TI := fun σ H R => ta σ H fun vs H1 => ∃ a b xs ys, vs = [.ref a, .ref b] ∧ SqT K H1 a xs ∧ SqL K H1 b ys ∧ R (ItzM K a b) H1
theorem pi_zipM {e e2 : Expr} {ta : TA} {p pos tp : Pos} {es : List Expr} {k : Nat} (hg : Gl X "zip") (hm : X.mg "zip" = none) (ha : PA X [e, e2] ta)
    (h1 : starEach [e, e2] X.env = (false, eval e X.env) :: starEach [e2] X.env) (h2 : (backTo pos (starEach [e2] X.env)).any (·.1) = false) : PI X (.Tuple es k tp) (.Call (.Name "zip" p) [e, e2] [] pos) (iZipM X.K ta) := by
  refine ⟨fun pins s σ H R I h => Call_ (ld_blt I hg hm PyProof.Rows.boot_zip (PyProof.Rows.callWith_type1 (thn (ha.run pos pins s σ H _ I h) fun us s1 ⟨vs, H1, I1, r1, a, b, xs, ys, ex, qa, qb, q⟩ => ?_) h1 h2))⟩
  subst ex
  cases r1 with
  | cons r rr => cases rr with
    | cons r' rr =>
      cases rr; cases r; cases r'
      obtain ⟨us, ra, pa, _⟩ := I1.tuple qa
      obtain ⟨ws, rb, pb, _⟩ := I1.list qb
      have la : a < s1.heap.objs.size := by obtain ⟨_, g, _⟩ := id pa; exact Heap.lt_size g
      have lb : b < s1.heap.objs.size := pb.lt
      refine zip_begins2 (begins_tuple a us.toArray) (begins_list b ws.toArray) pa pb.isList fun h' gz g2 g3 o1 o2 _ old => wpAny_pyIter_zip gz ?_
      have no : ∀ {c : Addr}, c < s1.heap.objs.size → ∀ k : Nat, ¬ s1.heap.objs.size + k = c := fun lt k e => absurd (e ▸ lt) (Nat.not_lt.mpr (Nat.le_add_right _ _))
      have no0 : ∀ {c : Addr}, c < s1.heap.objs.size → ¬ s1.heap.objs.size = c := fun lt e => no lt 0 e
      have sep : ZipSep2 (s1.heap.objs.size + 4) (s1.heap.objs.size + 2) (s1.heap.objs.size + 3) s1.heap.objs.size (s1.heap.objs.size + 1) [s1.heap.objs.size, a] [s1.heap.objs.size + 1, b] := by
        constructor <;> simp [no la, no lb, no0 la, no0 lb]
      refine ⟨_, _, _, _, H1, rfl, I1.kept (t' := s1.toks) old, turn_zipM sep (Nat.ne_of_lt la) (fun e => no lb 1 e.symm), ⟨gz, g2, ⟨_, _, g3⟩, ⟨_, o1, rfl, rfl⟩, ⟨_, o2, rfl, rfl⟩⟩, fun c m => ?_, q⟩
      have le : s1.heap.objs.size ≤ c := by
        simp only [List.mem_cons, List.not_mem_nil, or_false] at m
        rcases m with e | e | e | e | e <;> rw [e]
        · exact Nat.le_add_right _ _
        · exact Nat.le_add_right _ _
        · exact Nat.le_add_right _ _
        · exact Nat.le_refl _
        · exact Nat.le_add_right _ _
      exact I1.fpOk le (I1.hok.fresh le)
theorem it_zipM {a b : Addr} {xs ys : List D} {vs ws : List V} (hl : TupF K F H a vs) (hl2 : LstF K F H b ws) (hr : RepDs K F H vs xs) (hr2 : RepDs K F H ws ys) : ItOk K F H (ItzM K a b) (zipD xs ys) := fun F2 H2 hF hk => by
  have go1 : SqT K H2 a vs := by
    rcases hl with ⟨f, o, _, r⟩ | w
    · exact .inl (.inr ⟨o, hk a _ f r⟩)
    · exact TupF.sq (F := F) (.inr w)
  have go2 : SqL K H2 b ws := by
    rcases hl2 with ⟨f, r⟩ | w
    · exact .inl (rdKeep r fun o => hk b o f)
    · exact LstF.sq (F := F) (.inr w)
  have q1 := RepDs.mono hF hk xs vs hr
  have q2 := RepDs.mono hF hk ys ws hr2
  refine ⟨fun i d e => ?_, vs, ws, go1, go2, by rw [zipD_len, hr.len, hr2.len]⟩
  obtain ⟨x, y, ex, ey, rfl⟩ := zipD_get e
  obtain ⟨v, e1, r1⟩ := q1.get ex
  obtain ⟨w', e2, r2⟩ := q2.get ey
  refine ⟨⟨vs, ws, v, w', go1, go2, e1, e2⟩, fun z H3 ⟨c, x0, y0, e3, e4, e5, e6, e7⟩ => ?_⟩
  subst e3 e5
  have z1 := e6 vs go1
  have z2 := e7 ws go2
  rw [e1] at z1; cases z1
  rw [e2] at z2; cases z2
  refine res_ltp e4 ?_
  simp only [RepDs, and_true]
  exact ⟨r1, r2⟩
theorem i_zipM {xs ys : List D} {es : List Expr} {k : Nat} {tp p : Pos} (hg : Gl X "zip") (hm : X.mg "zip" = none) (hp : plainE e1 = true) (hp2 : plainE e2 = true) (ha : PE X e1 (tE X.K iov ρ (.t (.fz (.tup xs))) ρ1 wa)) (hb : PE X e2 (tE X.K iov ρ1 (.t (.fz (.list ys))) ρ2 wb)) :
    PI X (.Tuple es k tp) (.Call (.Name "zip" p) [e1, e2] [] pos) (tI X.K iov ρ (zipD xs ys) ρ2 (wa || wb)) := by
  refine PI.imp' (pi_zipM hg hm (pa_cons ha (pa_cons hb pa_nil (star_plain hp2 _)) (star_plain hp _)) (by rw [star_plain hp]) (by rw [star_plain hp2]; rfl)) ?_
  rintro σ H Q ⟨F, fp, S, kk⟩
  refine two (R := fun vx vy H2 => ∃ a b xs ys, [vx, vy] = [V.ref a, V.ref b] ∧ SqT X.K H2 a xs ∧ SqL X.K H2 b ys ∧ Q (ItzM X.K a b) H2) rfl rfl rfl S fun vx vy H2 F2 fp2 fa fb S2 V1 V2 P => ?_
  have V1 : TRep X.K F2 H2 vx (.fz (.tup xs)) fa := V1
  have V2 : TRep X.K F2 H2 vy (.fz (.list ys)) fb := V2
  simp only [TRep, RepD] at V1 V2
  obtain ⟨_, a, vs, rfl, hl, hr⟩ := V1
  obtain ⟨_, b, ws, rfl, hl2, hr2⟩ := V2
  exact ⟨a, b, vs, ws, rfl, hl.sq, hl2.sq, kk _ H2 F2 fp2 S2 (it_zipM hl hl2 hr hr2) P.drop0⟩
theorem tIW.of {wb : Bool} (h : PI X tg e (tI X.K iov ρ ds ρ1 wa)) : PI X tg e (tIW wb X.K iov ρ ds ρ1 wa) := PI.imp' h fun σ H R ⟨F, fp, S, k⟩ => ⟨F, fp, S, fun J H' F' fp' S' it P => k J H' F' fp' S' (.of it) P⟩
theorem tIW.toI (h : PI X tg e (tIW true X.K iov ρ ds ρ1 wa)) : PI X tg e (tI X.K iov ρ ds ρ1 wa) := PI.imp' h fun σ H R ⟨F, fp, S, k⟩ => ⟨F, fp, S, fun J H' F' fp' S' it P => k J H' F' fp' S' it.toI P⟩
theorem flat_rep2 {fa : List Addr} (e : t.flat = some ds) (h : TRep K F H v t fa) : ∃ a vs, v = .ref a ∧ ((LstF K F H a vs) ∨ H a = some (.lst vs)) ∧ RepDs K F H vs ds := by
  unfold T.flat at e
  split at e
  · cases e
    simp only [TRep, RepD] at h
    obtain ⟨_, a, vs, rfl, hl, hr⟩ := h
    exact ⟨a, vs, rfl, .inl hl, hr⟩
  · rename_i ts
    rw [unfzs_eq e] at h
    simp only [TRep] at h
    obtain ⟨a, vs, fq, rfl, rfl, nf, ha, hr⟩ := h
    refine ⟨a, vs, rfl, .inr ha, ?_⟩
    clear e ha
    induction ds generalizing vs fq with
    | nil =>
      cases vs with
      | nil => simp only [RepDs]
      | cons v vs => simp only [fzs, List.map_nil, TReps] at hr
    | cons d ds ih =>
      cases vs with
      | nil => simp only [fzs, List.map_cons, TReps] at hr
      | cons v vs =>
        have hr2 : TReps K F H (v :: vs) (.fz d :: fzs ds) fq := hr
        clear hr
        simp only [TReps, TRep] at hr2
        obtain ⟨f1, f2, _, ⟨_, r⟩, hr3⟩ := hr2
        simp only [RepDs]
        exact ⟨r, ih vs f2 hr3⟩
  · cases e
theorem i_brw (ha : PE X e (tE X.K iov ρ va ρ1 wa)) (h : resolve ρ1 va = some t) (hf : t.flat = some ds) : PI X tg e (tIW false X.K iov ρ ds ρ1 wa) := by
  refine PI.imp' (pi_list ha) ?_
  rintro σ H Q ⟨F, fp, S, k⟩
  refine ⟨F, fp, S, fun v H1 F1 fp1 fa S1 V1 P1 => ?_⟩
  obtain ⟨fq, tr⟩ := S1.rslv h V1
  obtain ⟨a, vs, rfl, hl, hr⟩ := flat_rep2 hf tr
  have sq : SqL X.K H1 a vs := hl.elim LstF.sq fun z => .inl (.inl z)
  refine ⟨a, rfl, ⟨vs, sq⟩, k _ H1 F1 fp1 S1 (fun F2 H2 hF hk => ?_) P1.drop0⟩
  have hk2 : ∀ b o, H1 b = some o → H2 b = some o := fun b o => hk b o (.inl rfl)
  have r2 : SqL X.K H2 a vs := by
    rcases hl with (⟨f, r⟩ | w) | z
    · exact .inl (rdKeep r fun o => hk2 a o)
    · exact LstF.sq (F := F1) (.inr w)
    · exact .inl (.inl (hk2 a _ z))
  have q2 := RepDs.mono hF (fun b o _ => hk2 b o) ds vs hr
  refine ⟨fun i d e => ?_, vs, r2, by rw [hr.len]; exact Nat.le_refl _⟩
  obtain ⟨v, e1, e2⟩ := q2.get e
  refine ⟨⟨vs, v, r2, e1⟩, fun x H3 ⟨e3, e4⟩ => ?_⟩
  subst e3
  have := e4 vs (r2)
  rw [e1] at this; cases this
  exact .same e2
def tgSlots : Tgt → List Nat
  | .nm i => [i]
  | .tp is => is
def tG (K : PySem.W.Frag) (iov : Nat → Option V) (ρ : Env) (ch : List Nat) (d : D) (ρ' : Env) : TG := fun v σ H Q => ∃ F fp, SR K iov [] F H σ ρ fp ∧ RepD K F H v d ∧
  ∀ σ' fp', SR K iov [] F H σ' ρ' fp' → (∀ i b, b ∈ fp' i → b ∈ fp i) → σ'.length = σ.length → (∀ i, i ∉ ch → σ'[i]? = σ[i]?) → Q σ' H
def tGs (K : PySem.W.Frag) (iov : Nat → Option V) (ρ : Env) (ch : List Nat) (ds : List D) (ρ' : Env) : TGs := fun vs σ H Q => ∃ F fp, SR K iov [] F H σ ρ fp ∧ RepDs K F H vs ds ∧
  ∀ σ' fp', SR K iov [] F H σ' ρ' fp' → (∀ i b, b ∈ fp' i → b ∈ fp i) → σ'.length = σ.length → (∀ i, i ∉ ch → σ'[i]? = σ[i]?) → Q σ' H
theorem g_name {i : Nat} {nm : Str} {d : D} (hN : X.N.Nodup) (hi : X.N[i]? = some nm) (hx : Loc X.env.scope nm) (hf : X.fn nm = true ∨ X.env.scope.names.lookup nm = some .local) (h : bindS ρ i (.t (.fz d)) = some ρ') : PG X (.Name nm pos) (tG X.K iov ρ [i] d ρ') := by
  refine PG.imp' (pg_name hN hi hx hf) ?_
  rintro v σ H Q ⟨F, fp, S, r, k⟩
  have S' := S.bind (v := v) (fpv := []) h (by show TRep _ _ _ _ _ _; simp only [TRep, true_and]; exact r) List.nodup_nil fun _ _ _ z => (nomatch z)
  exact k _ _ S' (updF_le fun _ h => by cases h) (by simp) fun j hj => by rw [List.getElem?_set_ne (fun z => hj (by simp [z]))]
theorem gs_go : ∀ {is : List Nat} {es : List Expr} {ds : List D} {ρ ρ' : Env}, is.length = ds.length → is.length = es.length → bindD.go ρ is ds = some ρ' → X.N.Nodup →
    (∀ (n i : Nat) (e : Expr), is[n]? = some i → es[n]? = some e → ∃ nm p, e = .Name nm p ∧ X.N[i]? = some nm ∧ Loc X.env.scope nm ∧ (X.fn nm = true ∨ X.env.scope.names.lookup nm = some .local)) → PGs X es (tGs X.K iov ρ is ds ρ')
  | [], [], [], ρ, ρ', _, _, h, _, _ => by
    simp only [bindD.go, Option.some.injEq] at h
    subst h
    refine PGs.imp' pgs_nil ?_
    rintro vs σ H Q ⟨F, fp, S, r, k⟩
    cases vs with
    | nil => exact ⟨rfl, k σ fp S (fun _ _ h => h) rfl fun _ _ => rfl⟩
    | cons v vs => simp only [RepDs] at r
  | [], _, _ :: _, _, _, h, _, _, _, _ => by simp at h
  | [], _ :: _, _, _, _, _, h, _, _, _ => by simp at h
  | _ :: _, _, [], _, _, h, _, _, _, _ => by simp at h
  | _ :: _, [], _, _, _, _, h, _, _, _ => by simp at h
  | i :: is, e :: es, d :: ds, ρ, ρ', hl, hl2, h, hN, hx => by
    obtain ⟨ρ1, e1, e2⟩ := Option.bind_eq_some_iff.mp h
    obtain ⟨nm, p, rfl, h1, h2, h3⟩ := hx 0 i e rfl rfl
    have g1 := g_name (X := X) (iov := iov) (pos := p) hN h1 h2 h3 e1
    have g2 := gs_go (by simpa using hl) (by simpa using hl2) e2 hN fun n j e q1 q2 => hx (n + 1) j e (by simpa using q1) (by simpa using q2)
    refine PGs.imp' (pgs_cons g1 g2 rfl) ?_
    rintro vs σ H Q ⟨F, fp, S, r, k⟩
    cases vs with
    | nil => simp only [RepDs] at r
    | cons v vs =>
      simp only [RepDs] at r
      refine ⟨v, vs, rfl, F, fp, S, r.1, fun σ1 fp1 S1 le1 l1 n1 => ⟨F, fp1, S1, r.2, fun σ2 fp2 S2 le2 l2 n2 => ?_⟩⟩
      exact k σ2 fp2 S2 (fun j b hb => le1 j b (le2 j b hb)) (l2.trans l1) fun j hj => by
        rw [n2 j fun z => hj (.tail _ z), n1 j fun z => hj (by simp at z; simp [z])]
theorem g_tup {is : List Nat} {es : List Expr} {kk : Nat} {d : D} (hc : X.calm = true) (hl2 : is.length = es.length) (h : bindD ρ (.tp is) d = some ρ') (hN : X.N.Nodup) (hlen : (assignEach es X.env).length = es.length) (hst : (assignEach es X.env).findIdx? (·.1) = none)
    (hx : ∀ (n i : Nat) (e : Expr), is[n]? = some i → es[n]? = some e → ∃ nm p, e = .Name nm p ∧ X.N[i]? = some nm ∧ Loc X.env.scope nm ∧ (X.fn nm = true ∨ X.env.scope.names.lookup nm = some .local)) : PG X (.Tuple es kk pos) (tG X.K iov ρ is d ρ') := by
  unfold bindD at h
  cases d with
  | tup ds =>
    simp only at h
    split at h
    · rename_i hl
      refine PG.imp' (pg_tup hc (gs_go (iov := iov) hl hl2 h hN hx) hlen hst) ?_
      rintro v σ H Q ⟨F, fp, S, r, k⟩
      simp only [RepD] at r
      obtain ⟨a, vs, rfl, hq, hr⟩ := r
      exact ⟨a, vs, rfl, hq.sq, by rw [hr.len, ← hl2, hl], F, fp, S, hr, k⟩
    · cases h
  | ltp ds =>
    simp only at h
    split at h
    · rename_i hl
      refine PG.imp' (pg_tup hc (gs_go (iov := iov) hl hl2 h hN hx) hlen hst) ?_
      rintro v σ H Q ⟨F, fp, S, r, k⟩
      simp only [RepD] at r
      obtain ⟨a, vs, rfl, _, hq, hr⟩ := r
      exact ⟨a, vs, rfl, .inl hq, by rw [hr.len, ← hl2, hl], F, fp, S, hr, k⟩
    · cases h
  | _ => simp at h
end
end Mv

end
section
namespace Mv
open PySem PySem.Spec PyProof.Rows L2
theorem PE.all {X : Cx} {e : Expr} {α : Type} {t : α → TE} (h : ∀ a, PE X e (t a)) : PE X e (fun σ H Q => ∃ a, t a σ H Q) := ⟨fun pins s σ H Q I ⟨a, q⟩ => (h a).run pins s σ H Q I q⟩
theorem PTs.all {X : Cx} {e : List Expr} {α : Type} {t : α → TT} (h : ∀ a, PTs X e (t a)) : PTs X e (fun σ H Q => ∃ a, t a σ H Q) := ⟨fun pins s σ H Q I ⟨a, q⟩ => (h a).run pins s σ H Q I q⟩
theorem PG.all {X : Cx} {e : Expr} {α : Type} {t : α → TG} (h : ∀ a, PG X e (t a)) : PG X e (fun v σ H Q => ∃ a, t a v σ H Q) := ⟨fun pins s σ H v u Q I r ⟨a, q⟩ => (h a).run pins s σ H v u Q I r q⟩
section
variable {K : PySem.W.Frag} {iov : Nat → Option V} {F F1 F2 F' : Addr → Prop} {H H1 H2 H' : Hp} {σ : L2.St} {ρ ρ1 ρ5 ρ' : Env} {fp fp1 fp2 fp5 fp' : Fp} {fpv fpa fpb : List Addr} {wr wr1 wr2 : Bool}
theorem TReps.snoc : ∀ {ts : List T} {vs : List V} {fq f : List Addr} {t : T} {v : V}, TReps K F H vs ts fq → TRep K F H v t f → TReps K F H (vs ++ [v]) (ts ++ [t]) (fq ++ f)
  | [], [], fq, f, t, v, h, r => by
    simp only [TReps] at h; subst h
    show TReps K F H [v] [t] f
    simp only [TReps]
    exact ⟨f, [], by simp, r, rfl⟩
  | [], _ :: _, _, _, _, _, h, _ => by simp only [TReps] at h
  | _ :: _, [], _, _, _, _, h, _ => by simp only [TReps] at h
  | t0 :: ts, v0 :: vs, fq, f, t, v, h, r => by
    simp only [TReps] at h
    obtain ⟨f1, f2, rfl, h1, h2⟩ := h
    show TReps K F H (v0 :: (vs ++ [v])) (t0 :: (ts ++ [t])) _
    simp only [TReps]
    exact ⟨f1, f2 ++ f, by simp, h1, TReps.snoc h2 r⟩
theorem Post.shrink (P : Post F H fp F' H' fp' fpv wr) (h : ∀ i b, b ∈ fp2 i → b ∈ fp' i) : Post F H fp F' H' fp2 fpv wr :=
  ⟨P.sub, P.new, P.keep, P.there, fun i b hb => P.fresh i b (h i b hb), P.freshv, fun i b hb => P.disv i b (h i b hb), P.nodv⟩
theorem SR.wipe1 (S : SR K iov [] F H σ ρ fp) (o : Nat) : SR K iov [] F H (σ.set o none) ((Mv.kills o none ρ).set o .no) (updF fp o []) := by
  cases e : ρ[o]? with
  | some s => exact S.rebind ⟨s, e⟩ (by simp) (fun j hj => by rw [List.getElem?_set_ne (Ne.symm hj)]) List.nodup_nil (fun j b _ _ z => (nomatch z)) (show SlotR K iov F H _ [] (updF fp o []) o .no from updF_same)
  | none =>
    have l : ρ.length ≤ o := List.getElem?_eq_none_iff.mp e
    have e1 : σ.set o none = σ := List.set_eq_of_length_le (by rw [← S.len]; exact l)
    have e2 : (Mv.kills o none ρ).set o .no = Mv.kills o none ρ := List.set_eq_of_length_le (by unfold Mv.kills; rw [List.length_map]; exact l)
    have e3 : updF fp o [] = fp := by
      funext j
      by_cases hj : j = o
      · subst hj; rw [updF_same, S.out j e]
      · rw [updF_ne hj]
    rw [e1, e2, e3]
    exact S.kls o none
theorem SR.wipes (S : SR K iov [] F H σ ρ fp) : ∀ os : List Nat, ∃ fp', SR K iov [] F H (wipe σ os) (wipeE ρ os) fp' ∧ ∀ i b, b ∈ fp' i → b ∈ fp i
  | [] => ⟨fp, S, fun _ _ h => h⟩
  | o :: os => by
    obtain ⟨fp1, S1, h1⟩ := S.wipes os
    exact ⟨_, S1.wipe1 o, fun i b hb => h1 i b (updF_le (fun _ z => absurd z (by simp)) i b hb)⟩
def Wiped (ρ : Env) (os : List Nat) : Prop := ∀ o ∈ os, (∀ s, ρ[o]? = some s → s = .no) ∧ ∀ (i k : Nat), ρ[i]? ≠ some (.al o k)
theorem Wiped.wipeE (ρ : Env) : ∀ os : List Nat, Wiped (wipeE ρ os) os
  | [] => fun _ h => absurd h (by simp)
  | o :: os => by
    have ih := Wiped.wipeE ρ os
    intro p hp
    unfold Mv.wipeE
    have al : ∀ (q : Nat), (q = o ∨ ∀ (i k : Nat), (Mv.wipeE ρ os)[i]? ≠ some (.al q k)) → ∀ (i k : Nat), ((Mv.kills o none (Mv.wipeE ρ os)).set o .no)[i]? ≠ some (.al q k) := fun q hq i k e => by
      rw [List.getElem?_set] at e
      split at e
      · split at e <;> cases e
      · rw [kills_get] at e
        obtain ⟨s, e1, e2⟩ := Option.map_eq_some_iff.mp e
        obtain ⟨e3, e4⟩ := kill_al e2
        subst e3
        rcases hq with rfl | hq
        · exact e4 ⟨rfl, .inl rfl⟩
        · exact hq i k e1
    have no : ∀ s, ((Mv.kills o none (Mv.wipeE ρ os)).set o .no)[p]? = some s → (p = o ∨ ∀ s, (Mv.wipeE ρ os)[p]? = some s → s = .no) → s = .no := fun s e hq => by
      rw [List.getElem?_set] at e
      split at e
      · split at e <;> cases e; rfl
      · rename_i hne
        rw [kills_get] at e
        obtain ⟨s1, e1, e2⟩ := Option.map_eq_some_iff.mp e
        rcases hq with rfl | hq
        · exact absurd rfl hne
        · have := hq s1 e1
          subst this
          exact e2.symm
    rcases List.mem_cons.mp hp with rfl | hp
    · exact ⟨fun s e => no s e (.inl rfl), al p (.inl rfl)⟩
    · exact ⟨fun s e => no s e (.inr (ih p hp).1), al p (.inr (ih p hp).2)⟩
theorem restore_get (ρ1 ρ5 : Env) (i : Nat) : ∀ os : List Nat, (restore ρ1 os ρ5)[i]? = if i ∈ os then (ρ5[i]?).map fun _ => keepS ρ1[i]? else ρ5[i]?
  | [] => by simp [restore]
  | o :: os => by
    unfold restore
    rw [List.getElem?_set, restore_get ρ1 ρ5 i os]
    have len : (restore ρ1 os ρ5).length = ρ5.length := by
      clear i
      induction os with
      | nil => rfl
      | cons o os ih => unfold restore; rw [List.length_set, ih]
    by_cases h : o = i
    · subst h
      simp only [if_true, List.mem_cons, true_or, len]
      split
      · rename_i hl
        have : ρ5[o]? = some ρ5[o] := List.getElem?_eq_getElem hl
        rw [this]; rfl
      · rename_i hl
        have : ρ5[o]? = none := List.getElem?_eq_none (by omega)
        rw [this]; rfl
    · have : (i ∈ o :: os) ↔ i ∈ os := by simp [Ne.symm h]
      simp only [h, if_false, this]
theorem restore_len (ρ1 ρ5 : Env) : ∀ os : List Nat, (restore ρ1 os ρ5).length = ρ5.length
  | [] => rfl
  | o :: os => by unfold restore; rw [List.length_set, restore_len ρ1 ρ5 os]
theorem SR.restore {os : List Nat} (S5 : SR K iov [] F' H' (wipe σ os) ρ5 fp5) (wp : Wiped ρ5 os) (S1 : SR K iov [] F1 H1 σ ρ1 fp1) (ho : ownOk ρ1 os = true) (hF : ∀ b, F1 b → F' b) (hk : ∀ b o, F1 b → H1 b = some o → H' b = some o) :
    SR K iov [] F' H' σ (Mv.restore ρ1 os ρ5) fp5 where
  len := by rw [restore_len, S5.len, wipe_length]
  slot := fun i s e _ => by
    rw [restore_get] at e
    split at e
    · rename_i hi
      obtain ⟨s5, e5, e⟩ := Option.map_eq_some_iff.mp e
      have := (wp i hi).1 s5 e5
      subst this
      have f5 : fp5 i = [] := S5.slot i _ e5 (by simp)
      unfold keepS at e
      split at e
      · rename_i d e1
        cases e
        obtain ⟨v, h1, h2⟩ := S1.slot i _ e1 (by simp)
        simp only [TRep] at h2
        refine ⟨v, h1, ?_⟩
        simp only [TRep]
        exact ⟨f5, RepD.mono hF hk d v h2.2⟩
      · cases e; exact f5
    · rename_i hi
      have r := S5.slot i s e (by simp)
      cases s with
      | no => exact r
      | lk => obtain ⟨z, v, a, c⟩ := r; exact ⟨z, v, by rw [wipe_out hi] at a; exact a, c⟩
      | ow t => obtain ⟨v, a, r⟩ := r; exact ⟨v, by rw [wipe_out hi] at a; exact a, r⟩
      | io t => obtain ⟨v, a, c, r⟩ := r; exact ⟨v, by rw [wipe_out hi] at a; exact a, c, r⟩
      | al j k =>
        obtain ⟨z, r⟩ := r
        have hj : j ∉ os := fun hj => (wp j hj).2 i k e
        exact ⟨z, r.imp id fun ⟨v, a, vs, h1, h2, r⟩ => ⟨v, a, vs, by rw [wipe_out hi] at h1; exact h1, by rw [wipe_out hj] at h2; exact h2, r⟩⟩
  exc := fun i h => (nomatch h)
  out := fun i e => S5.out i (by
    rw [restore_get] at e
    split at e
    · simpa using e
    · exact e)
  nod := S5.nod
  dis := S5.dis
  trk := S5.trk
theorem SR.beside (S : SR K iov [] F H σ ρ fp) {D : Addr} {o : HO} (hF : ¬ F D) (hn : ∀ i, D ∉ fp i) : SR K iov [] F (upd H D o) σ ρ fp where
  len := S.len
  slot := fun i s e hx => by
    have r := S.slot i s e hx
    have go : ∀ {t v}, TRep K F H v t (fp i) → TRep K F (upd H D o) v t (fp i) := fun {t v} r => TRep.mono (fun _ h => h) t v _ (fun b hb => (S.fpF i b hb).1) (fun a u ha e => by
      rw [upd_ne (by rintro rfl; exact ha.elim hF (hn i))]; exact e) r
    cases s with
    | no => exact r
    | lk => exact r
    | ow t => obtain ⟨v, a, r⟩ := r; exact ⟨v, a, go r⟩
    | io t => obtain ⟨v, a, c, r⟩ := r; exact ⟨v, a, c, go r⟩
    | al j k =>
      obtain ⟨z, r⟩ := r
      exact ⟨z, r.imp id fun ⟨v, a, vs, h1, h2, h3, h4, h5⟩ => ⟨v, a, vs, h1, h2, by rw [upd_ne (by rintro rfl; exact h5.elim hF (hn j))]; exact h3, h4, h5⟩⟩
  exc := S.exc
  out := S.out
  nod := S.nod
  dis := S.dis
  trk := fun b hb => by
    by_cases h : b = D
    · subst h; rw [upd_same]; simp
    · rw [upd_ne h]; exact S.trk b hb
def lcStep (tgt : Tgt) (evt : Env → Option (Bool × Env)) (eve : Env → Option (Val × Env)) (ρ : Env) (d : D) : Option (Option T × Env) := (bindD ρ tgt d).bind fun ρ2 => match evt ρ2 with
  | some (true, ρ3) => match eve ρ3 with
    | some (v, ρ4) => (fzVal ρ4 v).map fun p => (some p.1, p.2)
    | .none => .none
  | some (false, ρ3) => some (.none, ρ3)
  | .none => .none
structure LcW (O : List V → HO) (wb : Bool) (K : PySem.W.Frag) (iov : Nat → Option V) (f : Env → D → Option (Option T × Env)) (F1 : Addr → Prop) (H1 : Hp) (fp1 : Fp) (σ : L2.St) (os : List Nat) (ds : List D) (tsE : List T) (ρ5 : Env) (D : Addr) (i m : Nat) (H : Hp) (F : Addr → Prop) (fp : Fp) (acc : List V) (fq : List Addr) (ts : List T) (ρ : Env) : Prop where
  S : SR K iov [] F H (wipe σ os) ρ fp
  hacc : H D = some (O acc)
  nF : ¬ F D
  nf : ∀ i, D ∉ fp i
  nq : D ∉ fq
  rs : TReps K F H acc ts fq
  P : Post F1 H1 fp1 F H fp (D :: fq) wb
  run : lcLoop f os ρ (ds.drop i) ts = some (tsE, ρ5)
  wp : Wiped ρ os
  m : m = ds.length - i
  le : i ≤ ds.length
end
section
variable {X : Cx} {iov : Nat → Option V} {ρ ρ1 ρ5 : Env} {ds : List D} {ts : List T} {wi wt we wb : Bool}
theorem lcLoop_pre {f : Env → D → Option (Option T × Env)} {os : List Nat} : ∀ {ds : List D} {ρ : Env} {acc ts : List T} {ρ5 : Env}, lcLoop f os ρ ds acc = some (ts, ρ5) → acc <+: ts
  | [], ρ, acc, ts, ρ5, h => by simp only [lcLoop, Option.some.injEq, Prod.mk.injEq] at h; rw [h.1]; exact List.prefix_refl _
  | d :: ds, ρ, acc, ts, ρ5, h => by
    unfold lcLoop at h
    split at h
    · exact (List.prefix_append _ _).trans (lcLoop_pre h)
    · exact lcLoop_pre h
    · cases h
def tLcO (O : Addr → List V → HO) (Ok : List V → V → Prop) (wi : TI) (g : TG) (tt : TT) (te : TE) (vs : List Nat) : TE := fun σ H Q => wi σ H fun J H1 => ∀ D, H1 D = none → ∃ W : Nat → Nat → Hp → Prop, (∃ m, W 0 m (upd H1 D (O D []))) ∧ ∀ i m H, W i m H →
  (J.stop i H ∧ Q (.ref D) H) ∨ (J.go i H ∧ ∃ Nx : Hp → Prop, (∀ H', Nx H' → ∃ m', m' < m ∧ W (i + 1) m' H') ∧ ∀ x H', J.yld i H x H' → g x (wipe σ vs) H' fun σ2 H2 => wipe σ2 vs = wipe σ vs ∧ tt σ2 H2 fun b H3 =>
    if b = true then te σ2 H3 fun y H4 => ∃ acc, H4 D = some (O D acc) ∧ Ok acc y ∧ Nx (upd H4 D (O D (acc ++ [y]))) else Nx H3)
theorem lcO_TE {O : Addr → List V → HO} {Ok : List V → V → Prop} (hwt : wt = true → wb = true) (hwe : we = true → wb = true) {own : List Nat} {tgt : Tgt} {ch : List Nat} (hch : ∀ i ∈ ch, i ∈ own) {evt : Env → Option (Bool × Env)} {eve : Env → Option (Val × Env)}
    (hl : lcLoop (lcStep tgt evt eve) own (wipeE ρ1 own) ds [] = some (ts, ρ5)) (hOk : ∀ (F : Addr → Prop) (H : Hp) acc ts' fq y t fv, TReps X.K F H acc ts' fq → TRep X.K F H y t fv → (ts' ++ [t]) <+: ts → Ok acc y) (ho : ownOk ρ1 own = true) {σ : L2.St} {H : Hp} {Q : VK}
    (h : ∃ F fp, SR X.K iov [] F H σ ρ fp ∧ ∀ D acc H1 F1 fp1 fq, SR X.K iov [] F1 H1 σ (restore ρ1 own ρ5) fp1 → H1 D = some (O D acc) → ¬ F1 D → TReps X.K F1 H1 acc ts fq → Post F H fp F1 H1 fp1 (D :: fq) true → Q (.ref D) H1) :
    tLcO O Ok (tIW wb X.K iov ρ ds ρ1 wi) (fun v σ H Q => ∃ a : { p : Env × D × Env // bindD p.1 tgt p.2.1 = some p.2.2 }, tG X.K iov a.1.1 ch a.1.2.1 a.1.2.2 v σ H Q)
      (fun σ H Q => ∃ a : { p : Env × Bool × Env // evt p.1 = some p.2 }, tT X.K iov a.1.1 a.1.2.1 a.1.2.2 wt σ H Q)
      (fun σ H Q => ∃ a : { p : Env × Val × Env // eve p.1 = some p.2 }, tE X.K iov a.1.1 a.1.2.1 a.1.2.2 we σ H Q) own σ H Q := by
  obtain ⟨F0, fp0, S0, k⟩ := h
  refine ⟨F0, fp0, S0, fun J H1 F1 fp1 S1 it P1 D hD => ?_⟩
  obtain ⟨fpw, Sw, hw⟩ := S1.wipes own
  have nD : ¬ F1 D := fun f => S1.trk D f hD
  have nd : ∀ i, D ∉ fpw i := fun i hi => (S1.fpF i D (hw i D hi)).2 hD
  refine ⟨fun i m H => ∃ F fp acc fq ts' ρ', LcW (O D) wb X.K iov (lcStep tgt evt eve) F1 H1 fp1 σ own ds ts ρ5 D i m H F fp acc fq ts' ρ', ⟨ds.length, F1, fpw, [], [], [], wipeE ρ1 own, ?_⟩, ?_⟩
  · refine ⟨Sw.beside nD nd, upd_same, nD, nd, by simp, by simp only [TReps], ?_, hl, Wiped.wipeE _ _, rfl, Nat.zero_le _⟩
    refine ⟨fun _ h => h, fun _ h => .inl h, fun b o e _ => ?_, fun b hb => ?_, fun i b hb => .inl ⟨i, hw i b hb⟩, fun b hb => ?_, fun i b hb z => ?_, by simp⟩
    · rw [upd_ne (by rintro rfl; rw [hD] at e; cases e)]; exact e
    · rw [upd_ne (by rintro rfl; exact hb hD)]; exact hb
    · simp at hb; subst hb; exact .inr hD
    · simp at z; subst z; exact nd i hb
  · rintro i m H ⟨F, fp, acc, fq, ts', ρ', w⟩
    have hk1 : ∀ b o, F1 b → H1 b = some o → H b = some o := fun b o f e => w.P.keep b o e (.inr fun j hj => (S1.fpF j b hj).1 f)
    have it' := it F H w.P.sub fun b o f e => f.elim (fun z => w.P.keep b o e (.inl z)) fun z => hk1 b o z e
    by_cases hi : i < ds.length
    · -- a turn
      refine .inr ⟨(it'.1 i ds[i] (by rw [List.getElem?_eq_getElem hi])).1, fun H => ∃ F fp acc fq ts' ρ', LcW (O D) wb X.K iov (lcStep tgt evt eve) F1 H1 fp1 σ own ds ts ρ5 D (i + 1) (ds.length - (i + 1)) H F fp acc fq ts' ρ', fun H' w' => ⟨ds.length - (i + 1), by rw [w.m]; omega, w'⟩, fun x H2 hy => ?_⟩
      have pr := (it'.1 i ds[i] (by rw [List.getElem?_eq_getElem hi])).2 x H2 hy
      obtain ⟨F2, fx, S2, tx, P2⟩ := w.S.pure pr
      have run := w.run
      rw [List.drop_eq_getElem_cons hi] at run
      unfold lcLoop at run
      have nF2 : ¬ F2 D := fun f => by
        rcases P2.new D f with f | ⟨j, f⟩ | f
        · exact w.nF f
        · exact w.nf j f
        · rw [w.hacc] at f; cases f
      have rx : RepD X.K F2 H2 x ds[i] := by simp only [TRep] at tx; exact tx.2
      cases eb : bindD ρ' tgt ds[i] with
      | none => simp [lcStep, eb] at run
      | some ρ2 =>
        refine ⟨⟨(ρ', ds[i], ρ2), eb⟩, F2, fp, S2, rx, fun σ3 fp3 S3 le3 l3 n3 => ⟨?_, ?_⟩⟩
        · apply List.ext_getElem?
          intro j
          by_cases hj : j ∈ own
          · have len : j < σ3.length ↔ j < σ.length := by rw [l3, wipe_length]
            have go : ∀ (σ : L2.St) (os : List Nat), j ∈ os → (wipe σ os)[j]? = if j < σ.length then some none else none := fun σ os => by
              induction os with
              | nil => intro h; cases h
              | cons o os ih =>
                intro h
                unfold wipe
                rw [List.getElem?_set, wipe_length]
                by_cases e : o = j
                · subst e; simp
                · simp only [e, if_false]
                  exact ih ((List.mem_cons.mp h).resolve_left (Ne.symm e))
            rw [go _ _ hj, go _ _ hj]
            simp only [len]
          · rw [wipe_out hj, n3 j fun z => hj (hch j z)]
        · cases et : evt ρ2 with
          | none => simp [lcStep, eb, et] at run
          | some bt =>
            obtain ⟨b, ρ3⟩ := bt
            refine ⟨⟨(ρ2, b, ρ3), et⟩, F2, fp3, S3, fun H3 F3 fp4 S4 P4 => ?_⟩
            have P24 : Post F H fp F3 H3 fp4 [] wt := by
              have : Post F H fp F2 H2 fp3 [] false := (P2.drop0).shrink le3
              have := this.trans P4 fun _ h => (nomatch h)
              simpa using this
            have kD : H3 D = some (O D acc) := P24.keep D _ w.hacc (.inr fun j hj => w.nf j hj)
            have nF3 : ¬ F3 D := fun f => by
              rcases P24.new D f with f | ⟨j, f⟩ | f
              · exact w.nF f
              · exact w.nf j f
              · rw [w.hacc] at f; cases f
            have nf4 : ∀ j, D ∉ fp4 j := fun j hj => by
              rcases P24.fresh j D hj with ⟨l, z⟩ | z
              · exact w.nf l z
              · rw [w.hacc] at z; cases z
            have dq : ∀ j b, b ∈ fp j → b ∉ fq := fun j b hb hq => w.P.disv j b hb (List.mem_cons_of_mem _ hq)
            have rs3 : TReps X.K F3 H3 acc ts' fq := P24.tmps (fun j b hb => (w.S.fpF j b hb).1) w.rs dq
            have offq : ∀ b ∈ D :: fq, ¬ F b ∧ H b ≠ none := fun b hb => by
              rcases List.mem_cons.mp hb with rfl | hb
              · exact ⟨w.nF, by rw [w.hacc]; simp⟩
              · exact TReps.fps ts' acc fq w.rs b hb
            have P14 : Post F1 H1 fp1 F3 H3 fp4 (D :: fq) wb := by
              have := w.P.trans P24 offq
              rw [show (wb || wt) = wb by cases wb <;> cases wt <;> simp_all] at this
              simpa using this
            cases b with
            | false =>
              simp only [Bool.false_eq_true, if_false]
              simp only [lcStep, eb, et, Option.bind_some] at run
              obtain ⟨fp6, S6, le6⟩ := S4.wipes own
              have e6 : wipe σ3 own = wipe σ own := by
                apply List.ext_getElem?
                intro j
                by_cases hj : j ∈ own
                · have len : j < σ3.length ↔ j < σ.length := by rw [l3, wipe_length]
                  have go : ∀ (σ : L2.St) (os : List Nat), j ∈ os → (wipe σ os)[j]? = if j < σ.length then some none else none := fun σ os => by
                    induction os with
                    | nil => intro h; cases h
                    | cons o os ih =>
                      intro h
                      unfold wipe
                      rw [List.getElem?_set, wipe_length]
                      by_cases e : o = j
                      · subst e; simp
                      · simp only [e, if_false]
                        exact ih ((List.mem_cons.mp h).resolve_left (Ne.symm e))
                  rw [go _ _ hj, go _ _ hj]
                  simp only [len]
                · rw [wipe_out hj, wipe_out hj, n3 j fun z => hj (hch j z), wipe_out hj]
              rw [e6] at S6
              exact ⟨F3, fp6, acc, fq, ts', wipeE ρ3 own, S6, kD, nF3, fun j hj => nf4 j (le6 j D hj), w.nq, rs3, P14.shrink le6, run, Wiped.wipeE _ _, rfl, hi⟩
            | true =>
              simp only [if_true]
              cases ee : eve ρ3 with
              | none => simp [lcStep, eb, et, ee] at run
              | some pe =>
                obtain ⟨v, ρ4⟩ := pe
                cases ez : fzVal ρ4 v with
                | none => simp [lcStep, eb, et, ee, ez] at run
                | some pz =>
                  obtain ⟨t, ρ6⟩ := pz
                  simp only [lcStep, eb, et, ee, ez, Option.bind_some, Option.map_some] at run
                  refine ⟨⟨(ρ3, v, ρ4), ee⟩, F3, fp4, S4, fun y H5 F5 fp5 fv S5 V5 P5 => ?_⟩
                  obtain ⟨F6, fp6, S6, tz, Z⟩ := S5.fzV ez V5
                  have tz' : TRep X.K F6 H5 y t fv := by
                    rcases tz with tz | tz
                    · exact Z.tmp tz P5.disv
                    · exact tz.1
                  have dq4 : ∀ j b, b ∈ fp4 j → b ∉ fq := fun j b hb hq => P14.disv j b hb (List.mem_cons_of_mem _ hq)
                  have rs5 : TReps X.K F5 H5 acc ts' fq := P5.tmps (fun j b hb => (S4.fpF j b hb).1) rs3 dq4
                  have off3 : ∀ b ∈ D :: fq, ¬ F3 b ∧ H3 b ≠ none := fun b hb => by
                    rcases List.mem_cons.mp hb with rfl | hb
                    · exact ⟨nF3, by rw [kD]; simp⟩
                    · exact TReps.fps ts' acc fq rs3 b hb
                  have P15 : Post F1 H1 fp1 F5 H5 fp5 ((D :: fq) ++ fv) wb := by
                    have := P14.trans P5 off3
                    rw [show (wb || we) = wb by cases wb <;> cases we <;> simp_all] at this
                    simpa using this
                  have P16 := P15.fz Z
                  have dq5 : ∀ j b, b ∈ fp5 j → b ∉ fq := fun j b hb hq => P15.disv j b hb (by simp [hq])
                  have rs6 : TReps X.K F6 H5 acc ts' fq := Z.tmps rs5 dq5
                  have kD5 : H5 D = some (O D acc) := P5.keep D _ kD (.inr nf4)
                  have nF6 : ¬ F6 D := fun f => by
                    rcases Z.new D f with f | ⟨j, f⟩
                    · rcases P5.new D f with f | ⟨j, f⟩ | f
                      · exact nF3 f
                      · exact nf4 j f
                      · rw [kD] at f; cases f
                    · rcases P5.fresh j D f with ⟨l, z⟩ | z
                      · exact nf4 l z
                      · rw [kD] at z; cases z
                  have nf6 : ∀ j, D ∉ fp6 j := fun j hj => P16.disv j D hj (by simp)
                  have nv : D ∉ fv := fun z => by
                    have := P16.nodv
                    simp only [List.cons_append, List.nodup_cons] at this
                    exact this.1 (by simp [z])
                  have lt : Ok acc y := hOk F6 H5 acc ts' fq y t fv rs6 tz' (lcLoop_pre run)
                  refine ⟨acc, kD5, lt, ?_⟩
                  have S7 := S6.beside (o := O D (acc ++ [y])) nF6 nf6
                  obtain ⟨fp8, S8, le8⟩ := S7.wipes own
                  have e6 : wipe σ3 own = wipe σ own := by
                    apply List.ext_getElem?
                    intro j
                    by_cases hj : j ∈ own
                    · have len : j < σ3.length ↔ j < σ.length := by rw [l3, wipe_length]
                      have go : ∀ (σ : L2.St) (os : List Nat), j ∈ os → (wipe σ os)[j]? = if j < σ.length then some none else none := fun σ os => by
                        induction os with
                        | nil => intro h; cases h
                        | cons o os ih =>
                          intro h
                          unfold wipe
                          rw [List.getElem?_set, wipe_length]
                          by_cases e : o = j
                          · subst e; simp
                          · simp only [e, if_false]
                            exact ih ((List.mem_cons.mp h).resolve_left (Ne.symm e))
                      rw [go _ _ hj, go _ _ hj]
                      simp only [len]
                    · rw [wipe_out hj, wipe_out hj, n3 j fun z => hj (hch j z), wipe_out hj]
                  rw [e6] at S8
                  have bes : ∀ a o, (F6 a ∨ a ∈ fq ++ fv) → H5 a = some o → upd H5 D (O D (acc ++ [y])) a = some o := fun a o ha e => by
                    rw [upd_ne]
                    · exact e
                    · rintro rfl
                      rcases ha with ha | ha
                      · exact nF6 ha
                      · rcases List.mem_append.mp ha with ha | ha
                        · exact w.nq ha
                        · exact nv ha
                  have off6 : ∀ a ∈ fq ++ fv, ¬ F6 a := fun a ha f => by
                    rcases List.mem_append.mp ha with ha | ha
                    · exact (TReps.fps ts' acc fq rs6 a ha).1 f
                    · exact (TRep.fps t y fv tz' a ha).1 f
                  refine ⟨F6, fp8, acc ++ [y], fq ++ fv, ts' ++ [t], wipeE ρ6 own, S8, upd_same, nF6, fun j hj => nf6 j (le8 j D hj), ?_, TReps.mono (fun _ h => h) _ _ _ off6 bes (rs6.snoc tz'), ?_, run, Wiped.wipeE _ _, rfl, hi⟩
                  · intro z
                    rcases List.mem_append.mp z with z | z
                    · exact w.nq z
                    · exact nv z
                  · have P17 : Post F1 H1 fp1 F6 H5 fp8 (D :: (fq ++ fv)) wb := by
                      have := P16.shrink le8
                      simpa using this
                    refine ⟨P17.sub, P17.new, fun b o e h => ?_, fun b hb => ?_, P17.fresh, P17.freshv, P17.disv, P17.nodv⟩
                    · rw [upd_ne (by
                        rintro rfl
                        rw [hD] at e; cases e)]
                      exact P17.keep b o e h
                    · by_cases hbD : b = D
                      · subst hbD; rw [upd_same]; simp
                      · rw [upd_ne hbD]; exact P17.there b hb
    · -- the end
      have e : i = ds.length := Nat.le_antisymm w.le (Nat.le_of_not_lt hi)
      subst e
      refine .inl ⟨it'.2, ?_⟩
      have run := w.run
      rw [List.drop_length] at run
      simp only [lcLoop, Option.some.injEq, Prod.mk.injEq] at run
      obtain ⟨rfl, rfl⟩ := run
      exact k D acc H F fp fq (w.S.restore w.wp S1 ho w.P.sub hk1) w.hacc w.nF w.rs (by
        have := (P1.trans w.P fun _ h => (nomatch h)).wrT
        simpa using this)
theorem lc_TE (hwt : wt = true → wb = true) (hwe : we = true → wb = true) {own : List Nat} {tgt : Tgt} {ch : List Nat} (hch : ∀ i ∈ ch, i ∈ own) {evt : Env → Option (Bool × Env)} {eve : Env → Option (Val × Env)}
    (hl : lcLoop (lcStep tgt evt eve) own (wipeE ρ1 own) ds [] = some (ts, ρ5)) (hz : ts.length ≤ sizeLine) (ho : ownOk ρ1 own = true) {σ : L2.St} {H : Hp} {Q : VK} (h : tE X.K iov ρ (.t (.lst ts)) (restore ρ1 own ρ5) true σ H Q) :
    tLc (tIW wb X.K iov ρ ds ρ1 wi) (fun v σ H Q => ∃ a : { p : Env × D × Env // bindD p.1 tgt p.2.1 = some p.2.2 }, tG X.K iov a.1.1 ch a.1.2.1 a.1.2.2 v σ H Q)
      (fun σ H Q => ∃ a : { p : Env × Bool × Env // evt p.1 = some p.2 }, tT X.K iov a.1.1 a.1.2.1 a.1.2.2 wt σ H Q)
      (fun σ H Q => ∃ a : { p : Env × Val × Env // eve p.1 = some p.2 }, tE X.K iov a.1.1 a.1.2.1 a.1.2.2 we σ H Q) own σ H Q := by
  obtain ⟨F0, fp0, S0, k⟩ := h
  refine lcO_TE (O := fun _ acc => .lst acc) (Ok := fun acc _ => acc.length < sizeLine) hwt hwe hch hl (fun F H acc ts' fq y t fv r _ p => ?_) ho ⟨F0, fp0, S0, fun D acc H1 F1 fp1 fq S1 hD nF rs P => ?_⟩
  · have e := r.len
    have := p.length_le
    rw [List.length_append] at this
    simp at this
    omega
  · refine k (.ref D) H1 F1 fp1 (D :: fq) S1 ?_ P
    show TRep _ _ _ _ _ _
    simp only [TRep]
    exact ⟨D, acc, fq, rfl, rfl, nF, hD, rs⟩
theorem s_lc {elt tg iter : Expr} {ifs : List Expr} {scope : Scope} {own : List (Str × Nat)} {pos : Pos} {tgt : Tgt} {ch : List Nat} {evt : Env → Option (Bool × Env)} {eve : Env → Option (Val × Env)} (hc : X.calm = true) (hN : X.N.Nodup)
    (hwt : wt = true → wb = true) (hwe : we = true → wb = true) (hi : PI X tg iter (tIW wb X.K iov ρ ds ρ1 wi)) (ok : BlkOk X.N X.env.scope scope own) (hch : ∀ i ∈ ch, i ∈ own.map (·.2))
    (hg : ∀ (s : Shared) (H : Hp) (C : Addr) (cl : List (Str × Addr)) (fp : List Addr) (ρ : Env) (d : D) (ρ2 : Env), bindD ρ tgt d = some ρ2 → PG (X.blk s H scope (compEnvC scope cl C X.env) fp) tg (tG X.K iov ρ ch d ρ2))
    (ht : ∀ (s : Shared) (H : Hp) (C : Addr) (cl : List (Str × Addr)) (fp : List Addr) (ρ : Env) (b : Bool) (ρ2 : Env), evt ρ = some (b, ρ2) → PTs (X.blk s H scope (compEnvC scope cl C X.env) fp) ifs (tT X.K iov ρ b ρ2 wt))
    (he : ∀ (s : Shared) (H : Hp) (C : Addr) (cl : List (Str × Addr)) (fp : List Addr) (ρ : Env) (v : Val) (ρ2 : Env), eve ρ = some (v, ρ2) → PE (X.blk s H scope (compEnvC scope cl C X.env) fp) elt (tE X.K iov ρ v ρ2 we))
    (hs : ∀ x, foldedSetIterable iter X.env x = pure x)
    (hl : lcLoop (lcStep tgt evt eve) (own.map (·.2)) (wipeE ρ1 (own.map (·.2))) ds [] = some (ts, ρ5)) (hz : ts.length ≤ sizeLine) (ho : ownOk ρ1 (own.map (·.2)) = true) :
    PE X (.ListComp elt [⟨tg, iter, ifs, 0⟩] scope pos) (tE X.K iov ρ (.t (.lst ts)) (restore ρ1 (own.map (·.2)) ρ5) true) :=
  PE.imp' (pe_lc hc hN hi ok (fun s H C cl fp => PG.all fun a : { p : Env × D × Env // bindD p.1 tgt p.2.1 = some p.2.2 } => hg s H C cl fp a.1.1 a.1.2.1 a.1.2.2 a.2)
    (fun s H C cl fp => PTs.all fun a : { p : Env × Bool × Env // evt p.1 = some p.2 } => ht s H C cl fp a.1.1 a.1.2.1 a.1.2.2 a.2)
    (fun s H C cl fp => PE.all fun a : { p : Env × Val × Env // eve p.1 = some p.2 } => he s H C cl fp a.1.1 a.1.2.1 a.1.2.2 a.2) hs)
    fun σ H Q h => lc_TE hwt hwe hch hl hz ho h
end
end Mv

end
section
namespace Mv
open PySem PySem.Spec PyProof.Rows L2
def OutK (K : PySem.W.Frag) (iov : Nat → Option V) (F : Addr → Prop) (H : Hp) (fp : Fp) (D : Ends) : Out → Prop
  | .nx ρ' => ∀ σ' H' F' fp', SR K iov [] F' H' σ' ρ' fp' → Post F H fp F' H' fp' [] true → D.nx σ' H'
  | .ct ρ' => ∀ σ' H' F' fp', SR K iov [] F' H' σ' ρ' fp' → Post F H fp F' H' fp' [] true → D.ct σ' H'
  | .bk ρ' => ∀ σ' H' F' fp', SR K iov [] F' H' σ' ρ' fp' → Post F H fp F' H' fp' [] true → D.bk σ' H'
  | .rt t ρ' => ∀ v σ' H' F' fp' fpv, SR K iov [] F' H' σ' ρ' fp' → TRep K F' H' v t fpv → Post F H fp F' H' fp' fpv true → D.rt v H'
def tS (K : PySem.W.Frag) (iov : Nat → Option V) (ρ : Env) (o : Out) : TS := fun D σ H => ∃ F fp, SR K iov [] F H σ ρ fp ∧ OutK K iov F H fp D o
theorem PS.imp' {X : Cx} {e : Stmt} {t t' : TS} (h : PS X e t) (k : ∀ D σ H, t' D σ H → t D σ H) : PS X e t' := ⟨fun pins s σ H D I q => h.run pins s σ H D I (k _ _ _ q)⟩
theorem PSs.imp' {X : Cx} {e : List Stmt} {t t' : TS} (h : PSs X e t) (k : ∀ D σ H, t' D σ H → t D σ H) : PSs X e t' := ⟨fun pins s σ H D I q => h.run pins s σ H D I (k _ _ _ q)⟩
theorem PSs.all {X : Cx} {e : List Stmt} {α : Type} {t : α → TS} (h : ∀ a, PSs X e (t a)) : PSs X e (fun D σ H => ∃ a, t a D σ H) := ⟨fun pins s σ H D I ⟨a, q⟩ => (h a).run pins s σ H D I q⟩
theorem PT.all {X : Cx} {e : Expr} {α : Type} {t : α → TT} (h : ∀ a, PT X e (t a)) : PT X e (fun σ H Q => ∃ a, t a σ H Q) := ⟨fun pins s σ H Q I ⟨a, q⟩ => (h a).run pins s σ H Q I q⟩
section
variable {X : Cx} {K : PySem.W.Frag} {iov : Nat → Option V} {F F0 F1 F2 F' Fc : Addr → Prop} {H H0 H1 H2 H' : Hp} {fp fp0 fp1 fp2 fp' : Fp} {fa fb fx fpv : List Addr} {t x y : T} {v w vx vy : V} {b : Bool} {ρ ρ1 ρ2 ρ3 ρ4 ρ' : Env} {wr wa wb wc : Bool} {va vb vc : Val} {σ : L2.St} {e e1 e2 e3 tg : Expr} {es : List Expr} {pos : Pos} {as : List Val} {ds : List D} {o : Out} {D : Ends}
theorem OutK.after (P : Post F H fp F1 H1 fp1 [] wr) (h : OutK K iov F H fp D o) : OutK K iov F1 H1 fp1 D o := by
  have P := P.wrT
  cases o with
  | nx ρ' => exact fun σ' H' F' fp' S Q => h σ' H' F' fp' S (P.trans Q fun _ z => (nomatch z))
  | ct ρ' => exact fun σ' H' F' fp' S Q => h σ' H' F' fp' S (P.trans Q fun _ z => (nomatch z))
  | bk ρ' => exact fun σ' H' F' fp' S Q => h σ' H' F' fp' S (P.trans Q fun _ z => (nomatch z))
  | rt t ρ' => exact fun v σ' H' F' fp' fpv S V Q => h v σ' H' F' fp' fpv S V (P.trans Q fun _ z => (nomatch z))
theorem Post.bound (P : Post F H fp F1 H1 fp1 fpv wr) (i : Nat) : Post F H fp F1 H1 (updF fp1 i fpv) [] true := by
  have P := P.wrT
  exact ⟨P.sub, P.new, P.keep, P.there, fun j b hb => by
    by_cases hj : j = i
    · subst hj; rw [updF_same] at hb; exact P.freshv b hb
    · rw [updF_ne hj] at hb; exact P.fresh j b hb, fun _ h => (nomatch h), fun _ _ _ h => (nomatch h), List.nodup_nil⟩
theorem st_pass : PS X (.Pass pos) (tS X.K iov ρ (.nx ρ)) := PS.imp' ps_pass fun D σ H ⟨F, fp, S, k⟩ => k σ H F fp S (.refl S)
theorem st_cont : PS X (.Continue pos) (tS X.K iov ρ (.ct ρ)) := PS.imp' ps_continue fun D σ H ⟨F, fp, S, k⟩ => k σ H F fp S (.refl S)
theorem st_brk : PS X (.Break pos) (tS X.K iov ρ (.bk ρ)) := PS.imp' ps_break fun D σ H ⟨F, fp, S, k⟩ => k σ H F fp S (.refl S)
theorem st_retN : PS X (.Return none pos) (tS X.K iov ρ (.rt (.fz .none) ρ)) := PS.imp' ps_retN fun D σ H ⟨F, fp, S, k⟩ => k _ σ H F fp [] S (by simp only [TRep, RepD, and_self]) (.refl S)
theorem st_ret (he : PE X e (tE X.K iov ρ va ρ1 wa)) (hz : fzVal ρ1 va = some (t, ρ2)) : PS X (.Return (some e) pos) (tS X.K iov ρ (.rt t ρ2)) := by
  refine PS.imp' (ps_ret he) ?_
  rintro D σ H ⟨F, fp, S, k⟩
  refine ⟨F, fp, S, fun v H1 F1 fp1 fpv S1 V1 P1 => ?_⟩
  obtain ⟨F2, fp2, S2, tz, Z⟩ := S1.fzV hz V1
  refine k v σ H1 F2 fp2 fpv S2 ?_ (P1.fz Z).wrT
  rcases tz with tz | tz
  · exact Z.tmp tz P1.disv
  · exact tz.1
theorem st_exp (he : PE X e (tE X.K iov ρ va ρ1 wa)) (hs : swapsWith e none pos.line X.env = pure false) : PS X (.Expr e pos) (tS X.K iov ρ (.nx ρ1)) :=
  PS.imp' (ps_expr he hs) fun D σ H ⟨F, fp, S, k⟩ => ⟨F, fp, S, fun v H1 F1 fp1 fpv S1 V1 P1 => k σ H1 F1 fp1 S1 P1.drop0.wrT⟩
theorem st_set {i : Nat} {nm : Str} {p : Pos} (hN : X.N.Nodup) (hi : X.N[i]? = some nm) (hx : Loc X.env.scope nm) (hf : X.fn nm = true ∨ X.env.scope.names.lookup nm = some .local) (he : PE X e (tE X.K iov ρ va ρ1 wa)) (hb : bindS ρ1 i va = some ρ')
    (hs : swapsWith e (some (.Name nm p)) pos.line X.env = pure false) : PS X (.Assign [.Name nm p] e pos) (tS X.K iov ρ (.nx ρ')) := by
  refine PS.imp' (ps_set hN hi hx he hs hf) ?_
  rintro D σ H ⟨F, fp, S, k⟩
  exact ⟨F, fp, S, fun v H1 F1 fp1 fpv S1 V1 P1 => k _ H1 F1 _ (S1.bind hb V1 P1.nodv P1.disv) (P1.bound i)⟩
theorem st_setLc {i : Nat} {nm : Str} {p spos : Pos} {elt tg iter : Expr} {ifs : List Expr} {scope : Scope} {own : List (Str × Nat)} {pos : Pos} {tgt : Tgt} {ch : List Nat} {evt : Env → Option (Bool × Env)} {eve : Env → Option (Val × Env)} {wi wt we wb : Bool} {ρ5 : Env} {ts : List T} (hc : X.calm = true) (hN : X.N.Nodup)
    (hn : X.N[i]? = some nm) (hyl : X.env.scope.names.lookup nm = some .local) (hsw : swapsWith (.ListComp elt [⟨tg, iter, ifs, 0⟩] scope pos) (some (.Name nm p)) spos.line X.env = pure true)
    (hwt : wt = true → wb = true) (hwe : we = true → wb = true) (hi : PI X tg iter (tIW wb X.K iov ρ ds ρ1 wi)) (ok : BlkOk X.N X.env.scope scope own) (hch : ∀ i ∈ ch, i ∈ own.map (·.2))
    (hg : ∀ (s : Shared) (H : Hp) (C : Addr) (cl : List (Str × Addr)) (fp : List Addr) (ρ : Env) (d : Mv.D) (ρ2 : Env), bindD ρ tgt d = some ρ2 → PG (X.blk s H scope (compEnvC scope cl C X.env) fp) tg (tG X.K iov ρ ch d ρ2))
    (ht : ∀ (s : Shared) (H : Hp) (C : Addr) (cl : List (Str × Addr)) (fp : List Addr) (ρ : Env) (b : Bool) (ρ2 : Env), evt ρ = some (b, ρ2) → PTs (X.blk s H scope (compEnvC scope cl C X.env) fp) ifs (tT X.K iov ρ b ρ2 wt))
    (he : ∀ (s : Shared) (H : Hp) (C : Addr) (cl : List (Str × Addr)) (fp : List Addr) (ρ : Env) (v : Val) (ρ2 : Env), eve ρ = some (v, ρ2) → PE (X.blk s H scope (compEnvC scope cl C X.env) fp) elt (tE X.K iov ρ v ρ2 we))
    (hs : ∀ x, foldedSetIterable iter X.env x = pure x)
    (hl : lcLoop (lcStep tgt evt eve) (own.map (·.2)) (wipeE ρ1 (own.map (·.2))) ds [] = some (ts, ρ5)) (hz : ts.length ≤ sizeLine) (ho : ownOk ρ1 (own.map (·.2)) = true)
    (hb : bindS (restore ρ1 (own.map (·.2)) ρ5) i (.t (.lst ts)) = some ρ') :
    PS X (.Assign [.Name nm p] (.ListComp elt [⟨tg, iter, ifs, 0⟩] scope pos) spos) (tS X.K iov ρ (.nx ρ')) := by
  refine PS.imp' (ps_setLc hc hN hn hyl hsw hi ok (fun s H C cl fp => PG.all fun a : { p : Env × Mv.D × Env // bindD p.1 tgt p.2.1 = some p.2.2 } => hg s H C cl fp a.1.1 a.1.2.1 a.1.2.2 a.2)
    (fun s H C cl fp => PTs.all fun a : { p : Env × Bool × Env // evt p.1 = some p.2 } => ht s H C cl fp a.1.1 a.1.2.1 a.1.2.2 a.2)
    (fun s H C cl fp => PE.all fun a : { p : Env × Val × Env // eve p.1 = some p.2 } => he s H C cl fp a.1.1 a.1.2.1 a.1.2.2 a.2) hs) ?_
  rintro D σ H ⟨F, fp, S, k⟩
  refine lc_TE hwt hwe hch hl hz ho ⟨F, fp, S, fun v H1 F1 fp1 fpv S1 V1 P1 => ?_⟩
  exact k _ H1 F1 _ (S1.bind hb V1 P1.nodv P1.disv) (P1.bound i)
theorem sts_nil : PSs X [] (tS X.K iov ρ (.nx ρ)) := PSs.imp' pss_nil fun D σ H ⟨F, fp, S, k⟩ => k σ H F fp S (.refl S)
theorem sts_cons {st : Stmt} {rest : List Stmt} (h1 : PS X st (tS X.K iov ρ (.nx ρ1))) (h2 : PSs X rest (tS X.K iov ρ1 o)) : PSs X (st :: rest) (tS X.K iov ρ o) :=
  PSs.imp' (pss_cons h1 h2) fun D σ H ⟨F, fp, S, k⟩ => ⟨F, fp, S, fun σ' H' F' fp' S' P => ⟨F', fp', S', k.after P⟩⟩
theorem sts_end {st : Stmt} {rest : List Stmt} (h1 : PS X st (tS X.K iov ρ o)) (ho : ∀ ρ', o ≠ .nx ρ') : PSs X (st :: rest) (tS X.K iov ρ o) :=
  PSs.imp' (pss_cons h1 pss_never) fun D σ H ⟨F, fp, S, k⟩ => ⟨F, fp, S, by
    cases o with
    | nx ρ' => exact absurd rfl (ho ρ')
    | ct ρ' => exact k
    | bk ρ' => exact k
    | rt t ρ' => exact k⟩
theorem st_if {c : Bool} {p q : List Stmt} (hc : PT X e (tT X.K iov ρ c ρ1 wc)) (ha : c = true → PSs X p (tS X.K iov ρ1 o)) (hb : c = false → PSs X q (tS X.K iov ρ1 o)) : PS X (.If e p q pos) (tS X.K iov ρ o) := by
  cases c with
  | true =>
    refine PS.imp' (ps_if hc (ha rfl) pss_never) ?_
    rintro D σ H ⟨F, fp, S, k⟩
    exact ⟨F, fp, S, fun H1 F1 fp1 S1 P1 => iteT ⟨F1, fp1, S1, k.after P1⟩⟩
  | false =>
    refine PS.imp' (ps_if hc pss_never (hb rfl)) ?_
    rintro D σ H ⟨F, fp, S, k⟩
    exact ⟨F, fp, S, fun H1 F1 fp1 S1 P1 => iteF ⟨F1, fp1, S1, k.after P1⟩⟩
theorem st_for {body : List Stmt} {tgt : Tgt} {ch : List Nat} {f : Env → Option Out} (hp : PassesOwn (model X.prog X.w) X.A X.env X.xe) (hc : X.calm = true) (hi : PI X tg e (tI X.K iov ρ ds ρ1 wa))
    (hg : ∀ (ρ : Env) (d : Mv.D) (ρ2 : Env), bindD ρ tgt d = some ρ2 → PG X tg (tG X.K iov ρ ch d ρ2)) (hb : ∀ (ρ : Env) (o : Out), f ρ = some o → PSs X body (tS X.K iov ρ o)) (hs : ∀ x, foldedSetIterable e X.env x = pure x)
    (hl : forLoop (fun ρ d => (bindD ρ tgt d).bind f) ρ1 ds = some o) : PS X (.For tg e body [] pos) (tS X.K iov ρ o) := by
  refine PS.imp' (ps_for hp hc hi (PG.all fun a : { p : Env × Mv.D × Env // bindD p.1 tgt p.2.1 = some p.2.2 } => hg a.1.1 a.1.2.1 a.1.2.2 a.2) (PSs.all fun a : { p : Env × Out // f p.1 = some p.2 } => hb a.1.1 a.1.2 a.2) hs) ?_
  rintro D σ H ⟨F0, fp0, S0, k⟩
  refine ⟨F0, fp0, S0, fun J H1 F1 fp1 S1 it P1 => ?_⟩
  have k1 := k.after P1
  refine ⟨fun i m σ H => ∃ F fp ρ', SR X.K iov [] F H σ ρ' fp ∧ Post F1 H1 fp1 F H fp [] true ∧ forLoop (fun ρ d => (bindD ρ tgt d).bind f) ρ' (ds.drop i) = some o ∧ m = ds.length - i ∧ i ≤ ds.length,
    ⟨ds.length, F1, fp1, ρ1, S1, .refl S1, hl, rfl, Nat.zero_le _⟩, ?_⟩
  rintro i m σ H ⟨F, fp, ρ', S, P, run, hm, hle⟩
  have hk1 : ∀ b o, F1 b → H1 b = some o → H b = some o := fun b o g e => P.keep b o e (.inr fun j hj => (S1.fpF j b hj).1 g)
  have it' := it F H P.sub hk1
  by_cases hi : i < ds.length
  · refine .inr ⟨(it'.1 i ds[i] (by rw [List.getElem?_eq_getElem hi])).1, fun σ H => ∃ F fp ρ', SR X.K iov [] F H σ ρ' fp ∧ Post F1 H1 fp1 F H fp [] true ∧ forLoop (fun ρ d => (bindD ρ tgt d).bind f) ρ' (ds.drop (i + 1)) = some o ∧ ds.length - (i + 1) = ds.length - (i + 1) ∧ i + 1 ≤ ds.length, fun σ' H' w' => ⟨ds.length - (i + 1), by omega, w'⟩, fun x H2 hy => ?_⟩
    have pr := (it'.1 i ds[i] (by rw [List.getElem?_eq_getElem hi])).2 x H2 hy
    obtain ⟨F2, fx, S2, tx, P2⟩ := S.pure pr
    have rx : RepD X.K F2 H2 x ds[i] := by simp only [TRep] at tx; exact tx.2
    rw [List.drop_eq_getElem_cons hi] at run
    unfold forLoop at run
    cases eb : bindD ρ' tgt ds[i] with
    | none => simp [eb] at run
    | some ρ2 =>
      refine ⟨⟨(ρ', ds[i], ρ2), eb⟩, F2, fp, S2, rx, fun σ3 fp3 S3 le3 l3 n3 => ?_⟩
      cases ef : f ρ2 with
      | none => simp [eb, ef] at run
      | some r =>
        refine ⟨⟨(ρ2, r), ef⟩, F2, fp3, S3, ?_⟩
        have P13 : Post F1 H1 fp1 F2 H2 fp3 [] true := by
          have := (P.trans P2.drop0 fun _ h => (nomatch h)).shrink le3
          simpa using this
        simp only [eb, ef, Option.bind_some] at run
        cases r with
        | nx ρ4 => exact fun σ' H' F' fp' S' P' => ⟨F', fp', ρ4, S', P13.trans P' fun _ h => (nomatch h), run, rfl, hi⟩
        | ct ρ4 => exact fun σ' H' F' fp' S' P' => ⟨F', fp', ρ4, S', P13.trans P' fun _ h => (nomatch h), run, rfl, hi⟩
        | bk ρ4 =>
          cases run
          exact k1.after P13
        | rt t ρ4 =>
          cases run
          exact k1.after P13
  · have e : i = ds.length := Nat.le_antisymm hle (Nat.le_of_not_lt hi)
    subst e
    rw [List.drop_length] at run
    simp only [forLoop, Option.some.injEq] at run
    subst run
    exact .inl ⟨it'.2, k1 σ H F fp S P⟩
theorem st_while {body : List Stmt} {evt : Env → Option (Bool × Env)} {f : Env → Option Out} {n : Nat} (hp : PassesOwn (model X.prog X.w) X.A X.env X.xe) (hc : ∀ (ρ : Env) (b : Bool) (ρ2 : Env), evt ρ = some (b, ρ2) → PT X e (tT X.K iov ρ b ρ2 wc)) (hb : ∀ (ρ : Env) (o : Out), f ρ = some o → PSs X body (tS X.K iov ρ o))
    (hl : whLoop evt f n ρ = some o) : PS X (.While e body [] pos) (tS X.K iov ρ o) := by
  refine PS.imp' (ps_while hp (PT.all fun a : { p : Env × Bool × Env // evt p.1 = some p.2 } => hc a.1.1 a.1.2.1 a.1.2.2 a.2) (PSs.all fun a : { p : Env × Out // f p.1 = some p.2 } => hb a.1.1 a.1.2 a.2)) ?_
  rintro D σ H0 ⟨F0, fp0, S0, k⟩
  refine ⟨fun m σ H => ∃ F fp ρ', SR X.K iov [] F H σ ρ' fp ∧ Post F0 H0 fp0 F H fp [] true ∧ whLoop evt f m ρ' = some o, ⟨n, F0, fp0, ρ, S0, .refl S0, hl⟩, ?_⟩
  rintro m σ1 H1 ⟨F, fp, ρ', S, P, run⟩
  cases m with
  | zero => simp [whLoop] at run
  | succ m =>
    unfold whLoop at run
    cases et : evt ρ' with
    | none => simp [et] at run
    | some bt =>
      obtain ⟨c, ρ2⟩ := bt
      refine ⟨⟨(ρ', c, ρ2), et⟩, F, fp, S, fun H2 F2 fp2 S2 P2 => ?_⟩
      have P02 : Post F0 H0 fp0 F2 H2 fp2 [] true := by
        have := P.trans P2 fun _ h => (nomatch h)
        simpa using this
      cases c with
      | false =>
        simp only [et, Option.some.injEq] at run
        subst run
        exact iteF (k σ1 H2 F2 fp2 S2 P02)
      | true =>
        refine iteT ?_
        simp only [et] at run
        cases ef : f ρ2 with
        | none => simp [ef] at run
        | some r =>
          simp only [ef] at run
          refine ⟨fun σ H => ∃ F fp ρ', SR X.K iov [] F H σ ρ' fp ∧ Post F0 H0 fp0 F H fp [] true ∧ whLoop evt f m ρ' = some o, fun σ' H' w' => ⟨m, Nat.lt_succ_self m, w'⟩, ⟨(ρ2, r), ef⟩, F2, fp2, S2, ?_⟩
          cases r with
          | nx ρ4 => exact fun σ' H' F' fp' S' P' => ⟨F', fp', ρ4, S', P02.trans P' fun _ h => (nomatch h), run⟩
          | ct ρ4 => exact fun σ' H' F' fp' S' P' => ⟨F', fp', ρ4, S', P02.trans P' fun _ h => (nomatch h), run⟩
          | bk ρ4 =>
            cases run
            exact k.after P02
          | rt t ρ4 =>
            cases run
            exact k.after P02
end
end Mv

end
section
namespace Mv
open PySem PySem.Spec PyProof.Rows L2
section
variable {X : Cx} {K : PySem.W.Frag} {iov : Nat → Option V} {F F0 F1 F2 F' Fc : Addr → Prop} {H H0 H1 H2 H' : Hp} {fp fp0 fp1 fp2 fp' : Fp} {fa fb fx fpv : List Addr} {t x y : T} {v w vx vy : V} {b : Bool} {ρ ρ1 ρ2 ρ3 ρ4 ρ' : Env} {wr wa wb wc : Bool} {va vb vc : Val} {σ : L2.St} {e e1 e2 e3 tg : Expr} {es : List Expr} {pos : Pos} {as : List Val} {ds : List D} {o : Out}
def ipC (n m r : Int) : TIp := fun x y H Q => x = .int n ∧ y = .int m ∧ Q (.int r) H
theorem ip_c {op : Operator} {f : Int → Int → Int} (h : PIp X op (ipI f)) (n m : Int) : PIp X op (ipC n m (f n m)) := fun pins s σ H x y v u Q I r1 r2 ⟨e1, e2, q⟩ => h pins s σ H x y v u Q I r1 r2 ⟨n, m, e1, e2, q⟩
theorem ip_mulX {n m : Int} (h1 : okI n = true) (h2 : okI m = true) : PIp X .Mult (ipC n m (n * m)) := by
  intro pins s σ H x y v u Q I r1 r2 h
  obtain ⟨e1, e2, q⟩ := h
  subst e1; subst e2
  obtain ⟨t, rfl⟩ := r1
  obtain ⟨t', rfl⟩ := r2
  have hc : CMulX n m := by
    have := bits_okI h1
    have := bits_okI h2
    unfold CMulX; omega
  exact imul_int ⟨.int _, H, I.tok _, ⟨_, rfl⟩, q⟩ hc.ok
theorem st_aug {i : Nat} {nm : Str} {p : Pos} {op : Operator} {r n m : Int} (hN : X.N.Nodup) (hi : X.N[i]? = some nm) (hx : Loc X.env.scope nm) (hf : X.fn nm = true ∨ X.env.scope.names.lookup nm = some .local) (ho : PIp X op (ipC n m r))
    (hr : rdName ρ i = some (.t (.fz (.int n)))) (he : PE X e (tE X.K iov ρ (.t (.fz (.int m))) ρ1 wa)) (hb : bindS ρ1 i (.t (.fz (.int r))) = some ρ') :
    PS X (.AugAssign (.Name nm p) op e pos) (tS X.K iov ρ (.nx ρ')) := by
  refine PS.imp' (ps_aug hN hi hx he ho hf) ?_
  rintro D σ H ⟨F, fp, S, k⟩
  have hv : σ[i]? = some (some (.int n)) := by
    unfold rdName at hr
    split at hr
    · rename_i t e0
      obtain ⟨v, h1, h2⟩ := S.slot i _ e0 (by simp)
      cases t with
      | fz d => simp at hr; subst hr; simp only [TRep, RepD] at h2; rw [h1, h2.2]
      | lst ts => simp at hr
      | tup ts => simp at hr
      | dct ks ts => simp at hr
    · rename_i t e0
      obtain ⟨v, h1, _, h2⟩ := S.slot i _ e0 (by simp)
      cases t with
      | fz d => simp at hr; subst hr; simp only [TRep, RepD] at h2; rw [h1, h2.2]
      | lst ts => simp at hr
      | tup ts => simp at hr
      | dct ks ts => simp at hr
    · rename_i j l e0
      obtain ⟨_, h⟩ := S.slot i _ e0 (by simp)
      rcases h with h | ⟨v, a, vs, h1, h2, h3, h4, h5⟩
      · cases h
      · split at hr
        · rename_i d eg
          cases hr
          have := getPt_fz S eg (show VR X.K F H σ (.pt j (some l)) v [] from ⟨rfl, a, vs, h2, h3, h4⟩)
          simp only [TRep, RepD] at this
          rw [h1, this.2]
        · cases hr
        · cases hr
    · cases hr
  refine ⟨_, hv, F, fp, S, fun w H1 F1 fp1 fpv S1 V1 P1 => ⟨rfl, trep_int V1, ?_⟩⟩
  exact k _ H1 F1 _ (S1.bind hb (fpv := []) vr_int List.nodup_nil fun _ _ _ z => (nomatch z)) (P1.drop0.bound i)
theorem st_fin {j : Nat} {a : Addr} {o : HO} {f1 fq f3 fq' : List Addr} (P : Post F0 H0 fp0 F H fp fpv wr) (S : SR K iov [] F H σ ρ fp) (efp : fp j = f1 ++ fq ++ f3) (ha : a ∈ fq) (sub : ∀ b ∈ fq', b ∈ fq ∨ b ∈ fpv) : Post F0 H0 fp0 F (upd H a o) (updF fp j (f1 ++ fq' ++ f3)) [] true where
  sub := P.sub
  new := P.new
  keep := fun b u e h => by
    have P := P.wrT
    have k := P.keep b u e (.inr (h.resolve_left (fun z => nomatch z)))
    by_cases hb : b = a
    · subst hb
      have hj : b ∈ fp j := by rw [efp]; simp [ha]
      rcases P.fresh j b hj with ⟨i, z⟩ | z
      · exact absurd z (h.resolve_left (fun z => nomatch z) i)
      · rw [e] at z; cases z
    · rw [upd_ne hb]; exact k
  there := fun b h => by
    by_cases hb : b = a
    · subst hb; rw [upd_same]; simp
    · rw [upd_ne hb]; exact P.there b h
  fresh := fun i b hb => by
    by_cases hi : i = j
    · subst hi
      rw [updF_same] at hb
      have : b ∈ fp i ∨ b ∈ fpv := by
        rcases List.mem_append.mp hb with hb | hb
        · rcases List.mem_append.mp hb with hb | hb
          · exact .inl (by rw [efp]; simp [hb])
          · exact (sub b hb).imp (fun z => by rw [efp]; simp [z]) id
        · exact .inl (by rw [efp]; simp [hb])
      exact this.elim (P.fresh i b) (P.freshv b)
    · rw [updF_ne hi] at hb; exact P.fresh i b hb
  freshv := fun _ h => (nomatch h)
  disv := fun _ _ _ h => (nomatch h)
  nodv := List.nodup_nil
theorem sub_nodup {f1 fq f3 : List Addr} (h : (f1 ++ fq ++ f3).Nodup) : fq.Nodup := (List.nodup_append.mp (List.nodup_append.mp h).1).2.1
theorem SR.updO {j : Nat} {k : Option Nat} {y : T} {o : HO} {a : Addr} {f1 f3 fq fq' : List Addr} (S : SR K iov [] F H σ ρ fp) (P : Post F0 H0 fp0 F H fp fpv wr) (efp : fp j = f1 ++ fq ++ f3) (ha : a ∈ fq)
    (q : ∀ F' H' fq', (∀ b, F b → F' b) → (∀ b, F' b → F b ∨ b ∈ fq ∨ H b = none) → (∀ b o, H b = some o → b ∉ fq ∨ H' = H → H' b = some o) → (∀ b, F' b → H' b ≠ none) → TRep K F' H' (.ref a) y fq' → fq'.Nodup →
      (∀ b ∈ fq', b ∈ fq ∨ ∀ m, b ∉ fp m) → (k = none → ∀ (m l : Nat) (v' : V) (a' : Addr) (vs : List V), ρ[m]? = some (Slot.al j l) → V.ref a = .ref a' → H a' = some (.lst vs) → vs[l]? = some v' → ∃ vs', H' a' = some (.lst vs') ∧ vs'[l]? = some v' ∧ (F' a' ∨ a' ∈ fq')) →
      SR K iov [] F' H' σ ρ' (updF fp j (f1 ++ fq' ++ f3)))
    (hy : TRep K F (upd H a o) (.ref a) y fq') (sub : ∀ b ∈ fq', b ∈ fq ∨ b ∈ fpv) (nd : fq'.Nodup) (al : k = none → ∀ (m l : Nat) (v' : V) (vs : List V), ρ[m]? = some (Slot.al j l) → H a = some (.lst vs) → vs[l]? = some v' → ∃ vs', o = .lst vs' ∧ vs'[l]? = some v' ∧ a ∈ fq') :
    SR K iov [] F (upd H a o) σ ρ' (updF fp j (f1 ++ fq' ++ f3)) ∧ Post F0 H0 fp0 F (upd H a o) (updF fp j (f1 ++ fq' ++ f3)) [] true := by
  refine ⟨q F (upd H a o) fq' (fun _ h => h) (fun _ h => .inl h) (fun b u e h => ?_) (fun b hb => ?_) hy nd (fun b hb => (sub b hb).imp id fun z m hm => P.disv m b hm z) fun hk m l v' a' vs1 e1 e2 e3 e4 => ?_, st_fin P S efp ha sub⟩
  · rcases h with h | h
    · rw [upd_ne (by rintro rfl; exact h ha)]; exact e
    · rw [h]; exact e
  · by_cases hb' : b = a
    · subst hb'; rw [upd_same]; simp
    · rw [upd_ne hb']; exact S.trk b hb
  · cases e2
    obtain ⟨vs', r1, r2, r3⟩ := al hk m l v' vs1 e1 e3 e4
    exact ⟨vs', by rw [upd_same, r1], r2, .inr r3⟩
theorem tl {f1 f3 fr : List Addr} {a : Addr} (h : (f1 ++ (a :: fr) ++ f3).Nodup) : a ∉ fr ∧ fr.Nodup := List.nodup_cons.mp (sub_nodup h)
theorem stands_f {v : Val} : stands v false = true := by
  cases v with
  | t t => rfl
  | pt i k => cases k <;> rfl
theorem aside {a : Addr} {o : HO} {ts : List T} {vs : List V} {fr : List Addr} (h : TReps K F H vs ts fr) (nF : ¬ F a) (na : a ∉ fr) : TReps K F (upd H a o) vs ts fr :=
  TReps.mono (fun _ h => h) ts vs fr (fun b hb => (TReps.fps ts vs fr h b hb).1) (fun b u hb e => by rw [upd_ne (by rintro rfl; exact hb.elim nF na)]; exact e) h
theorem aside1 {a : Addr} {o : HO} {t : T} {v : V} {fr : List Addr} (h : TRep K F H v t fr) (nF : ¬ F a) (na : a ∉ fr) : TRep K F (upd H a o) v t fr :=
  TRep.mono (fun _ h => h) t v fr (fun b hb => (TRep.fps t v fr h b hb).1) (fun b u hb e => by rw [upd_ne (by rintro rfl; exact hb.elim nF na)]; exact e) h
theorem st_app {j : Nat} {k : Option Nat} {p1 p2 : Pos} {ts1 : List T} (hp : plainE e2 = true) (hbase : attributeBase e1 "append" X.env (eval e1 X.env) = eval e1 X.env)
    (hline : (p1.endLine == p2.line) = true) (ha : PE X e1 (tE X.K iov ρ (.pt j k) ρ1 wa)) (hl : getPt ρ1 j k = some (.lst ts1)) (hc : PE X e2 (tE X.K iov ρ1 vc ρ2 wb)) (hz : fzVal ρ2 vc = some (t, ρ3)) (st : stands (.pt j k) wb = true) (hg : getPt ρ3 j k = some x) (hap : appT x t = some y) (hs : setPt ρ3 j k y = some ρ') :
    PS X (.Expr (.Call (.Attribute e1 "append" p1) [e2] [] p2) pos) (tS X.K iov ρ (.nx ρ')) := by
  have hse : starEach [e2] X.env = (false, eval e2 X.env) :: starEach [] X.env := star_plain hp _
  refine PS.imp' (ps_expr (pe_bm PySem.F.plainAttrs_list PySem.F.slot_list_append PySem.F.type_list_append mt_append ha (a_cons (iov := iov) hp hc a_nil stands_f) hbase (by rw [hse]; rfl) hline hse rfl) rfl) ?_
  rintro D σ H ⟨F, fp, S, kk⟩
  refine ⟨F, fp, S, fun wv H1 F1 fp1 fa S1 V1 P1 => ?_⟩
  have e0 : fa = [] := by cases k <;> exact V1.1
  subst e0
  refine ⟨?_, F1, fp1, S1, fun vs H2 F2 fp2 fb S2 V2 P2 => ?_⟩
  · obtain ⟨_, fq, _, _, r⟩ := S1.gtPt hl V1
    simp only [TRep] at r
    obtain ⟨a, vs, fr, rfl, _, _, hH, _⟩ := r
    exact .inl ⟨rfl, vs, .inl (.inl hH)⟩
  · cases vs with
    | nil => exact V2.elim
    | cons cv vs =>
    cases vs with
    | cons _ _ => obtain ⟨_, _, _, _, V2⟩ := V2; exact V2.elim
    | nil =>
    obtain ⟨g1, g2, rfl, V2, e2⟩ := V2
    have e2 : g2 = [] := e2
    subst e2
    obtain ⟨F3, fp3, S3, tz, Z⟩ := S2.fzV hz V2
    have P2' : Post F1 H1 fp1 F2 H2 fp2 g1 wb := by simpa using P2
    have tv : TRep X.K F3 H2 cv t g1 := by
      rcases tz with tz | tz
      · exact Z.tmp tz P2'.disv
      · exact tz.1
    have V3 : VR X.K F3 H2 σ (.pt j k) wv [] := (V1.step P2' (fun i b hb => (S1.fpF i b hb).1) (fun _ _ _ z => (nomatch z)) st).fz Z fun _ _ _ z => (nomatch z)
    have P3 : Post F H fp F3 H2 fp3 g1 (wa || wb) := by
      have := (P1.trans P2' fun _ h => (nomatch h)).fz Z
      simpa using this
    obtain ⟨f1, fq, f3, efp, ek, tr, q⟩ := S3.stPt hg V3 hs
    have nd := S3.nod j
    cases x with
    | fz d => simp [appT] at hap
    | tup ts => simp [appT] at hap
    | dct ks ts => simp [appT] at hap
    | lst ts =>
      simp only [appT] at hap
      split at hap
      · rename_i hlt
        cases hap
        simp only [TRep] at tr
        obtain ⟨a, vs, fr, rfl, rfl, nF, hH, hr⟩ := tr
        rw [efp] at nd
        have na := tl nd
        have nv : a ∉ g1 := P3.disv j a (by rw [efp]; simp)
        have lt : vs.length < sizeLine := by rw [hr.len]; simpa using hlt
        obtain ⟨S4, P4⟩ := S3.updO (o := .lst (vs ++ [cv])) (fq' := a :: (fr ++ g1)) P3 efp (by simp) q (by simp only [TRep]; exact ⟨a, _, _, rfl, rfl, nF, upd_same, (aside hr nF na.1).snoc (aside1 tv nF nv)⟩) (fun b hb => by simp at hb ⊢; rcases hb with hb | hb | hb <;> simp [hb])
          (List.nodup_cons.mpr ⟨by simp [na.1, nv], List.nodup_append.mpr ⟨na.2, P3.nodv, fun b hb c hc e => by subst e; exact P3.disv j b (by rw [efp]; simp [hb]) hc⟩⟩)
          (fun _ m l v' vs1 _ e1 e => by rw [hH] at e1; cases e1; exact ⟨_, rfl, by rw [List.getElem?_append_left (List.getElem?_eq_some_iff.mp e).1]; exact e, by simp⟩)
        exact ⟨a, vs, cv, rfl, rfl, hH, lt, kk σ _ F3 _ S4 P4⟩
      · cases hap
theorem zip_put {k : Key} {v : V} : ∀ {ks : List Key} {vs : List V} {n0 n : Nat}, vs.length = ks.length → placeK k ks n0 = some n → ks.Nodup → n0 ≤ n ∧ n - n0 < ks.length ∧ putK (ks.zip vs) k v = ks.zip (vs.set (n - n0) v)
  | [], _, n0, n, _, h, _ => by simp [placeK] at h
  | k' :: ks, [], n0, n, hl, _, _ => by simp at hl
  | k' :: ks, v' :: vs, n0, n, hl, h, nd => by
    unfold placeK at h
    split at h
    · rename_i e
      cases h; subst e
      refine ⟨Nat.le_refl _, by simp, ?_⟩
      have rest : ∀ (ks : List Key) (vs : List V), k' ∉ ks → (ks.zip vs).map (fun kv => if kv.1 = k' then (kv.1, v) else kv) = ks.zip vs := fun ks => by
        induction ks with
        | nil => intro vs _; rfl
        | cons q ks ih =>
          intro vs hq
          cases vs with
          | nil => rfl
          | cons w vs =>
            simp only [List.zip_cons_cons, List.map_cons]
            rw [if_neg (by rintro rfl; simp at hq), ih vs (by simp at hq; exact hq.2)]
      unfold putK
      rw [if_pos (by simp)]
      simp only [List.zip_cons_cons, List.map_cons, if_true, Nat.sub_self, List.set_cons_zero]
      rw [rest ks vs (List.nodup_cons.mp nd).1]
    · rename_i e
      obtain ⟨h1, h2, h3⟩ := zip_put (v := v) (vs := vs) (by simpa using hl) h (List.nodup_cons.mp nd).2
      have e1 : n - n0 = (n - (n0 + 1)) + 1 := by omega
      refine ⟨by omega, by simp; omega, ?_⟩
      rw [e1]
      simp only [List.zip_cons_cons, List.set_cons_succ]
      rw [← h3]
      unfold putK
      by_cases a : ((ks.zip vs).any fun kv => decide (kv.1 = k)) = true
      · rw [if_pos a, if_pos (by simp only [List.any_cons, a, Bool.or_true])]
        simp only [List.map_cons, if_neg e]
      · rw [if_neg a, if_neg (by simp only [List.any_cons, decide_eq_false e, Bool.false_or]; exact a)]
        rfl
theorem zip_new {k : Key} {v : V} : ∀ {ks : List Key} {vs : List V} {n0 : Nat}, vs.length = ks.length → placeK k ks n0 = none → k ∉ ks ∧ putK (ks.zip vs) k v = (ks ++ [k]).zip (vs ++ [v])
  | [], [], _, _, _ => ⟨by simp, by simp [putK]⟩
  | [], _ :: _, _, hl, _ => by simp at hl
  | _ :: _, [], _, hl, _ => by simp at hl
  | k' :: ks, v' :: vs, n0, hl, h => by
    unfold placeK at h
    split at h
    · cases h
    · rename_i e
      obtain ⟨h1, h2⟩ := zip_new (v := v) (vs := vs) (by simpa using hl) h
      refine ⟨by simp [h1]; exact fun z => e z.symm, ?_⟩
      have a : ((ks.zip vs).any fun kv => decide (kv.1 = k)) = false := by
        rw [List.any_eq_false]
        intro p hp
        have := List.of_mem_zip hp
        simp only [decide_eq_true_eq]
        rintro rfl
        exact h1 this.1
      unfold putK at h2 ⊢
      rw [if_neg (by rw [a]; simp)] at h2
      rw [if_neg (by simp only [List.zip_cons_cons, List.any_cons, decide_eq_false e, Bool.false_or, a]; simp)]
      simp only [List.zip_cons_cons, List.cons_append]
      rw [h2]
theorem TReps.getV : ∀ {ts : List T} {vs : List V} {fq : List Addr} {k : Nat}, TReps K F H vs ts fq → k < ts.length → ∃ t v, ts[k]? = some t ∧ vs[k]? = some v := fun {ts vs fq k} h hk =>
  ⟨ts[k], vs[k]'(by rw [h.len]; exact hk), List.getElem?_eq_getElem hk, List.getElem?_eq_getElem _⟩
theorem sto_T (hu : X.A.units + 1 < cLine) {i y : T} {j : Nat} {k : Option Nat} {iv cv wv : V} {g : List Addr} (S : SR X.K iov [] F H σ ρ fp) (V : VR X.K F H σ (.pt j k) wv []) (ri : ∃ fi, TRep X.K F H iv i fi) (tv : TRep X.K F H cv t g) (P : Post F0 H0 fp0 F H fp g wr)
    (hg : getPt ρ j k = some x) (hx : setIx x i t = some y) (hs : setPt (kIx ρ j k x i) j k y = some ρ') :
    ∃ a o, wv = .ref a ∧ ((∃ ts, x = .lst ts) ∧ (∃ vs n, iv = .int n ∧ H a = some (.lst vs) ∧ ∃ l, ixN vs.length n = some l ∧ o = .lst (vs.set l cv)) ∨ (∃ ks ts, x = .dct ks ts) ∧ DPut H a iv cv (upd H a o)) ∧
      ∃ fp', SR X.K iov [] F (upd H a o) σ ρ' fp' ∧ Post F0 H0 fp0 F (upd H a o) fp' [] true := by
  obtain ⟨fi, ri⟩ := ri
  have S' : SR X.K iov [] F H σ (kIx ρ j k x i) fp := by
    cases k with
    | none => exact S.kls j _
    | some k => exact S
  have hg' : getPt (kIx ρ j k x i) j k = some x := by
    cases k with
    | none => exact (getPt_kills _ _ _ _ _).trans hg
    | some k => exact hg
  have noal : k = none → ∀ (m l : Nat), (kIx ρ j k x i)[m]? = some (Slot.al j l) → ∃ n, ixPlace x i = some n ∧ n ≠ l := fun hk m l e => by
    subst hk
    unfold kIx at e
    rw [kills_get] at e
    obtain ⟨s, e1, e2⟩ := Option.map_eq_some_iff.mp e
    obtain ⟨_, e4⟩ := kill_al e2
    cases hp : ixPlace x i with
    | none => exact absurd ⟨rfl, .inl hp⟩ e4
    | some n => exact ⟨n, rfl, fun z => e4 ⟨rfl, .inr (by rw [hp, z])⟩⟩
  generalize kIx ρ j k x i = ρ0 at S' hg' hs noal
  clear hg S
  obtain ⟨f1, fq, f3, efp, ek, tr, q⟩ := S'.stPt hg' V hs
  have nd := S'.nod j
  rw [efp] at nd
  cases x with
  | fz d => simp [setIx] at hx
  | tup ts => simp [setIx] at hx
  | lst ts =>
    cases i with
    | fz d =>
      cases d with
      | int n =>
        simp only [setIx] at hx
        split at hx
        · rename_i l hl
          cases hx
          have ei := trep_int ri
          subst ei
          simp only [TRep] at tr
          obtain ⟨a, vs, fr, rfl, rfl, nF, hH, hr⟩ := tr
          have na := tl nd
          have nv : a ∉ g := P.disv j a (by rw [efp]; simp)
          have hl2 : l < ts.length := by
            have := hl
            unfold place ixN at this
            split at this <;> split at this <;> cases this <;> omega
          obtain ⟨t0, v0, h1, h2⟩ := hr.getV hl2
          obtain ⟨g1, g2, g3, e3, _, up⟩ := TReps.upd hr h1 h2
          have sg : ∀ b, b ∈ g1 ∨ b ∈ g3 → b ∈ fr := fun b hb => by rw [e3]; rcases hb with hb | hb <;> simp [hb]
          have hr' := up F (upd H a (.lst (vs.set l cv))) cv t g (fun _ h => h) (fun b hb => (TReps.fps ts vs fr hr b (sg b hb)).1)
            (fun b o hb e => by rw [upd_ne (by rintro rfl; rcases hb with hb | hb; exact nF hb; exact na.1 (sg _ hb))]; exact e) (aside1 tv nF nv)
          have n3 := na.2
          rw [e3] at n3
          have n4 := List.nodup_append.mp n3
          have n5 := List.nodup_append.mp n4.1
          have dg : ∀ b, b ∈ fr → b ∉ g := fun b hb => P.disv j b (by rw [efp]; simp [hb])
          obtain ⟨S4, P4⟩ := S'.updO (o := .lst (vs.set l cv)) (fq' := a :: (g1 ++ g ++ g3)) P efp (by simp) q (by simp only [TRep]; exact ⟨a, _, _, rfl, rfl, nF, upd_same, hr'⟩)
            (fun b hb => by simp [e3] at hb ⊢; rcases hb with hb | hb | hb | hb <;> simp [hb])
            (List.nodup_cons.mpr ⟨by
                intro z
                simp only [List.mem_append] at z
                rcases z with (z | z) | z
                · exact na.1 (sg a (.inl z))
                · exact nv z
                · exact na.1 (sg a (.inr z)), List.nodup_append.mpr ⟨List.nodup_append.mpr ⟨n5.1, P.nodv, fun b hb c hc e => by subst e; exact dg b (sg b (.inl hb)) hc⟩, n4.2.1, fun b hb c hc e => by
                  subst e
                  rcases List.mem_append.mp hb with hb | hb
                  · exact n4.2.2 b (by simp [hb]) b hc rfl
                  · exact dg b (sg b (.inr hc)) hb⟩⟩)
            (fun hk m l' v' vs1 e0 e1 e => by
              rw [hH] at e1; cases e1
              obtain ⟨n', en, hne⟩ := noal hk m l' e0
              have : l = n' := by rw [show ixPlace (.lst ts) (.fz (.int n)) = place n ts.length from rfl, hl] at en; exact Option.some.inj en
              subst this
              exact ⟨_, rfl, by rw [List.getElem?_set_ne hne]; exact e, by simp⟩)
          exact ⟨a, _, rfl, .inl ⟨⟨ts, rfl⟩, vs, n, rfl, hH, l, by rw [hr.len]; exact hl, rfl⟩, _, S4, P4⟩
        · cases hx
      | _ => simp [setIx] at hx
    | _ => simp [setIx] at hx
  | dct ks ts =>
    cases i with
    | fz d =>
      simp only [setIx] at hx
      split at hx
      · rename_i kk d' hk hd
        have td : t = .fz d' := by
          cases t with
          | fz z => simp [T.unfz] at hd; rw [hd]
          | lst _ => simp [T.unfz] at hd
          | tup _ => simp [T.unfz] at hd
          | dct _ _ => simp [T.unfz] at hd
        subst td
        have eiv : iv = kV kk := by
          simp only [TRep] at ri
          exact keyOf_rep hk ri.2
        subst eiv
        have eg : g = [] := by simp only [TRep] at tv; exact tv.1
        subst eg
        simp only [TRep] at tr
        obtain ⟨a, vs, fr, rfl, rfl, nF, hH, hlen, nk, hr⟩ := tr
        have na := tl nd
        split at hx
        · rename_i n hn
          split at hx
          · rename_i hlt
            cases hx
            obtain ⟨_, h2, h3⟩ := zip_put (v := cv) hlen hn nk
            simp only [Nat.sub_zero] at h2 h3
            obtain ⟨t0, v0, h4, h5⟩ := hr.getV (k := n) (by rw [← hr.len, hlen]; exact h2)
            obtain ⟨g1, g2, g3, e3, _, up⟩ := TReps.upd hr h4 h5
            have sg : ∀ b, b ∈ g1 ∨ b ∈ g3 → b ∈ fr := fun b hb => by rw [e3]; rcases hb with hb | hb <;> simp [hb]
            have hr' := up F (upd H a (.dK (ks.zip (vs.set n cv)))) cv (.fz d') [] (fun _ h => h) (fun b hb => (TReps.fps ts vs fr hr b (sg b hb)).1)
              (fun b o hb e => by rw [upd_ne (by rintro rfl; rcases hb with hb | hb; exact nF hb; exact na.1 (sg _ hb))]; exact e) (aside1 tv nF (by simp))
            have n3 := na.2
            rw [e3] at n3
            have n4 := List.nodup_append.mp n3
            have n5 := List.nodup_append.mp n4.1
            obtain ⟨S4, P4⟩ := S'.updO (o := .dK (ks.zip (vs.set n cv))) (fq' := a :: (g1 ++ [] ++ g3)) P efp (by simp) q (by simp only [TRep]; exact ⟨a, _, _, rfl, rfl, nF, upd_same, by simp [hlen], nk, hr'⟩)
              (fun b hb => by simp [e3] at hb ⊢; rcases hb with hb | hb | hb <;> simp [hb])
              (List.nodup_cons.mpr ⟨by
                  intro z
                  simp only [List.append_nil, List.mem_append] at z
                  exact na.1 (sg a z), List.nodup_append.mpr ⟨by simpa using n5.1, n4.2.1, fun b hb c hc e => by
                    subst e
                    exact n4.2.2 b (by simp at hb; simp [hb]) b hc rfl⟩⟩)
              (fun hk m l' v' vs1 e0 e1 e => by rw [hH] at e1; cases e1)
            refine ⟨a, _, rfl, .inr ⟨⟨ks, ts, rfl⟩, ?_⟩, _, S4, P4⟩
            rw [← h3]
            exact DPut.k hH (by rw [List.length_zip, hlen, Nat.min_self]; simpa using hlt)
          · cases hx
        · rename_i hn
          split at hx
          · rename_i hlt
            cases hx
            obtain ⟨h1, h3⟩ := zip_new (v := cv) hlen hn
            obtain ⟨S4, P4⟩ := S'.updO (o := .dK ((ks ++ [kk]).zip (vs ++ [cv]))) (fq' := a :: (fr ++ [])) P efp (by simp) q (by simp only [TRep]; exact ⟨a, _, _, rfl, rfl, nF, upd_same, by simp [hlen], by
                  rw [List.nodup_append]; exact ⟨nk, by simp, fun b hb c hc e => by simp at hc; subst hc e; exact h1 hb⟩, (aside hr nF na.1).snoc (aside1 tv nF (by simp))⟩)
              (fun b hb => by simp at hb ⊢; rcases hb with hb | hb <;> simp [hb])
              (by simp; exact ⟨na.1, na.2⟩)
              (fun hk m l' v' vs1 e0 e1 e => by rw [hH] at e1; cases e1)
            refine ⟨a, _, rfl, .inr ⟨⟨ks, ts, rfl⟩, ?_⟩, _, S4, P4⟩
            rw [← h3]
            exact DPut.k hH (by rw [List.length_zip, hlen, Nat.min_self]; simpa using hlt)
          · cases hx
      · cases hx
    | _ => simp [setIx] at hx
theorem PS.cases {st : Stmt} {t : TS} {p : Prop} [Decidable p] (h1 : p → PS X st t) (h2 : ¬ p → PS X st t) : PS X st t := if h : p then h1 h else h2 h
def noSl : Expr → Bool
  | .Slice _ _ _ _ => false
  | _ => true
theorem st_sto (hu : X.A.units + 1 < cLine) {i : T} {j : Nat} {k : Option Nat} {p : Pos} (hn : noSl e2 = true) (hsw : swapsWith e3 (some (.Subscript e1 e2 p)) pos.line X.env = pure false) (hv : PE X e3 (tE X.K iov ρ vc ρ1 wa)) (hz : fzVal ρ1 vc = some (t, ρ2)) (ho : PE X e1 (tE X.K iov ρ2 (.pt j k) ρ3 wb)) (hi : PE X e2 (tE X.K iov ρ3 (.t i) ρ4 wc))
    (st : stands (.pt j k) wc = true) (hg : getPt ρ4 j k = some x) (hx : setIx x i t = some y) (hs : setPt (kIx ρ4 j k x i) j k y = some ρ') : PS X (.Assign [.Subscript e1 e2 p] e3 pos) (tS X.K iov ρ (.nx ρ')) := by
  have ha : ∀ v, assign (.Subscript e1 e2 p) X.env v = (do
      let ov ← holding [v] (eval e1 X.env)
      let iv ← holding [v, ov] (eval e2 X.env)
      standAt p
      holding [v, ov, iv] (setItem ov iv v)
      release [v, ov, iv] []) := by
    intro v
    cases e2 <;> first | rfl | cases hn
  have go : ∀ {D : Ends} {σ : L2.St} {H : Hp} (R : V → V → V → Hp → Prop), tS X.K iov ρ (.nx ρ') D σ H → (∀ (a : Addr) (o : HO) (iv cv : V) (H : Hp), ((∃ ts, x = .lst ts) ∧ (∃ vs n, iv = .int n ∧ H a = some (.lst vs) ∧ ∃ l, ixN vs.length n = some l ∧ o = .lst (vs.set l cv)) ∨ (∃ ks ts, x = .dct ks ts) ∧ DPut H a iv cv (upd H a o)) → D.nx σ (upd H a o) → R cv (.ref a) iv H) →
      tE X.K iov ρ vc ρ1 wa σ H fun cv H1 => tE X.K iov ρ2 (.pt j k) ρ3 wb σ H1 fun wv H2 => tE X.K iov ρ3 (.t i) ρ4 wc σ H2 fun iv H3 => R cv wv iv H3 := by
    rintro D σ H R ⟨F, fp, S, kk⟩ hR
    refine ⟨F, fp, S, fun cv H1 F1 fp1 g S1 V1 P1 => ?_⟩
    obtain ⟨F2, fp2, S2, tz, Z⟩ := S1.fzV hz V1
    have tv : TRep X.K F2 H1 cv t g := by
      rcases tz with tz | tz
      · exact Z.tmp tz P1.disv
      · exact tz.1
    have P2 := P1.fz Z
    refine ⟨F2, fp2, S2, fun wv H3 F3 fp3 fb S3 V3 P3 => ?_⟩
    have e0 : fb = [] := by cases k <;> exact V3.1
    subst e0
    have tv3 := P3.tmp (fun i b hb => (S2.fpF i b hb).1) tv P2.disv
    have P03 : Post F H fp F3 H3 fp3 g (wa || wb) := by
      have := P2.trans P3 (TRep.fps t cv g tv)
      simpa using this
    refine ⟨F3, fp3, S3, fun iv H4 F4 fp4 fi S4 V4 P4 => ?_⟩
    have V34 := V3.step P4 (fun i b hb => (S3.fpF i b hb).1) (fun _ _ _ z => (nomatch z)) st
    have tv4 := P4.tmp (fun i b hb => (S3.fpF i b hb).1) tv3 P03.disv
    have P04 : Post F H fp F4 H4 fp4 g ((wa || wb) || wc) := by
      have z := P03.trans P4 (TRep.fps t cv g tv3)
      have z2 : Post F H fp F4 H4 fp4 ([] ++ (g ++ fi)) ((wa || wb) || wc) := z
      exact z.part ⟨[], fi, by simp⟩
    obtain ⟨a, o, rfl, h1, fp5, S5, P5⟩ := sto_T hu S4 V34 ⟨fi, V4⟩ tv4 P04 hg hx hs
    exact hR a o iv cv H4 h1 (kk σ _ F4 fp5 S5 P5)
  cases x with
  | lst ts =>
    refine PS.imp' (ps_asg hv (pg_sub ho hi set_list ha) hsw rfl rfl) ?_
    intro D σ H h
    refine go (fun cv wv iv H => rSetL wv iv cv H fun H3 => D.nx σ H3) h fun a o iv cv H h1 h2 => ?_
    rcases h1 with ⟨_, vs, n, rfl, hH, l, hl, rfl⟩ | ⟨⟨ks, ts, z⟩, _⟩
    · exact ⟨a, vs, n, l, rfl, rfl, hH, hl, h2⟩
    · cases z
  | dct ks ts =>
    refine PS.imp' (ps_asg hv (pg_sub ho hi (set_dict hu) ha) hsw rfl rfl) ?_
    intro D σ H h
    refine go (fun cv wv iv H => rSetD wv iv cv H fun H3 => D.nx σ H3) h fun a o iv cv H h1 h2 => ?_
    rcases h1 with ⟨⟨ts, z⟩, _⟩ | ⟨_, h1⟩
    · cases z
    · exact ⟨a, _, rfl, h1, h2⟩
  | fz d => simp [setIx] at hx
  | tup ts => simp [setIx] at hx
end
end Mv

end
section
namespace Mv
open PySem PySem.Spec PyProof.Rows L2
section
variable {X : Cx} {K : PySem.W.Frag} {iov : Nat → Option V} {F F0 F1 F2 F' Fc : Addr → Prop} {H H0 H1 H2 H' : Hp} {fp fp0 fp1 fp2 fp' : Fp} {fa fb fx fpv : List Addr} {t x y : T} {v w vx vy : V} {b : Bool} {ρ ρ1 ρ2 ρ3 ρ4 ρ' : Env} {wr wa wb wc : Bool} {va vb vc : Val} {σ : L2.St} {e e1 e2 e3 tg : Expr} {es : List Expr} {pos : Pos} {as : List Val} {ds : List D} {o : Out}
def tGT (K : PySem.W.Frag) (iov : Nat → Option V) (ρ : Env) (ts : List T) (ρ' : Env) : TGs := fun vs σ H Q => ∃ F fp fq, SR K iov [] F H σ ρ fp ∧ TReps K F H vs ts fq ∧ fq.Nodup ∧ (∀ i b, b ∈ fp i → b ∉ fq) ∧
  ∀ σ' fp', SR K iov [] F H σ' ρ' fp' → (∀ i b, b ∈ fp' i → b ∈ fp i ∨ b ∈ fq) → Q σ' H
theorem gt_go : ∀ {is : List Nat} {es : List Expr} {ts : List T} {ρ ρ' : Env}, is.length = es.length → bindTs ρ is ts = some ρ' → X.N.Nodup →
    (∀ (n i : Nat) (e : Expr), is[n]? = some i → es[n]? = some e → ∃ nm p, e = .Name nm p ∧ X.N[i]? = some nm ∧ Loc X.env.scope nm ∧ (X.fn nm = true ∨ X.env.scope.names.lookup nm = some .local)) → PGs X es (tGT X.K iov ρ ts ρ')
  | [], [], [], ρ, ρ', _, h, _, _ => by
    simp only [bindTs, Option.some.injEq] at h
    subst h
    refine PGs.imp' pgs_nil ?_
    rintro vs σ H Q ⟨F, fp, fq, S, r, nd, dj, k⟩
    cases vs with
    | nil => exact ⟨rfl, k σ fp S (fun _ _ h => .inl h)⟩
    | cons v vs => simp only [TReps] at r
  | [], _, _ :: _, _, _, _, h, _, _ => by simp [bindTs] at h
  | _ :: _, _, [], _, _, _, h, _, _ => by simp [bindTs] at h
  | [], _ :: _, _, _, _, h, _, _, _ => by simp at h
  | _ :: _, [], _, _, _, h, _, _, _ => by simp at h
  | i :: is, e :: es, t :: ts, ρ, ρ', hl, h, hN, hx => by
    obtain ⟨ρ1, e1, e2⟩ := Option.bind_eq_some_iff.mp h
    obtain ⟨nm, p, rfl, h1, h2, h3⟩ := hx 0 i e rfl rfl
    have g1 := pg_name (X := X) (pos := p) hN h1 h2 h3
    have g2 := gt_go (by simpa using hl) e2 hN fun n j e q1 q2 => hx (n + 1) j e (by simpa using q1) (by simpa using q2)
    refine PGs.imp' (pgs_cons g1 g2 rfl) ?_
    rintro vs σ H Q ⟨F, fp, fq, S, r, nd, dj, k⟩
    cases vs with
    | nil => simp only [TReps] at r
    | cons v vs =>
      simp only [TReps] at r
      obtain ⟨f1, f2, rfl, r1, r2⟩ := r
      have nd' := List.nodup_append.mp nd
      refine ⟨v, vs, rfl, F, updF fp i f1, f2, S.bind e1 (show VR X.K F H σ (.t t) v f1 from r1) nd'.1 (fun j b hb z => dj j b hb (by simp [z])), r2, nd'.2.1, fun j b hb z => ?_, fun σ2 fp2 S2 le2 => k σ2 fp2 S2 fun j b hb => ?_⟩
      · by_cases hj : j = i
        · subst hj; rw [updF_same] at hb; exact nd'.2.2 b hb b z rfl
        · rw [updF_ne hj] at hb; exact dj j b hb (by simp [z])
      · rcases le2 j b hb with z | z
        · by_cases hj : j = i
          · subst hj; rw [updF_same] at z; exact .inr (by simp [z])
          · rw [updF_ne hj] at z; exact .inl z
        · exact .inr (by simp [z])
theorem fzs_rep : ∀ {ds : List D} {vs : List V}, RepDs K F H vs ds → TReps K F H vs (fzs ds) []
  | [], [], _ => by show TReps K F H [] [] []; simp only [TReps]
  | [], _ :: _, h => by simp only [RepDs] at h
  | _ :: _, [], h => by simp only [RepDs] at h
  | d :: ds, v :: vs, h => by
    simp only [RepDs] at h
    show TReps K F H (v :: vs) (.fz d :: fzs ds) []
    simp only [TReps, TRep]
    exact ⟨[], [], rfl, ⟨rfl, h.1⟩, fzs_rep h.2⟩
def tupTs : T → Option (List T)
  | .fz (.tup ds) => some (fzs ds)
  | .fz (.ltp ds) => some (fzs ds)
  | .tup ts => some ts
  | _ => none
theorem tupTs_rep {t : T} {ts : List T} (e : tupTs t = some ts) (h : TRep K F H v t fpv) : ∃ a vs fq, v = .ref a ∧ SqT K H a vs ∧ TReps K F H vs ts fq ∧ (∃ f1, fpv = f1 ++ fq) := by
  cases t with
  | fz d =>
    cases d with
    | tup ds =>
      cases e
      simp only [TRep, RepD] at h
      obtain ⟨rfl, a, vs, rfl, hl, hr⟩ := h
      exact ⟨a, vs, [], rfl, hl.sq, fzs_rep hr, [], rfl⟩
    | ltp ds =>
      cases e
      simp only [TRep, RepD] at h
      obtain ⟨rfl, a, vs, rfl, _, hl, hr⟩ := h
      exact ⟨a, vs, [], rfl, .inl hl, fzs_rep hr, [], rfl⟩
    | _ => simp [tupTs] at e
  | tup ts =>
    cases e
    simp only [TRep] at h
    obtain ⟨a, vs, fq, rfl, rfl, nF, ⟨o, _, ha⟩, hr⟩ := h
    exact ⟨a, vs, fq, rfl, .inl (.inr ⟨o, ha⟩), hr, [a], rfl⟩
  | _ => simp [tupTs] at e
theorem bindTs_len : ∀ {is : List Nat} {ts : List T} {ρ ρ' : Env}, bindTs ρ is ts = some ρ' → is.length = ts.length
  | [], [], _, _, _ => rfl
  | [], _ :: _, _, _, h => by simp [bindTs] at h
  | _ :: _, [], _, _, h => by simp [bindTs] at h
  | i :: is, t :: ts, ρ, ρ', h => by
    obtain ⟨ρ1, e1, e2⟩ := Option.bind_eq_some_iff.mp h
    simp [bindTs_len e2]
theorem st_setT {is : List Nat} {kk : Nat} {p : Pos} {ts : List T} (hc : X.calm = true) (hN : X.N.Nodup) (hl : is.length = es.length) (hlen : (assignEach es X.env).length = es.length) (hst : (assignEach es X.env).findIdx? (·.1) = none)
    (hx : ∀ (n i : Nat) (e : Expr), is[n]? = some i → es[n]? = some e → ∃ nm p, e = .Name nm p ∧ X.N[i]? = some nm ∧ Loc X.env.scope nm ∧ (X.fn nm = true ∨ X.env.scope.names.lookup nm = some .local))
    (hs : swapsWithSole [.Tuple es kk p] e pos.line X.env = pure false) (hw : swappedStores [.Tuple es kk p] e X.env = pure none) (he : PE X e (tE X.K iov ρ (.t t) ρ1 wa)) (ht : tupTs t = some ts) (hb : bindTs ρ1 is ts = some ρ') :
    PS X (.Assign [.Tuple es kk p] e pos) (tS X.K iov ρ (.nx ρ')) := by
  refine PS.imp' (ps_asg he (pg_tup hc (gt_go (iov := iov) hl hb hN hx) hlen hst) hs hw rfl) ?_
  rintro D σ H ⟨F, fp, S, k⟩
  refine ⟨F, fp, S, fun v H1 F1 fp1 fpv S1 V1 P1 => ?_⟩
  obtain ⟨a, vs, fq, rfl, hq, hr, f1, rfl⟩ := tupTs_rep ht (show TRep X.K F1 H1 v t fpv from V1)
  refine ⟨a, vs, rfl, hq, ?_, F1, fp1, fq, S1, hr, (List.nodup_append.mp P1.nodv).2.1, fun i b hb z => P1.disv i b hb (by simp [z]), fun σ' fp' S' le => k σ' H1 F1 fp' S' ?_⟩
  · rw [hr.len, ← bindTs_len hb, hl]
  · have P := P1.wrT
    exact ⟨P.sub, P.new, P.keep, P.there, fun i b hb => (le i b hb).elim (P.fresh i b) fun z => P.freshv b (by simp [z]), fun _ h => (nomatch h), fun _ _ _ h => (nomatch h), List.nodup_nil⟩
theorem st_setL {is : List Nat} {kk : Nat} {p : Pos} {ds : List D} (hc : X.calm = true) (hN : X.N.Nodup) (hl : is.length = es.length) (hlen : (assignEach es X.env).length = es.length) (hst : (assignEach es X.env).findIdx? (·.1) = none)
    (hx : ∀ (n i : Nat) (e : Expr), is[n]? = some i → es[n]? = some e → ∃ nm p, e = .Name nm p ∧ X.N[i]? = some nm ∧ Loc X.env.scope nm ∧ (X.fn nm = true ∨ X.env.scope.names.lookup nm = some .local))
    (hs : swapsWithSole [.Tuple es kk p] e pos.line X.env = pure false) (hw : swappedStores [.Tuple es kk p] e X.env = pure none) (he : PE X e (tE X.K iov ρ (.t t) ρ1 wa)) (ht : t.flat = some ds) (hb : bindTs ρ1 is (fzs ds) = some ρ') :
    PS X (.Assign [.Tuple es kk p] e pos) (tS X.K iov ρ (.nx ρ')) := by
  refine PS.imp' (ps_asg he (pg_lst hc (gt_go (iov := iov) hl hb hN hx) hlen hst) hs hw rfl) ?_
  rintro D σ H ⟨F, fp, S, k⟩
  refine ⟨F, fp, S, fun v H1 F1 fp1 fpv S1 V1 P1 => ?_⟩
  obtain ⟨a, vs, rfl, hq, hr⟩ := flat_rep ht (show TRep X.K F1 H1 v t fpv from V1)
  refine ⟨a, vs, rfl, hq, ?_, F1, fp1, [], S1, fzs_rep hr, List.nodup_nil, fun i b hb z => (nomatch z), fun σ' fp' S' le => k σ' H1 F1 fp' S' ?_⟩
  · have := bindTs_len hb
    unfold fzs at this
    rw [List.length_map] at this
    rw [hr.len, ← this, hl]
  · have P := P1.drop0.wrT
    exact ⟨P.sub, P.new, P.keep, P.there, fun i b hb => (le i b hb).elim (P.fresh i b) fun z => (nomatch z), fun _ h => (nomatch h), fun _ _ _ h => (nomatch h), List.nodup_nil⟩
theorem binds : ∀ {is : List Nat} {vs : List Val} {us : List V} {ρ ρ' : Env} {σ : L2.St} {fp : Fp} {fq : List Addr}, SR K iov [] F H σ ρ fp → bindVs ρ is vs = some ρ' → VRs K F H σ vs us fq → fq.Nodup → (∀ i b, b ∈ fp i → b ∉ fq) →
    (∀ (j k : Nat), Val.pt j (some k) ∈ vs → j ∉ is) → ∃ fp', SR K iov [] F H ((is.zip us).foldl (fun σ p => σ.set p.1 (some p.2)) σ) ρ' fp' ∧ ∀ i b, b ∈ fp' i → b ∈ fp i ∨ b ∈ fq
  | [], [], us, ρ, ρ', σ, fp, fq, S, h, V, nd, dj, pt => by
    cases h
    exact ⟨fp, by simpa using S, fun _ _ h => .inl h⟩
  | [], _ :: _, _, _, _, _, _, _, _, h, _, _, _, _ => by simp [bindVs] at h
  | _ :: _, [], _, _, _, _, _, _, _, h, _, _, _, _ => by simp [bindVs] at h
  | i :: is, v :: vs, [], _, _, _, _, _, _, h, V, _, _, _ => V.elim
  | i :: is, v :: vs, u :: us, ρ, ρ', σ, fp, fq, S, h, V, nd, dj, pt => by
    obtain ⟨ρ1, e1, e2⟩ := Option.bind_eq_some_iff.mp h
    obtain ⟨f1, f2, rfl, V1, V2⟩ := V
    have nd' := List.nodup_append.mp nd
    have S1 := S.bind e1 V1 nd'.1 fun j b hb z => dj j b hb (by simp [z])
    have V2' : VRs K F H (σ.set i (some u)) vs us f2 := by
      have : ∀ {vs : List Val} {us : List V} {f2 : List Addr}, VRs K F H σ vs us f2 → bindVs ρ1 is vs = some ρ' ∨ True → (∀ (j k : Nat), Val.pt j (some k) ∈ vs → j ≠ i) → (∀ j, Val.pt j none ∉ vs) → VRs K F H (σ.set i (some u)) vs us f2 := by
        intro vs
        induction vs with
        | nil => intro us f2 h _ _ _; cases us with
          | nil => exact h
          | cons _ _ => exact h.elim
        | cons a vs ih =>
          intro us f2 h _ p1 p2
          cases us with
          | nil => exact h.elim
          | cons u us =>
            obtain ⟨g1, g2, rfl, h1, h2⟩ := h
            refine ⟨g1, g2, rfl, ?_, ih h2 (.inr trivial) (fun j k z => p1 j k (by simp [z])) fun j z => p2 j (by simp [z])⟩
            cases a with
            | t t => exact h1
            | pt j k =>
              cases k with
              | none => exact absurd (by simp) (p2 j)
              | some k =>
                obtain ⟨z, a, vs, q1, q2⟩ := h1
                exact ⟨z, a, vs, by rw [List.getElem?_set_ne (Ne.symm (p1 j k (by simp)))]; exact q1, q2⟩
      refine this V2 (.inr trivial) (fun j k z => ?_) fun j z => ?_
      · have := pt j k (by simp [z])
        simp at this; exact this.1
      · -- a bare place is never bound
        have no : ∀ {is : List Nat} {vs : List Val} {ρ ρ' : Env}, bindVs ρ is vs = some ρ' → Val.pt j none ∉ vs := by
          intro is vs
          induction vs generalizing is with
          | nil => intro ρ ρ' _ z; cases z
          | cons a vs ih =>
            intro ρ ρ' h z
            cases is with
            | nil => simp [bindVs] at h
            | cons i is =>
              obtain ⟨ρ1, e1, e2⟩ := Option.bind_eq_some_iff.mp h
              rcases List.mem_cons.mp z with z | z
              · subst z
                unfold bindS at e1
                split at e1 <;> simp at e1
              · exact ih e2 z
        exact no e2 z
    obtain ⟨fp', S', le⟩ := binds S1 e2 V2' nd'.2.1 (fun j b hb z => by
      by_cases hj : j = i
      · subst hj; rw [updF_same] at hb; exact nd'.2.2 b hb b z rfl
      · rw [updF_ne hj] at hb; exact dj j b hb (by simp [z])) fun j k z hz => pt j k (by simp [z]) (by simp [hz])
    refine ⟨fp', by simpa using S', fun j b hb => ?_⟩
    rcases le j b hb with z | z
    · by_cases hj : j = i
      · subst hj; rw [updF_same] at z; exact .inr (by simp [z])
      · rw [updF_ne hj] at z; exact .inl z
    · exact .inr (by simp [z])
theorem parOk_pt {is : List Nat} {vs : List Val} (h : parOk is vs = true) : is.Nodup ∧ ∀ (j k : Nat), Val.pt j (some k) ∈ vs → j ∉ is := by
  simp only [parOk, Bool.and_eq_true, decide_eq_true_eq] at h
  refine ⟨h.1, fun j k z hj => ?_⟩
  have := List.all_eq_true.mp h.2 _ z
  simp at this
  exact this hj
theorem par_post (P1 : Post F H fp F1 H1 fp1 fpv wr) (le : ∀ i b, b ∈ fp' i → b ∈ fp1 i ∨ b ∈ fpv) : Post F H fp F1 H1 fp' [] true := by
  have P := P1.wrT
  exact ⟨P.sub, P.new, P.keep, P.there, fun i b hb => (le i b hb).elim (P.fresh i b) (P.freshv b), fun _ h => (nomatch h), fun _ _ _ h => (nomatch h), List.nodup_nil⟩
theorem st_par2 {i j : Nat} {nx ny : Str} {a b : Expr} {px py pt : Pos} {kt k2 : Nat} {pt2 : Pos} {vs : List Val} (hc : X.calm = true) (hN : X.N.Nodup) (hi : X.N[i]? = some nx) (hj : X.N[j]? = some ny)
    (hx : X.env.scope.names.lookup nx = some .local) (hy : X.env.scope.names.lookup ny = some .local) (ha : PA X [a, b] (tA X.K iov ρ vs ρ1 wa)) (hp : parOk [i, j] vs = true) (hb : bindVs ρ1 [i, j] vs = some ρ')
    (hw : swappedStores [.Tuple [.Name nx px, .Name ny py] kt pt] (.Tuple [a, b] k2 pt2) X.env = pure (some [nx, ny])) : PS X (.Assign [.Tuple [.Name nx px, .Name ny py] kt pt] (.Tuple [a, b] k2 pt2) pos) (tS X.K iov ρ (.nx ρ')) := by
  obtain ⟨nd, hpt⟩ := parOk_pt hp
  refine PS.imp' (ps_par hc hN hi hj (by simp at nd; exact nd) hx hy ha hw) ?_
  rintro D σ H ⟨F, fp, S, k⟩
  refine ⟨F, fp, S, fun us H1 F1 fp1 fpv S1 V1 P1 => ?_⟩
  obtain ⟨fp', S', le⟩ := binds S1 hb V1 P1.nodv P1.disv hpt
  have l1 := V1.len
  have l2 : vs.length = 2 := by
    match vs, hb with
    | [], hb => simp [bindVs] at hb
    | [_], hb => simp [bindVs] at hb
    | [_, _], _ => rfl
    | _ :: _ :: _ :: _, hb => simp [bindVs] at hb
  match us, l1.symm.trans l2 with
  | [u1, u2], _ => exact ⟨u1, u2, rfl, k _ H1 F1 fp' S' (par_post P1 le)⟩
theorem st_par3 {i j l : Nat} {nx ny nz : Str} {a b c : Expr} {px py pz pt : Pos} {kt k2 : Nat} {pt2 : Pos} {vs : List Val} (hc : X.calm = true) (hN : X.N.Nodup) (hi : X.N[i]? = some nx) (hj : X.N[j]? = some ny) (hl : X.N[l]? = some nz)
    (hx : X.env.scope.names.lookup nx = some .local) (hy : X.env.scope.names.lookup ny = some .local) (hz : X.env.scope.names.lookup nz = some .local) (ha : PA X [a, b, c] (tA X.K iov ρ vs ρ1 wa)) (hp : parOk [i, j, l] vs = true) (hb : bindVs ρ1 [i, j, l] vs = some ρ')
    (hw : swappedStores [.Tuple [.Name nx px, .Name ny py, .Name nz pz] kt pt] (.Tuple [a, b, c] k2 pt2) X.env = pure (some [nx, ny, nz])) : PS X (.Assign [.Tuple [.Name nx px, .Name ny py, .Name nz pz] kt pt] (.Tuple [a, b, c] k2 pt2) pos) (tS X.K iov ρ (.nx ρ')) := by
  obtain ⟨nd, hpt⟩ := parOk_pt hp
  have nd3 : i ≠ j ∧ i ≠ l ∧ j ≠ l := by simp at nd; exact ⟨nd.1.1, nd.1.2, nd.2⟩
  refine PS.imp' (ps_par3 hc hN hi hj hl nd3.1 nd3.2.1 nd3.2.2 hx hy hz ha hw) ?_
  rintro D σ H ⟨F, fp, S, k⟩
  refine ⟨F, fp, S, fun us H1 F1 fp1 fpv S1 V1 P1 => ?_⟩
  obtain ⟨fp', S', le⟩ := binds S1 hb V1 P1.nodv P1.disv hpt
  have l1 := V1.len
  have l2 : vs.length = 3 := by
    match vs, hb with
    | [], hb => simp [bindVs] at hb
    | [_], hb => simp [bindVs] at hb
    | [_, _], hb => simp [bindVs] at hb
    | [_, _, _], _ => rfl
    | _ :: _ :: _ :: _ :: _, hb => simp [bindVs] at hb
  match us, l1.symm.trans l2 with
  | [u1, u2, u3], _ => exact ⟨u1, u2, u3, rfl, k _ H1 F1 fp' S' (par_post P1 le)⟩
theorem bindVs_len : ∀ {is : List Nat} {vs : List Val} {ρ ρ' : Env}, bindVs ρ is vs = some ρ' → is.length = vs.length
  | [], [], _, _, _ => rfl
  | [], _ :: _, _, _, h => by simp [bindVs] at h
  | _ :: _, [], _, _, h => by simp [bindVs] at h
  | i :: is, v :: vs, ρ, ρ', h => by
    obtain ⟨ρ1, e1, e2⟩ := Option.bind_eq_some_iff.mp h
    simp [bindVs_len e2]
theorem kidsV_len (j : Nat) : ∀ (ts : List T) (k : Nat), (kidsV j k ts).length = ts.length
  | [], _ => rfl
  | t :: ts, k => by simp [kidsV, kidsV_len j ts (k + 1)]
theorem kidsV_some (j : Nat) : ∀ (ts : List T) (k : Nat) (i : Nat), Val.pt i none ∉ kidsV j k ts
  | [], _, _ => by simp [kidsV]
  | t :: ts, k, i => by
    intro h
    unfold kidsV at h
    rcases List.mem_cons.mp h with h | h
    · cases t <;> simp at h
    · exact kidsV_some j ts (k + 1) i h
theorem kids_rep {a : Addr} {all : List V} {j : Nat} (hσ : σ[j]? = some (some (.ref a))) (ha : H a = some (.lst all)) : ∀ {vs : List V} {ts : List T} {fq : List Addr} (k : Nat), TReps K F H vs ts fq → (∀ n, vs[n]? = all[k + n]?) → VRs K F H σ (kidsV j k ts) vs []
  | [], [], _, _, _, _ => rfl
  | [], _ :: _, _, _, h, _ => by simp only [TReps] at h
  | _ :: _, [], _, _, h, _ => by simp only [TReps] at h
  | v :: vs, t :: ts, _, k, h, e => by
    simp only [TReps] at h
    obtain ⟨f1, f2, _, r1, r2⟩ := h
    refine ⟨[], [], rfl, ?_, kids_rep hσ ha (k + 1) r2 fun n => by have := e (n + 1); rw [show k + 1 + n = k + (n + 1) by omega]; simpa using this⟩
    have e0 : all[k]? = some v := by have := e 0; simpa using this.symm
    cases t with
    | fz d =>
      simp only [TRep] at r1
      show TRep K F H v (.fz d) []
      unfold TRep
      exact ⟨rfl, r1.2⟩
    | _ => exact ⟨rfl, a, all, hσ, ha, e0⟩
def tGV (K : PySem.W.Frag) (iov : Nat → Option V) (ρ : Env) (as : List Val) (ρ' : Env) : TGs := fun vs σ H Q => ∃ F fp, SR K iov [] F H σ ρ fp ∧ VRs K F H σ as vs [] ∧
  ∀ σ' fp', SR K iov [] F H σ' ρ' fp' → (∀ i b, b ∈ fp' i → b ∈ fp i) → Q σ' H
theorem vrs_set {i : Nat} {u : V} : ∀ {as : List Val} {vs : List V} {f : List Addr}, VRs K F H σ as vs f → (∀ (j k : Nat), Val.pt j (some k) ∈ as → j ≠ i) → (∀ j, Val.pt j none ∉ as) → VRs K F H (σ.set i (some u)) as vs f
  | [], [], _, h, _, _ => h
  | [], _ :: _, _, h, _, _ => h.elim
  | _ :: _, [], _, h, _, _ => h.elim
  | a :: as, v :: vs, f, h, p1, p2 => by
    obtain ⟨g1, g2, rfl, h1, h2⟩ := h
    refine ⟨g1, g2, rfl, ?_, vrs_set h2 (fun j k z => p1 j k (by simp [z])) fun j z => p2 j (by simp [z])⟩
    cases a with
    | t t => exact h1
    | pt j k =>
      cases k with
      | none => exact absurd (by simp) (p2 j)
      | some k =>
        obtain ⟨e, a, xs, q1, q2, q3⟩ := h1
        refine ⟨e, a, xs, ?_, q2, q3⟩
        rw [List.getElem?_set_ne (fun z => p1 j k (by simp) z.symm)]
        exact q1
theorem gt_goV : ∀ {is : List Nat} {es : List Expr} {as : List Val} {ρ ρ' : Env}, is.length = es.length → bindVs ρ is as = some ρ' → X.N.Nodup → (∀ (j k : Nat), Val.pt j (some k) ∈ as → j ∉ is) → (∀ j, Val.pt j none ∉ as) →
    (∀ (n i : Nat) (e : Expr), is[n]? = some i → es[n]? = some e → ∃ nm p, e = .Name nm p ∧ X.N[i]? = some nm ∧ Loc X.env.scope nm ∧ (X.fn nm = true ∨ X.env.scope.names.lookup nm = some .local)) → PGs X es (tGV X.K iov ρ as ρ')
  | [], [], [], ρ, ρ', _, h, _, _, _, _ => by
    simp only [bindVs, Option.some.injEq] at h
    subst h
    refine PGs.imp' pgs_nil ?_
    rintro vs σ H Q ⟨F, fp, S, r, k⟩
    cases vs with
    | nil => exact ⟨rfl, k σ fp S (fun _ _ h => h)⟩
    | cons v vs => exact r.elim
  | [], _, _ :: _, _, _, _, h, _, _, _, _ => by simp [bindVs] at h
  | _ :: _, _, [], _, _, _, h, _, _, _, _ => by simp [bindVs] at h
  | [], _ :: _, _, _, _, h, _, _, _, _, _ => by simp at h
  | _ :: _, [], _, _, _, h, _, _, _, _, _ => by simp at h
  | i :: is, e :: es, a :: as, ρ, ρ', hl, h, hN, p1, p2, hx => by
    obtain ⟨ρ1, e1, e2⟩ := Option.bind_eq_some_iff.mp h
    obtain ⟨nm, p, rfl, h1, h2, h3⟩ := hx 0 i e rfl rfl
    have g1 := pg_name (X := X) (pos := p) hN h1 h2 h3
    have g2 := gt_goV (by simpa using hl) e2 hN (fun j k z hj => p1 j k (by simp [z]) (by simp [hj])) (fun j z => p2 j (by simp [z])) fun n j e q1 q2 => hx (n + 1) j e (by simpa using q1) (by simpa using q2)
    refine PGs.imp' (pgs_cons g1 g2 rfl) ?_
    rintro vs σ H Q ⟨F, fp, S, r, k⟩
    cases vs with
    | nil => exact r.elim
    | cons v vs =>
      obtain ⟨f1, f2, ef, r1, r2⟩ := r
      obtain ⟨rfl, rfl⟩ := List.append_eq_nil_iff.mp ef.symm
      refine ⟨v, vs, rfl, F, updF fp i [], S.bind e1 r1 List.nodup_nil (fun _ _ _ h => nomatch h), vrs_set r2 (fun j k z hj => p1 j k (by simp [z]) (by simp [hj])) (fun j z => p2 j (by simp [z])), fun σ2 fp2 S2 le2 => k σ2 fp2 S2 fun j b hb => ?_⟩
      have z := le2 j b hb
      by_cases hj : j = i
      · subst hj; rw [updF_same] at z; cases z
      · rw [updF_ne hj] at z; exact z
theorem st_unp {is : List Nat} {kk j : Nat} {p : Pos} {ts : List T} (hc : X.calm = true) (hN : X.N.Nodup) (hl : is.length = es.length) (hlen : (assignEach es X.env).length = es.length) (hst : (assignEach es X.env).findIdx? (·.1) = none)
    (hx : ∀ (n i : Nat) (e : Expr), is[n]? = some i → es[n]? = some e → ∃ nm p, e = .Name nm p ∧ X.N[i]? = some nm ∧ Loc X.env.scope nm ∧ (X.fn nm = true ∨ X.env.scope.names.lookup nm = some .local))
    (hs : swapsWithSole [.Tuple es kk p] e pos.line X.env = pure false) (hw : swappedStores [.Tuple es kk p] e X.env = pure none) (he : PE X e (tE X.K iov ρ (.pt j none) ρ1 wa)) (hg : getPt ρ1 j none = some (.lst ts)) (hp : parOk is (kidsV j 0 ts) = true) (hb : bindVs ρ1 is (kidsV j 0 ts) = some ρ') :
    PS X (.Assign [.Tuple es kk p] e pos) (tS X.K iov ρ (.nx ρ')) := by
  obtain ⟨nd, hpt⟩ := parOk_pt hp
  refine PS.imp' (ps_asg he (pg_lst hc (gt_goV (iov := iov) hl hb hN hpt (kidsV_some j ts 0) hx) hlen hst) hs hw rfl) ?_
  rintro D σ H ⟨F, fp, S, k⟩
  refine ⟨F, fp, S, fun v H1 F1 fp1 fpv S1 V1 P1 => ?_⟩
  obtain ⟨f1, fq, f3, _, r⟩ := S1.gtPt hg V1
  obtain ⟨_, hv⟩ := V1
  simp only [TRep] at r
  obtain ⟨a, vs, g, rfl, _, _, ha, hr⟩ := r
  refine ⟨a, vs, rfl, .inl (.inl ha), ?_, F1, fp1, S1, kids_rep hv ha 0 hr (fun n => by simp), fun σ' fp' S' le => k σ' H1 F1 fp' S' ?_⟩
  · rw [hr.len, ← kidsV_len j ts 0, ← bindVs_len hb, hl]
  · have P := P1.drop0.wrT
    exact ⟨P.sub, P.new, P.keep, P.there, fun i b hb => P.fresh i b (le i b hb), fun _ h => (nomatch h), fun _ _ _ h => (nomatch h), List.nodup_nil⟩
end
end Mv

end
section
namespace Mv
open PySem PySem.Spec PyProof.Rows L2
section
variable {X : Cx} {iov : Nat → Option V} {t x y z : T} {b b1 b2 : Bool} {ρ ρ1 ρ2 ρ3 ρ' : Env} {wr wa wb wc : Bool} {va vb vc : Val} {e e1 e2 e3 tg : Expr} {es : List Expr} {pos : Pos} {as : List Val} {ds : List D}
theorem RepDs.rev {K : PySem.W.Frag} {F : Addr → Prop} {H : Hp} : ∀ {ds : List D} {vs : List V}, RepDs K F H vs ds → RepDs K F H vs.reverse ds.reverse
  | [], [], _ => by simp only [List.reverse_nil, RepDs]
  | [], _ :: _, h => by simp only [RepDs] at h
  | _ :: _, [], h => by simp only [RepDs] at h
  | d :: ds, v :: vs, h => by
    simp only [RepDs] at h
    rw [List.reverse_cons, List.reverse_cons]
    exact (RepDs.rev h.2).append (by simp only [RepDs, and_true]; exact h.1)
theorem s_rv {k : Nat} {p1 p2 p3 : Pos} (ha : PE X e (tE X.K iov ρ va ρ1 wa)) (rx : Mv.resolve ρ1 va = some x) (hf : x.flat = some ds) :
    PE X (.Subscript e (.Slice none none (some (.UnaryOp .USub (.Constant (.int 1) k p1) p2)) p3) pos) (tE X.K iov ρ (.t (T.fl ds.reverse)) ρ1 wa) := by
  refine PE.imp' (pe_revL ha) ?_
  rintro σ H Q ⟨F, fp, S, kk⟩
  refine ⟨F, fp, S, fun vx H1 F1 fp1 fa S1 V1 P1 => ?_⟩
  obtain ⟨g1, r1⟩ := S1.rslv rx V1
  obtain ⟨a, vs, rfl, hl, hr⟩ := flat_rep hf r1
  refine ⟨a, vs, rfl, hl, fun p np => ?_⟩
  obtain ⟨F', fpv, S', tr, P'⟩ := S1.pure (res_fl np S1.trk hr.rev)
  exact kk _ _ F' fp1 fpv S' tr (P1.drop0.fin (fun _ h => nomatch h) P')
theorem rep_rg {K : PySem.W.Frag} {F : Addr → Prop} {H : Hp} (a b : Int) : RepDs K F H (rgV a b) (rangeD a b) := by
  unfold rgV rangeD
  generalize List.range (b - a).toNat = l
  induction l with
  | nil => simp only [List.map_nil, RepDs]
  | cons x l ih => simp only [List.map_cons, RepDs, RepD, true_and]; exact ih
theorem okRg_ok {i j : Int} (h : okRg i j = true) : RgOk i j := by
  simp only [okRg, okR0, Bool.and_eq_true, decide_eq_true_eq] at h
  exact ⟨h.1.1.1, h.1.1.2, h.1.2.1, h.1.2.2, by omega⟩
theorem s_lrg1 {i : Int} {p q pq : Pos} (hc : X.calm = true) (gl : Gl X "list") (ml : X.mg "list" = none) (gr : Gl X "range") (mr : X.mg "range" = none) (hp : plainE e = true) (ha : PE X e (tE X.K iov ρ (.t (.fz (.int i))) ρ1 wa)) (hi : okRg 0 i = true) :
    PE X (.Call (.Name "list" p) [.Call (.Name "range" q) [e] [] pq] [] pos) (tE X.K iov ρ (.t (T.fl (rangeD 0 i))) ρ1 wa) := by
  refine PE.imp' (pe_listRg hc gl ml (prg_1 gr mr ha (star_plain hp _)) rfl) ?_
  rintro σ H Q ⟨F, fp, S, kk⟩
  refine ⟨F, fp, S, fun v H1 F1 fp1 fa S1 V1 P1 => ⟨i, trep_int V1, okRg_ok hi, fun p np => ?_⟩⟩
  obtain ⟨F', fpv, S', tr, P'⟩ := S1.pure (res_fl np S1.trk (rep_rg 0 i))
  exact kk _ _ F' fp1 fpv S' tr (P1.drop0.fin (fun _ h => nomatch h) P')
theorem s_lrg2 {i j : Int} {p q pq : Pos} (hc : X.calm = true) (gl : Gl X "list") (ml : X.mg "list" = none) (gr : Gl X "range") (mr : X.mg "range" = none) (hp : plainE e1 = true) (hp2 : plainE e2 = true) (ha : PE X e1 (tE X.K iov ρ (.t (.fz (.int i))) ρ1 wa)) (hb : PE X e2 (tE X.K iov ρ1 (.t (.fz (.int j))) ρ2 wb)) (hi : okRg i j = true) :
    PE X (.Call (.Name "list" p) [.Call (.Name "range" q) [e1, e2] [] pq] [] pos) (tE X.K iov ρ (.t (T.fl (rangeD i j))) ρ2 (wa || wb)) := by
  refine PE.imp' (pe_listRg hc gl ml (prg_2 gr mr ha hb (star_plain hp _) (star_plain hp2 _) (by rw [star_plain hp2]; rfl)) rfl) ?_
  rintro σ H Q ⟨F, fp, S, kk⟩
  refine two (R := fun x y H2 => ∃ i' j' : Int, x = .int i' ∧ y = .int j' ∧ RgOk i' j' ∧ ∀ q, H2 q = none → Q (.ref q) (upd H2 q (.lst (rgV i' j')))) rfl rfl rfl S fun vx vy H2 F2 fp2 fa fb S2 V1 V2 P => ?_
  refine ⟨i, j, trep_int V1, trep_int V2, okRg_ok hi, fun p np => ?_⟩
  obtain ⟨F', fpv, S', tr, P'⟩ := S2.pure (res_fl np S2.trk (rep_rg i j))
  exact kk _ _ F' fp2 fpv S' tr (P.drop0.fin (fun _ h => nomatch h) P')
theorem idxD_at {d : D} : ∀ {zs : List D} {n j : Nat}, idxD d zs n = some j → n ≤ j ∧ ∃ z, zs[j - n]? = some z ∧ PyData.eqv z.toPy d.toPy = true ∧ ∀ (m : Nat) (z' : D), m < j - n → zs[m]? = some z' → PyData.eqv z'.toPy d.toPy = false
  | [], _, _, h => by cases h
  | z :: zs, n, j, h => by
    unfold idxD at h
    split at h
    · rename_i e
      cases h
      exact ⟨Nat.le_refl _, z, by simp, e, fun m z' hm => by omega⟩
    · rename_i e
      obtain ⟨h1, z', h2, h3, h4⟩ := idxD_at h
      refine ⟨by omega, z', by rw [show j - n = (j - (n + 1)) + 1 by omega]; simpa using h2, h3, fun m w hm hw => ?_⟩
      cases m with
      | zero => simp at hw; subst hw; simpa using e
      | succ m => exact h4 m w (by omega) (by simpa using hw)
theorem tyV_list {K : PySem.W.Frag} {H : Hp} {a : Addr} {vs : List V} (h : SqL K H a vs) : tyV K "list" (.ref a) H := .inl ⟨rfl, vs, h⟩
theorem s_cnt {ns : List Int} {i : Int} {apos cpos : Pos} (hbase : attributeBase e1 "count" X.env (eval e1 X.env) = eval e1 X.env) (hp : plainE e2 = true) (hline : (apos.endLine == cpos.line) = true) (ha : PE X e1 (tE X.K iov ρ va ρ1 wa)) (hb : PE X e2 (tE X.K iov ρ1 (.t (.fz (.int i))) ρ2 wb))
    (st : stands va wb = true) (r1 : Mv.resolve ρ1 va = some y) (f1 : y.flat = some ds) (rx : Mv.resolve ρ2 va = some x) (hf : x.flat = some (ns.map D.int)) :
    PE X (.Call (.Attribute e1 "count" apos) [e2] [] cpos) (tE X.K iov ρ (.t (.fz (.int (ns.count i : Nat)))) ρ2 (wa || wb)) := by
  have hse : starEach [e2] X.env = (false, eval e2 X.env) :: starEach [] X.env := star_plain hp _
  refine PE.imp' (pe_bm PySem.F.plainAttrs_list PySem.F.slot_list_count PySem.F.type_list_count mt_lcount ha (a_cons (iov := iov) hp hb a_nil stands_f) hbase (by rw [hse]; rfl) hline hse rfl) ?_
  rintro σ H Q ⟨F, fp, S, k⟩
  refine ⟨F, fp, S, fun vx H1 F1 fp1 fa S1 V1 P1 => ?_⟩
  obtain ⟨g0, t0⟩ := S1.rslv r1 V1
  obtain ⟨a, ws, rfl, hl0, _⟩ := flat_rep f1 t0
  refine ⟨tyV_list hl0, F1, fp1, S1, fun vs H2 F2 fp2 fb S2 V2 P2 => ?_⟩
  have V1' := V1.step P2 (fun i b hb => (S1.fpF i b hb).1) P1.disv (by simpa [Cs.wr] using st)
  obtain ⟨g1, tr⟩ := S2.rslv rx V1'
  obtain ⟨a', vs', ea, hl, hr⟩ := flat_rep hf tr
  cases ea
  rw [rep_ints hr] at hl
  match vs, V2 with
  | [w], V2 =>
    obtain ⟨f1', f2', rfl, q1, q2⟩ := V2
    have q1 : TRep X.K F2 H2 w (.fz (.int i)) f1' := q1
    refine ⟨a, ns, i, rfl, by rw [trep_int q1], hl, ?_⟩
    have P := P1.trans P2 V1.fps
    exact k _ H2 F2 fp2 [] S2 (by show TRep _ _ _ _ _ _; simp only [TRep, RepD, true_and]) (P.drop0.sizes (by simp [Cs.wr]))
  | [], V2 => exact V2.elim
  | _ :: _ :: _, V2 => obtain ⟨_, _, _, _, q⟩ := V2; exact q.elim
theorem s_idx {d : D} {j : Nat} {apos cpos : Pos} (hbase : attributeBase e1 "index" X.env (eval e1 X.env) = eval e1 X.env) (hp : plainE e2 = true) (hline : (apos.endLine == cpos.line) = true) (ha : PE X e1 (tE X.K iov ρ va ρ1 wa)) (hb : PE X e2 (tE X.K iov ρ1 (.t (.fz d)) ρ2 wb))
    (st : stands va wb = true) {ds0 : List D} (r1 : Mv.resolve ρ1 va = some y) (f1 : y.flat = some ds0) (rx : Mv.resolve ρ2 va = some x) (hf : x.flat = some ds) (fd : flatD d = true) (fds : ds.all flatD = true) (hj : idxD d ds 0 = some j) :
    PE X (.Call (.Attribute e1 "index" apos) [e2] [] cpos) (tE X.K iov ρ (.t (.fz (.int (j : Nat)))) ρ2 (wa || wb)) := by
  have hse : starEach [e2] X.env = (false, eval e2 X.env) :: starEach [] X.env := star_plain hp _
  refine PE.imp' (pe_bm PySem.F.plainAttrs_list PySem.F.slot_list_index PySem.F.type_list_index mt_index ha (a_cons (iov := iov) hp hb a_nil stands_f) hbase (by rw [hse]; rfl) hline hse rfl) ?_
  rintro σ H Q ⟨F, fp, S, k⟩
  refine ⟨F, fp, S, fun vx H1 F1 fp1 fa S1 V1 P1 => ?_⟩
  obtain ⟨g0, t0⟩ := S1.rslv r1 V1
  obtain ⟨a, ws, rfl, hl0, _⟩ := flat_rep f1 t0
  refine ⟨tyV_list hl0, F1, fp1, S1, fun vs H2 F2 fp2 fb S2 V2 P2 => ?_⟩
  have V1' := V1.step P2 (fun i b hb => (S1.fpF i b hb).1) P1.disv (by simpa [Cs.wr] using st)
  obtain ⟨g1, tr⟩ := S2.rslv rx V1'
  obtain ⟨a', vs', ea, hl, hr⟩ := flat_rep hf tr
  cases ea
  match vs, V2 with
  | [w], V2 =>
    obtain ⟨f1', f2', rfl, q1, q2⟩ := V2
    have q1 : TRep X.K F2 H2 w (.fz d) f1' := q1
    simp only [TRep] at q1
    obtain ⟨_, z, hz, he, hn⟩ := idxD_at hj
    rw [Nat.sub_zero] at hz hn
    obtain ⟨v, hv, rv⟩ := hr.get hz
    have fl := flats_V fd q1.2 fds hr
    refine ⟨a, vs', w, j, v, rfl, rfl, hl, (flat_V fd q1.2).1, fl.1, hv, by rw [eqV_flat (List.all_eq_true.mp fds z (List.mem_of_getElem? hz)) fd rv q1.2]; exact he, fun m z' hm hz' => ?_, ?_⟩
    · have hlen := hr.len
      have hml : m < ds.length := by rw [← hlen]; exact (List.getElem?_eq_some_iff.mp hz').1
      obtain ⟨v2, hv2, rv2⟩ := hr.get (List.getElem?_eq_getElem hml)
      rw [hz'] at hv2; cases hv2
      rw [eqV_flat (List.all_eq_true.mp fds _ (List.getElem_mem hml)) fd rv2 q1.2]
      exact hn m _ hm (List.getElem?_eq_getElem hml)
    · have P := P1.trans P2 V1.fps
      exact k _ H2 F2 fp2 [] S2 (by show TRep _ _ _ _ _ _; simp only [TRep, RepD, true_and]) (P.drop0.sizes (by simp [Cs.wr]))
  | [], V2 => exact V2.elim
  | _ :: _ :: _, V2 => obtain ⟨_, _, _, _, q⟩ := V2; exact q.elim
theorem idxD_py {d : D} : ∀ {zs : List D} {n j : Nat}, idxD d zs n = some j → n ≤ j ∧ ∃ z, (D.toPys zs)[j - n]? = some z ∧ PyData.eqv z d.toPy = true ∧ ∀ (m : Nat) (z' : PyData), m < j - n → (D.toPys zs)[m]? = some z' → PyData.eqv z' d.toPy = false := by
  intro zs n j h
  have e : ∀ zs : List D, D.toPys zs = zs.map D.toPy := by
    intro zs
    induction zs with
    | nil => rfl
    | cons z zs ih => simp only [D.toPys, List.map_cons, ih]
  obtain ⟨h1, z, h2, h3, h4⟩ := idxD_at h
  rw [e]
  refine ⟨h1, z.toPy, by rw [List.getElem?_map, h2]; rfl, h3, fun m z' hm hz => ?_⟩
  rw [List.getElem?_map] at hz
  obtain ⟨w, hw, rfl⟩ := Option.map_eq_some_iff.mp hz
  exact h4 m w hm hw
theorem s_idxD (hu : X.A.units + 65 < cLine) {d : D} {j : Nat} {apos cpos : Pos} (hbase : attributeBase e1 "index" X.env (eval e1 X.env) = eval e1 X.env) (hp : plainE e2 = true) (hline : (apos.endLine == cpos.line) = true) (ha : PE X e1 (tE X.K iov ρ va ρ1 wa)) (hb : PE X e2 (tE X.K iov ρ1 (.t (.fz d)) ρ2 wb))
    (st : stands va wb = true) {ds0 : List D} (r1 : Mv.resolve ρ1 va = some y) (f1 : y.flat = some ds0) (rx : Mv.resolve ρ2 va = some x) (hf : x.flat = some ds) (fd : d.shp 60 = true) (fds : D.shps 60 ds = true) (hj : idxD d ds 0 = some j) :
    PE X (.Call (.Attribute e1 "index" apos) [e2] [] cpos) (tE X.K iov ρ (.t (.fz (.int (j : Nat)))) ρ2 (wa || wb)) := by
  have hse : starEach [e2] X.env = (false, eval e2 X.env) :: starEach [] X.env := star_plain hp _
  refine PE.imp' (pe_bm PySem.F.plainAttrs_list PySem.F.slot_list_index PySem.F.type_list_index (mt_indexD hu) ha (a_cons (iov := iov) hp hb a_nil stands_f) hbase (by rw [hse]; rfl) hline hse rfl) ?_
  rintro σ H Q ⟨F, fp, S, k⟩
  refine ⟨F, fp, S, fun vx H1 F1 fp1 fa S1 V1 P1 => ?_⟩
  obtain ⟨g0, t0⟩ := S1.rslv r1 V1
  obtain ⟨a, ws, rfl, hl0, _⟩ := flat_rep f1 t0
  refine ⟨tyV_list hl0, F1, fp1, S1, fun vs H2 F2 fp2 fb S2 V2 P2 => ?_⟩
  have V1' := V1.step P2 (fun i b hb => (S1.fpF i b hb).1) P1.disv (by simpa [Cs.wr] using st)
  obtain ⟨g1, tr⟩ := S2.rslv rx V1'
  obtain ⟨a', vs', ea, hl, hr⟩ := flat_rep hf tr
  cases ea
  match vs, V2 with
  | [w], V2 =>
    obtain ⟨f1', f2', rfl, q1, q2⟩ := V2
    have q1 : TRep X.K F2 H2 w (.fz d) f1' := q1
    simp only [TRep] at q1
    obtain ⟨_, z, hz, he, hn⟩ := idxD_py hj
    rw [Nat.sub_zero] at hz hn
    have P := P1.trans P2 V1.fps
    exact ⟨a, w, d.toPy, D.toPys ds, j, z, rfl, rfl, .lst hl (RDs.dp ds vs' 60 fds (RepDs.mono (fun _ _ => trivial) (fun _ _ _ e => e) ds vs' hr)), RD.dp d w 60 fd q1.2.rd, shps_shaped fds, shp_shaped fd, hz, he, hn,
      k _ H2 F2 fp2 [] S2 (by show TRep _ _ _ _ _ _; simp only [TRep, RepD, true_and]) (P.drop0.sizes (by simp [Cs.wr]))⟩
  | [], V2 => exact V2.elim
  | _ :: _ :: _, V2 => obtain ⟨_, _, _, _, q⟩ := V2; exact q.elim
theorem exT_tup {K : PySem.W.Frag} {F : Addr → Prop} {H : Hp} {a : Addr} {vs : List V} (h : TupF K F H a vs) : ExT K H (.ref a) := by
  rcases h with ⟨_, o, z, h⟩ | ⟨o, _, _, h1, h2, h3, _⟩
  · exact ⟨a, o, rfl, z, .inl ⟨vs, h⟩⟩
  · exact ⟨a, o, rfl, h3, .inr ⟨h1, h2⟩⟩
theorem s_idxT (hu : X.A.units + 65 < cLine) {d : D} {j : Nat} {apos cpos : Pos} (hbase : attributeBase e1 "index" X.env (eval e1 X.env) = eval e1 X.env) (hp : plainE e2 = true) (hline : (apos.endLine == cpos.line) = true) (ha : PE X e1 (tE X.K iov ρ (.t (.fz (.tup ds))) ρ1 wa)) (hb : PE X e2 (tE X.K iov ρ1 (.t (.fz d)) ρ2 wb))
    (fd : d.shp 60 = true) (fds : D.shps 60 ds = true) (hj : idxD d ds 0 = some j) :
    PE X (.Call (.Attribute e1 "index" apos) [e2] [] cpos) (tE X.K iov ρ (.t (.fz (.int (j : Nat)))) ρ2 (wa || wb)) := by
  have hse : starEach [e2] X.env = (false, eval e2 X.env) :: starEach [] X.env := star_plain hp _
  refine PE.imp' (pe_bmX PySem.F.slot_tuple_index PySem.F.type_tuple_index (mt_tindexD hu) ha (a_cons (iov := iov) hp hb a_nil stands_f) hbase (by rw [hse]; rfl) hline hse rfl) ?_
  rintro σ H Q ⟨F, fp, S, k⟩
  refine ⟨F, fp, S, fun vx H1 F1 fp1 fa S1 V1 P1 => ?_⟩
  have T1 : TRep X.K F1 H1 vx (.fz (.tup ds)) fa := V1
  simp only [TRep, RepD] at T1
  obtain ⟨_, a, ws, rfl, hl0, _⟩ := T1
  refine ⟨exT_tup hl0, F1, fp1, S1, fun vs H2 F2 fp2 fb S2 V2 P2 => ?_⟩
  have V1' : TRep X.K F2 H2 (.ref a) (.fz (.tup ds)) fa := V1.step P2 (fun i b hb => (S1.fpF i b hb).1) P1.disv rfl
  simp only [TRep, RepD] at V1'
  obtain ⟨_, a', vs', ea, hl, hr⟩ := V1'
  cases ea
  match vs, V2 with
  | [w], V2 =>
    obtain ⟨f1', f2', rfl, q1, q2⟩ := V2
    have q1 : TRep X.K F2 H2 w (.fz d) f1' := q1
    simp only [TRep] at q1
    obtain ⟨_, z, hz, he, hn⟩ := idxD_py hj
    rw [Nat.sub_zero] at hz hn
    have P := P1.trans P2 V1.fps
    exact ⟨a, w, d.toPy, D.toPys ds, j, z, rfl, rfl, .tup hl.sq (RDs.dp ds vs' 60 fds (RepDs.mono (fun _ _ => trivial) (fun _ _ _ e => e) ds vs' hr)), RD.dp d w 60 fd q1.2.rd, shps_shaped fds, shp_shaped fd, hz, he, hn,
      k _ H2 F2 fp2 [] S2 (by show TRep _ _ _ _ _ _; simp only [TRep, RepD, true_and]) (P.drop0.sizes (by simp [Cs.wr]))⟩
  | [], V2 => exact V2.elim
  | _ :: _ :: _, V2 => obtain ⟨_, _, _, _, q⟩ := V2; exact q.elim
theorem s_thw {ρz : Env} {d : D} {wr : Bool} (he : PE X e1 (tE X.K iov (frzAll ρ) (.t (.fz d)) ρz wa)) (hd : d.scal = true) : PE X e1 (tE X.K iov ρ (.t (.fz d)) ρ wr) := by
  refine PE.imp' he ?_
  rintro σ H Q ⟨F, fp, S, k⟩
  refine ⟨fun b => F b ∨ ∃ i, b ∈ fp i, fun _ => [], ⟨?_, fun i s e hx => ?_, fun i hi => (nomatch hi), fun _ _ => rfl, fun _ => List.nodup_nil, fun i j b hb => (nomatch hb), fun b hb => ?_⟩, fun v H' F' fp' fpv S' Vr P => ?_⟩
  · unfold frzAll; rw [List.length_map]; exact S.len
  · unfold frzAll at e
    rw [List.getElem?_map] at e
    cases e' : ρ[i]? with
    | none => rw [e'] at e; cases e
    | some s0 =>
      rw [e'] at e
      have r := S.slot i s0 e' (by simp)
      have fz : ∀ (t : T) (w : V), TRep X.K F H w t (fp i) → TRep X.K (fun b => F b ∨ ∃ i, b ∈ fp i) H w (.fz t.toD) [] := fun t w tr => by
        simp only [TRep, true_and]
        exact TRep.fz (fun b hb => .inl hb) t w (fp i) (fun b hb => .inr ⟨i, hb⟩) tr
      cases s0 with
      | no => cases e; rfl
      | lk => cases e; rfl
      | al a b => cases e; rfl
      | ow t =>
        cases e
        obtain ⟨w, q1, q2⟩ := r
        exact ⟨w, q1, fz t w q2⟩
      | io t =>
        cases e
        obtain ⟨w, q1, _, q2⟩ := r
        exact ⟨w, q1, fz t w q2⟩
  · rcases hb with hb | ⟨i, hb⟩
    · exact S.trk b hb
    · exact (S.fpF i b hb).2
  · have keep : ∀ b o, H b = some o → H' b = some o := fun b o e => P.keep b o e (.inr fun _ z => (nomatch z))
    have S2 : SR X.K iov [] F H' σ ρ fp := by
      refine ⟨S.len, fun i s e hx => ?_, S.exc, S.out, S.nod, S.dis, fun b hb => P.there b (S.trk b hb)⟩
      have r := S.slot i s e hx
      have mk : ∀ (t : T) (w : V), TRep X.K F H w t (fp i) → TRep X.K F H' w t (fp i) := fun t w tr => TRep.mono (fun _ z => z) t w _ (fun a ha => (S.fpF i a ha).1) (fun a o _ e => keep a o e) tr
      cases s with
      | no => exact r
      | lk => exact r
      | ow t => obtain ⟨w, q1, q2⟩ := r; exact ⟨w, q1, mk t w q2⟩
      | io t => obtain ⟨w, q1, q3, q2⟩ := r; exact ⟨w, q1, q3, mk t w q2⟩
      | al a b =>
        obtain ⟨q1, q2⟩ := r
        refine ⟨q1, q2.imp_right ?_⟩
        rintro ⟨w, c, vs, p1, p2, p3, p4, p5⟩
        exact ⟨w, c, vs, p1, p2, keep c _ p3, p4, p5⟩
    have V2 : VR X.K F H' σ (.t (.fz d)) v [] := by
      have Vq : TRep X.K F' H' v (.fz d) fpv := Vr
      show TRep X.K F H' v (.fz d) []
      simp only [TRep, true_and] at Vq ⊢
      cases d <;> first | (simp only [RepD] at Vq ⊢; exact Vq.2) | cases hd
    exact k v H' F fp [] S2 V2 ⟨fun _ z => z, fun _ z => .inl z, fun b o e _ => keep b o e, P.there, fun i b z => .inl ⟨i, z⟩, fun b z => (nomatch z), fun _ _ _ z => (nomatch z), List.nodup_nil⟩
theorem s_cntd (hu : X.A.units + 65 < cLine) {d : D} {apos cpos : Pos} (hbase : attributeBase e1 "count" X.env (eval e1 X.env) = eval e1 X.env) (hp : plainE e2 = true) (hline : (apos.endLine == cpos.line) = true) (ha : PE X e1 (tE X.K iov ρ va ρ1 wa)) (hb : PE X e2 (tE X.K iov ρ1 (.t (.fz d)) ρ2 wb))
    (st : stands va wb = true) {ds0 : List D} (r1 : Mv.resolve ρ1 va = some y) (f1 : y.flat = some ds0) (rx : Mv.resolve ρ2 va = some x) (hf : x.flat = some ds) (fd : d.shp 60 = true) (fds : D.shps 60 ds = true) :
    PE X (.Call (.Attribute e1 "count" apos) [e2] [] cpos) (tE X.K iov ρ (.t (.fz (.int ((ds.countP fun z => PyData.eqv z.toPy d.toPy : Nat) : Int)))) ρ2 (wa || wb)) := by
  have hse : starEach [e2] X.env = (false, eval e2 X.env) :: starEach [] X.env := star_plain hp _
  refine PE.imp' (pe_bm PySem.F.plainAttrs_list PySem.F.slot_list_count PySem.F.type_list_count (mt_lcountD hu) ha (a_cons (iov := iov) hp hb a_nil stands_f) hbase (by rw [hse]; rfl) hline hse rfl) ?_
  rintro σ H Q ⟨F, fp, S, k⟩
  refine ⟨F, fp, S, fun vx H1 F1 fp1 fa S1 V1 P1 => ?_⟩
  obtain ⟨g0, t0⟩ := S1.rslv r1 V1
  obtain ⟨a, ws, rfl, hl0, _⟩ := flat_rep f1 t0
  refine ⟨tyV_list hl0, F1, fp1, S1, fun vs H2 F2 fp2 fb S2 V2 P2 => ?_⟩
  have V1' := V1.step P2 (fun i b hb => (S1.fpF i b hb).1) P1.disv (by simpa [Cs.wr] using st)
  obtain ⟨g1, tr⟩ := S2.rslv rx V1'
  obtain ⟨a', vs', ea, hl, hr⟩ := flat_rep hf tr
  cases ea
  match vs, V2 with
  | [w], V2 =>
    obtain ⟨f1', f2', rfl, q1, q2⟩ := V2
    have q1 : TRep X.K F2 H2 w (.fz d) f1' := q1
    simp only [TRep] at q1
    have P := P1.trans P2 V1.fps
    have ec : ((D.toPys ds).countP fun z => PyData.eqv z d.toPy) = ds.countP fun z => PyData.eqv z.toPy d.toPy := by
      clear hr tr rx hf fds k
      induction ds with
      | nil => rfl
      | cons e ds ih => simp only [D.toPys, List.countP_cons, ih]
    refine ⟨a, w, d.toPy, D.toPys ds, rfl, rfl, .lst hl (RDs.dp ds vs' 60 fds (RepDs.mono (fun _ _ => trivial) (fun _ _ _ e => e) ds vs' hr)), RD.dp d w 60 fd q1.2.rd, shps_shaped fds, shp_shaped fd, ?_⟩
    rw [ec]
    exact k _ H2 F2 fp2 [] S2 (by show TRep _ _ _ _ _ _; simp only [TRep, RepD, true_and]) (P.drop0.sizes (by simp [Cs.wr]))
  | [], V2 => exact V2.elim
  | _ :: _ :: _, V2 => obtain ⟨_, _, _, _, q⟩ := V2; exact q.elim
theorem findF_rep {K : PySem.W.Frag} {F : Addr → Prop} {H : Hp} {f : Str} {d : D} : ∀ {fs : List Str} {ds : List D} {vs : List V}, findF f fs ds = some d → RepDs K F H vs ds → vs.length = fs.length → ∃ v, (fs.zip vs).lookup f = some v ∧ RepD K F H v d ∧ f ∈ fs
  | [], _, _, h, _, _ => by simp [findF] at h
  | _ :: _, [], _, h, _, _ => by simp [findF] at h
  | g :: fs, e :: ds, [], _, r, _ => by simp only [RepDs] at r
  | g :: fs, e :: ds, v :: vs, h, r, hl => by
    simp only [RepDs] at r
    unfold findF at h
    split at h
    · rename_i hg
      cases h
      subst hg
      exact ⟨v, by simp [List.lookup], r.1, by simp⟩
    · rename_i hg
      obtain ⟨v', e1, e2, e3⟩ := findF_rep h r.2 (by simpa using hl)
      refine ⟨v', ?_, e2, by simp [e3]⟩
      rw [List.zip_cons_cons, List.lookup_cons]
      rw [show (f == g) = false from beq_eq_false_iff_ne.mpr fun z => hg z.symm]
      exact e1
theorem s_fld {f : Str} (hb : attributeBase e f X.env (eval e X.env) = eval e X.env) (ha : PE X e (tE X.K iov ρ va ρ1 wa)) (rx : Mv.resolve ρ1 va = some x) (h : appX (.fld f) [x] = some t) : PE X (.Attribute e f pos) (tE X.K iov ρ (.t t) ρ1 wa) := by
  refine PE.imp' (pe_fld ha hb) ?_
  rintro σ H Q ⟨F, fp, S, k⟩
  refine ⟨F, fp, S, fun vx H1 F1 fp1 fa S1 V1 P1 => ?_⟩
  obtain ⟨g1, r1⟩ := S1.rslv rx V1
  unfold appX at h
  split at h
  · rename_i z; cases z
  · rename_i f0 fs ds e1 e2
    cases e1; cases e2
    obtain ⟨d, h1, rfl⟩ := Option.map_eq_some_iff.mp h
    simp only [TRep, RepD] at r1
    obtain ⟨_, a, C, dx, vs, rfl, hF, hH, hl, hn, hc, hna, hr⟩ := r1
    obtain ⟨v, l1, rv, hm⟩ := findF_rep h1 hr hl
    exact ⟨a, C, dx, _, v, rfl, hH, hc, hna f hm, l1, k _ H1 F1 fp1 [] S1 (by show TRep _ _ _ _ _ _; simp only [TRep, true_and]; exact rv) P1.drop0⟩
  · rename_i z; cases z
  · rename_i z _; cases z
  · rename_i z _; cases z
  · cases h
theorem s_maxd {p kp : Pos} (hc : X.calm = true) (hu : X.A.units + 65 < cLine) (hg : Gl X "max") (hm : X.mg "max" = none) (hp : plainE e1 = true) {u : T} (ha : PE X e1 (tE X.K iov ρ va ρ1 wa)) (hb : PE X e2 (tE X.K iov ρ1 (.t u) ρ2 wb)) (st : stands va wb = true) (rx : Mv.resolve ρ2 va = some x) (h : appX .maxd [x, u] = some t) :
    PE X (.Call (.Name "max" p) [e1] [⟨some "default", e2, kp⟩] pos) (tE X.K iov ρ (.t t) ρ2 (wa || wb)) := by
  have hse : starEach [e1] X.env = (false, eval e1 X.env) :: starEach [] X.env := star_plain hp _
  refine PE.imp' (pe_callBK (crk_maxD hc hu) hg hm boot_max (a_cons (iov := iov) hp ha a_nil stands_f) (k_cons (iov := iov) hb k_nil stands_f) (by decide) (by decide) (by rw [hse]; rfl) (by rw [hse]; rfl)) ?_
  rintro σ H Q ⟨F, fp, S, k⟩
  refine ⟨F, fp, S, fun vs H1 F1 fp1 fa S1 V1 P1 => ⟨F1, fp1, S1, fun zs H2 F2 fp2 fb S2 V2 P2 => ?_⟩⟩
  match vs, V1, zs, V2 with
  | [v], V1, [w], V2 =>
    obtain ⟨f1, f2, rfl, q1, q2⟩ := V1
    obtain ⟨g1, g2, rfl, z1, z2⟩ := V2
    obtain rfl : f2 = [] := q2
    obtain rfl : g2 = [] := z2
    rw [List.append_nil] at P1 P2
    have V1' := q1.step P2 (fun i b hb => (S1.fpF i b hb).1) P1.disv (by simpa [Cs.wr] using st)
    obtain ⟨g0, tr⟩ := S2.rslv rx V1'
    have P := P1.trans P2 q1.fps
    have fin : ∀ i, t = .fz (.int i) → Q (.int i) H2 := fun i e => by
      subst e
      exact k _ H2 F2 fp2 [] S2 (by show TRep _ _ _ _ _ _; simp only [TRep, RepD, true_and]) (P.drop0.sizes (by simp [Cs.wr]))
    unfold appX at h
    split at h
    · rename_i z; cases z
    · rename_i z _; cases z
    · rename_i z; cases z
    · rename_i a d _ e2
      cases e2
      split at h
      · rename_i ds es
        split at h
        · rename_i ei
          cases h
          obtain ⟨ad, rfl, hs⟩ := seq_ints es ei tr
          exact ⟨ad, d, [], rfl, by rw [trep_int z1], hs, fin _ rfl⟩
        · rename_i n ns ei
          cases h
          obtain ⟨ad, rfl, hs⟩ := seq_ints es ei tr
          exact ⟨ad, d, n :: ns, rfl, by rw [trep_int z1], hs, fin _ (by show _ = T.fz (.int (ns.foldl max n)); rw [maxI_fold])⟩
        · cases h
      · cases h
    · rename_i z _; cases z
    · cases h
  | [], V1, _, _ => exact V1.elim
  | [_], _, [], V2 => exact V2.elim
  | _ :: _ :: _, V1, _, _ => obtain ⟨_, _, _, _, q⟩ := V1; exact q.elim
  | [_], _, _ :: _ :: _, V2 => obtain ⟨_, _, _, _, q⟩ := V2; exact q.elim
theorem s_mind {p kp : Pos} (hc : X.calm = true) (hu : X.A.units + 65 < cLine) (hg : Gl X "min") (hm : X.mg "min" = none) (hp : plainE e1 = true) {u : T} (ha : PE X e1 (tE X.K iov ρ va ρ1 wa)) (hb : PE X e2 (tE X.K iov ρ1 (.t u) ρ2 wb)) (st : stands va wb = true) (rx : Mv.resolve ρ2 va = some x) (h : appX .mind [x, u] = some t) :
    PE X (.Call (.Name "min" p) [e1] [⟨some "default", e2, kp⟩] pos) (tE X.K iov ρ (.t t) ρ2 (wa || wb)) := by
  have hse : starEach [e1] X.env = (false, eval e1 X.env) :: starEach [] X.env := star_plain hp _
  refine PE.imp' (pe_callBK (crk_minD hc hu) hg hm boot_min (a_cons (iov := iov) hp ha a_nil stands_f) (k_cons (iov := iov) hb k_nil stands_f) (by decide) (by decide) (by rw [hse]; rfl) (by rw [hse]; rfl)) ?_
  rintro σ H Q ⟨F, fp, S, k⟩
  refine ⟨F, fp, S, fun vs H1 F1 fp1 fa S1 V1 P1 => ⟨F1, fp1, S1, fun zs H2 F2 fp2 fb S2 V2 P2 => ?_⟩⟩
  match vs, V1, zs, V2 with
  | [v], V1, [w], V2 =>
    obtain ⟨f1, f2, rfl, q1, q2⟩ := V1
    obtain ⟨g1, g2, rfl, z1, z2⟩ := V2
    obtain rfl : f2 = [] := q2
    obtain rfl : g2 = [] := z2
    rw [List.append_nil] at P1 P2
    have V1' := q1.step P2 (fun i b hb => (S1.fpF i b hb).1) P1.disv (by simpa [Cs.wr] using st)
    obtain ⟨g0, tr⟩ := S2.rslv rx V1'
    have P := P1.trans P2 q1.fps
    have fin : ∀ i, t = .fz (.int i) → Q (.int i) H2 := fun i e => by
      subst e
      exact k _ H2 F2 fp2 [] S2 (by show TRep _ _ _ _ _ _; simp only [TRep, RepD, true_and]) (P.drop0.sizes (by simp [Cs.wr]))
    unfold appX at h
    split at h
    · rename_i z; cases z
    · rename_i z _; cases z
    · rename_i z; cases z
    · rename_i z _; cases z
    · rename_i a d _ e2
      cases e2
      split at h
      · rename_i ds es
        split at h
        · rename_i ei
          cases h
          obtain ⟨ad, rfl, hs⟩ := seq_ints es ei tr
          exact ⟨ad, d, [], rfl, by rw [trep_int z1], hs, fin _ rfl⟩
        · rename_i n ns ei
          cases h
          obtain ⟨ad, rfl, hs⟩ := seq_ints es ei tr
          exact ⟨ad, d, n :: ns, rfl, by rw [trep_int z1], hs, fin _ (by show _ = T.fz (.int (ns.foldl min n)); rw [minI_fold])⟩
        · cases h
      · cases h
    · cases h
  | [], V1, _, _ => exact V1.elim
  | [_], _, [], V2 => exact V2.elim
  | _ :: _ :: _, V1, _, _ => obtain ⟨_, _, _, _, q⟩ := V1; exact q.elim
  | [_], _, _ :: _ :: _, V2 => obtain ⟨_, _, _, _, q⟩ := V2; exact q.elim
theorem s_reprl {ts : List T} {t : T} {p p2 : Pos} (hu : X.A.units + 65 < cLine) (gd : X.A.guards = some []) (hg : Gl X "repr") (hm : X.mg "repr" = none) (hn : es.length ≤ 1000) (ha : PA X es (tA X.K iov ρ as ρ1 wa)) (hl : as.length = es.length) (rx : Mv.resolves ρ1 as = some ts) (h : appX .reprl ts = some t) :
    PE X (.Call (.Name "repr" p) [.List es p2] [] pos) (tE X.K iov ρ (.t t) ρ1 wa) := by
  have hh : reprOk (.list (T.toDs ts)) = true ∧ t = .fz (.str (D.list (T.toDs ts)).toPy.shown) := by
    have h : (if reprOk (.list (T.toDs ts)) then some (T.fz (.str (D.list (T.toDs ts)).toPy.shown)) else none) = some t := h
    split at h
    · cases h; exact ⟨‹_›, rfl⟩
    · cases h
  obtain ⟨hok, rfl⟩ := hh
  refine PE.imp' (pe_callB (call_reprD hu gd hok) hg hm boot_repr (pa_cons (pe_lst ha) pa_nil (star_plain rfl _)) (by decide) (by decide) (star_plain rfl _) rfl) ?_
  rintro σ H Q ⟨F, fp, S, k⟩
  refine ⟨F, fp, S, fun vs H1 F1 fp1 fa S1 V1 P1 => ⟨?_, fun q hq => ?_⟩⟩
  · rw [← V1.len, hl]; exact Nat.le_trans hn (by rw [sizeLine_eq]; decide)
  · obtain ⟨fq, tr⟩ := S1.rslvs rx V1
    have of := TReps.fps _ _ _ tr
    have tl : TRep X.K F1 (upd H1 q (.lst vs)) (.ref q) (.lst ts) (q :: fq) := by
      simp only [TRep]
      exact ⟨q, vs, fq, rfl, rfl, fun f => S1.trk q f hq, upd_same, TReps.mono (fun _ h => h) ts vs fq (fun b hb => (of b hb).1) (fun b o _ e => upd_keep hq b o e) tr⟩
    exact ⟨.ref q, rfl, tl.rd, k _ _ F1 fp1 [] (new_obj S1 hq) (by show TRep _ _ _ _ _ _; simp only [TRep, RepD, and_self]) (P1.drop0.newO hq (fun b hb => nomatch hb) fun i b hb => (S1.fpF i b hb).2).drop0⟩
theorem repDs_of {K : PySem.W.Frag} {F : Addr → Prop} {H : Hp} : ∀ {ds : List D} {vs : List V} {fq : List Addr}, TReps K F H vs (fzs ds) fq → fq = [] ∧ RepDs K F H vs ds
  | [], [], _, h => by
    have h : TReps K F H [] [] _ := h
    simp only [TReps] at h
    exact ⟨h, by simp only [RepDs]⟩
  | [], _ :: _, _, h => by
    have h : TReps K F H (_ :: _) [] _ := h
    simp only [TReps] at h
  | _ :: _, [], _, h => by
    have h : TReps K F H [] (_ :: _) _ := h
    simp only [TReps] at h
  | d :: ds, v :: vs, _, h => by
    have h2 : TReps K F H (v :: vs) (.fz d :: fzs ds) _ := h
    clear h
    simp only [TReps, TRep] at h2
    obtain ⟨f1, f2, rfl, ⟨rfl, r⟩, h3⟩ := h2
    obtain ⟨rfl, r3⟩ := repDs_of h3
    exact ⟨rfl, by simp only [RepDs]; exact ⟨r, r3⟩⟩
theorem flat_any {K : PySem.W.Frag} {F F2 : Addr → Prop} {H H2 : Hp} {d : D} {v : V} (f : flatD d = true) (h : RepD K F H v d) : RepD K F2 H2 v d := by
  cases d <;> first
    | (simp only [RepD] at h ⊢; exact h)
    | (simp [flatD] at f)
theorem flats_any {K : PySem.W.Frag} {F F2 : Addr → Prop} {H H2 : Hp} : ∀ {ds : List D} {vs : List V}, ds.all flatD = true → RepDs K F H vs ds → RepDs K F2 H2 vs ds
  | [], [], _, _ => by simp only [RepDs]
  | [], _ :: _, _, h => by simp only [RepDs] at h
  | _ :: _, [], _, h => by simp only [RepDs] at h
  | d :: ds, v :: vs, f, h => by
    simp only [RepDs] at h ⊢
    rw [List.all_cons, Bool.and_eq_true] at f
    exact ⟨flat_any f.1 h.1, flats_any f.2 h.2⟩
theorem treps_of {K : PySem.W.Frag} {F : Addr → Prop} {H : Hp} : ∀ {ds : List D} {vs : List V}, RepDs K F H vs ds → TReps K F H vs (fzs ds) []
  | [], [], _ => by show TReps K F H [] [] []; simp only [TReps]
  | [], _ :: _, h => by simp only [RepDs] at h
  | _ :: _, [], h => by simp only [RepDs] at h
  | d :: ds, v :: vs, h => by
    simp only [RepDs] at h
    show TReps K F H (v :: vs) (.fz d :: fzs ds) []
    simp only [TReps, TRep]
    exact ⟨[], [], rfl, ⟨rfl, h.1⟩, treps_of h.2⟩
theorem it_items {K : PySem.W.Frag} {F : Addr → Prop} {H : Hp} {a : Addr} {od : Obj} {ks : List Key} {ds : List D} {vs : List V} (ha : H a = some (.frz od (.dK (ks.zip vs)))) (hl : vs.length = ks.length) (hr : RepDs K F H vs ds) (hf : ds.all flatD = true) : ItOkW false K F H (Iti a od (ks.zip vs)) (itemsD ks ds) := fun F2 H2 hF hk => by
  have h2 := hk a _ (.inl rfl) ha
  have l1 := hr.len
  refine ⟨fun i d e => ?_, h2, by unfold itemsD; simp only [List.length_map, List.length_zip]; omega⟩
  unfold itemsD at e
  rw [List.getElem?_map] at e
  obtain ⟨q, e1, e2⟩ := Option.map_eq_some_iff.mp e
  obtain ⟨k, x⟩ := q
  rw [List.getElem?_zip_eq_some] at e1
  obtain ⟨ek, ex⟩ := e1
  obtain ⟨v, ev, rv⟩ := hr.get ex
  have hi := (List.getElem?_eq_some_iff.mp ek).1
  refine ⟨⟨h2, by rw [List.length_zip]; omega⟩, fun y H3 ⟨T, k', v', e3, e4, e5, e6⟩ => ?_⟩
  rw [List.getElem?_zip_eq_some] at e3
  have ek' : some k = some k' := ek.symm.trans e3.1
  have ev' : some v = some v' := ev.symm.trans e3.2
  cases ek'; cases ev'
  subst e4 e6 e2
  refine res_ltp e5 ?_
  simp only [RepDs, and_true]
  refine ⟨?_, flat_any (List.all_eq_true.mp hf x (List.mem_of_getElem? ex)) rv⟩
  cases k <;> simp [keyD, kV, RepD]
theorem s_lci {elt : Expr} {ifs : List Expr} {scope : Scope} {own : List (Str × Nat)} {p0 : Pos} {tgt : Tgt} {ch : List Nat} {evt : Env → Option (Bool × Env)} {eve : Env → Option (Val × Env)} {i : Nat} {nm : Str} {ks : List Key} {ts0 ts : List T} {ρ5 : Env} {wt we : Bool} {elts : List Expr} {kk : Nat} {tpos apos cpos npos : Pos}
    (hc : X.calm = true) (hN : X.N.Nodup) (hn : X.N[i]? = some nm) (hv : Vis X.env.scope nm) (hd : (nm == ("__debug__" : Str)) = false) (hcd : (nm == ("__classdict__" : Str)) = false) (hline : (apos.endLine == cpos.line) = true)
    (hi : ρ[i]? = some (Slot.ow (.dct ks ts0))) (h0 : T.unfzs ts0 = some ds) (hfl : ds.all flatD = true)
    (hwt : wt = false) (hwe : we = false) (ok : BlkOk X.N X.env.scope scope own) (hch : ∀ i ∈ ch, i ∈ own.map (·.2))
    (hg : ∀ (s : Shared) (H : Hp) (C : Addr) (cl : List (Str × Addr)) (fp : List Addr) (ρ : Env) (d : D) (ρ2 : Env), bindD ρ tgt d = some ρ2 → PG (X.blk s H scope (compEnvC scope cl C X.env) fp) (.Tuple elts kk tpos) (tG X.K iov ρ ch d ρ2))
    (ht : ∀ (s : Shared) (H : Hp) (C : Addr) (cl : List (Str × Addr)) (fp : List Addr) (ρ : Env) (b : Bool) (ρ2 : Env), evt ρ = some (b, ρ2) → PTs (X.blk s H scope (compEnvC scope cl C X.env) fp) ifs (tT X.K iov ρ b ρ2 wt))
    (he : ∀ (s : Shared) (H : Hp) (C : Addr) (cl : List (Str × Addr)) (fp : List Addr) (ρ : Env) (v : Val) (ρ2 : Env), eve ρ = some (v, ρ2) → PE (X.blk s H scope (compEnvC scope cl C X.env) fp) elt (tE X.K iov ρ v ρ2 we))
    (hl : lcLoop (lcStep tgt evt eve) (own.map (·.2)) (wipeE ((kills i .none ρ).set i .no) (own.map (·.2))) (itemsD ks ds) [] = some (ts, ρ5)) (hz : ts.length ≤ sizeLine) (ho : ownOk ((kills i .none ρ).set i .no) (own.map (·.2)) = true) :
    PE X (.ListComp elt [⟨.Tuple elts kk tpos, .Call (.Attribute (.Name nm npos) "items" apos) [] [] cpos, ifs, 0⟩] scope p0) (tE X.K iov ρ (.t (.lst ts)) ((kills i .none (restore ((kills i .none ρ).set i .no) (own.map (·.2)) ρ5)).set i (.ow (.dct ks ts0))) true) := by
  subst hwt hwe
  have hpi : PI X (.Tuple elts kk tpos) (.Call (.Attribute (.Name nm npos) "items" apos) [] [] cpos) (iItems (tVar i)) := pi_items (pe_var hn hv hd hcd) rfl hline
  have hlc := pe_lc (elt := elt) (pos := p0) hc hN hpi ok (fun s H C cl fp => PG.all fun a : { p : Env × D × Env // bindD p.1 tgt p.2.1 = some p.2.2 } => hg s H C cl fp a.1.1 a.1.2.1 a.1.2.2 a.2)
    (fun s H C cl fp => PTs.all fun a : { p : Env × Bool × Env // evt p.1 = some p.2 } => ht s H C cl fp a.1.1 a.1.2.1 a.1.2.2 a.2)
    (fun s H C cl fp => PE.all fun a : { p : Env × Val × Env // eve p.1 = some p.2 } => he s H C cl fp a.1.1 a.1.2.1 a.1.2.2 a.2) (fun _ => rfl)
  refine PE.imp' (pe_lock hlc) fun σ H Q h => ?_
  obtain ⟨F, fp, S, k⟩ := h
  obtain ⟨v, hv, tr, S0⟩ := S.move hi
  simp only [TRep] at tr
  obtain ⟨a, vs, fq, rfl, hfp, nF, ha, hlen, nd, hr⟩ := tr
  rw [unfzs_eq h0] at hr
  obtain ⟨rfl, rds⟩ := repDs_of hr
  have an : ∀ j, a ∉ updF fp i [] j := fun j hb => by
    by_cases hj : j = i
    · subst hj; rw [updF_same] at hb; cases hb
    · rw [updF_ne hj] at hb
      exact hj (S.dis j i a hb (by rw [hfp]; simp))
  refine ⟨a, .dK (ks.zip vs), ha, trivial, fun od => ?_⟩
  have S1 := S0.beside (D := a) (o := .frz od (.dK (ks.zip vs))) nF an
  have h1 : (upd H a (.frz od (.dK (ks.zip vs)))) a = some (.frz od (.dK (ks.zip vs))) := upd_same
  generalize hH1 : upd H a (.frz od (.dK (ks.zip vs))) = H1 at S1 h1 ⊢
  have key := lc_TE (X := X) (iov := iov) (wi := false) (wb := false) (ds := itemsD ks ds) (wt := false) (we := false) (fun z => nomatch z) (fun z => nomatch z) hch hl hz ho (σ := σ) (H := H1) (ρ := (kills i .none ρ).set i .no)
    (Q := fun v H' => H' a = some (.frz od (.dK (ks.zip vs))) ∧ Q v (upd H' a (.dK (ks.zip vs)))) ⟨F, _, S1, fun w H2 F2 fp2 fa S2 V2 P2 => ?_⟩
  · obtain ⟨F', fp', S', k'⟩ := key
    refine ⟨.ref a, hv, a, od, ks.zip vs, rfl, h1, ?_⟩
    exact k' _ H1 F' fp' S' (it_items h1 hlen (flats_any hfl rds) hfl) (.refl S')
  · have e2 : H2 a = some (.frz od (.dK (ks.zip vs))) := P2.keep a _ h1 (.inr an)
    have n2 : ¬ F2 a := fun f => by
      rcases P2.new a f with z | ⟨j, z⟩ | z
      · exact nF z
      · exact an j z
      · rw [h1] at z; cases z
    have f2 : ∀ j, a ∉ fp2 j := fun j hb => by
      rcases P2.fresh j a hb with ⟨j', z⟩ | z
      · exact an j' z
      · rw [h1] at z; cases z
    have fa2 : a ∉ fa := fun hb => by
      rcases P2.freshv a hb with ⟨j', z⟩ | z
      · exact an j' z
      · rw [h1] at z; cases z
    have back : ∀ b, b ≠ a → H1 b = H b := fun b hb => by rw [← hH1, upd_ne hb]
    refine ⟨e2, k w (upd H2 a (.dK (ks.zip vs))) F2 (updF fp2 i [a]) fa ?_ ?_ ⟨P2.sub, fun b hb => ?_, fun b o e hw => ?_, fun b hb => ?_, fun j b hb => ?_, fun b hb => ?_, fun j b hb hc => ?_, P2.nodv⟩⟩
    · have S3 := S2.beside (D := a) (o := .dK (ks.zip vs)) n2 f2
      have li : i < σ.length := by rw [← S.len]; exact (List.getElem?_eq_some_iff.mp hi).1
      have sl : ∃ s0, (restore ((kills i .none ρ).set i .no) (own.map (·.2)) ρ5)[i]? = some s0 := ⟨_, List.getElem?_eq_getElem (by rw [S3.len]; exact li)⟩
      refine S3.rebind sl rfl (fun _ _ => rfl) (by simp) (fun j b hj hb hc => ?_) ⟨.ref a, hv, ?_⟩
      · simp only [List.mem_singleton] at hc
        subst hc
        exact f2 j hb
      · rw [updF_same]
        simp only [TRep]
        refine ⟨a, vs, [], rfl, rfl, n2, upd_same, hlen, nd, ?_⟩
        rw [unfzs_eq h0]
        exact treps_of (flats_any hfl rds)
    · have V2' : TRep X.K F2 H2 w (.lst ts) fa := V2
      show TRep X.K F2 _ w (.lst ts) fa
      exact TRep.mono (fun _ h => h) _ w fa (fun b hb => (VR.fps V2 b hb).1) (fun b o hb e => by
        rw [upd_ne (by rintro rfl; exact hb.elim n2 fa2)]; exact e) V2'
    · rcases P2.new b hb with z | ⟨j, z⟩ | z
      · exact .inl z
      · exact .inr (.inl ⟨j, updF_le (fun _ z => by simp at z) j b z⟩)
      · by_cases hba : b = a
        · subst hba; exact absurd hb n2
        · exact .inr (.inr (by rw [← back b hba]; exact z))
    · by_cases hba : b = a
      · subst hba; rw [ha] at e; cases e; exact upd_same
      · rw [upd_ne hba]
        refine P2.keep b o (by rw [back b hba]; exact e) (.inr fun j z => ?_)
        rcases hw with hw | hw
        · cases hw
        · exact hw j (updF_le (fun _ z => by simp at z) j b z)
    · by_cases hba : b = a
      · subst hba; rw [upd_same]; simp
      · rw [upd_ne hba]; exact P2.there b (by rw [back b hba]; exact hb)
    · by_cases hj : j = i
      · subst hj
        rw [updF_same] at hb
        have hba : b = a := by simpa using hb
        subst hba
        exact .inl ⟨j, by rw [hfp]; simp⟩
      · rw [updF_ne hj] at hb
        rcases P2.fresh j b hb with ⟨j', z⟩ | z
        · exact .inl ⟨j', updF_le (fun _ z => by simp at z) j' b z⟩
        · by_cases hba : b = a
          · subst hba; rw [h1] at z; cases z
          · exact .inr (by rw [← back b hba]; exact z)
    · rcases P2.freshv b hb with ⟨j', z⟩ | z
      · exact .inl ⟨j', updF_le (fun _ z => by simp at z) j' b z⟩
      · by_cases hba : b = a
        · subst hba; rw [h1] at z; cases z
        · exact .inr (by rw [← back b hba]; exact z)
    · by_cases hj : j = i
      · subst hj
        rw [updF_same] at hb
        have hba : b = a := by simpa using hb
        subst hba
        exact fa2 hc
      · rw [updF_ne hj] at hb
        exact P2.disv j b hb hc
end
end Mv

end
section
set_option maxRecDepth 100000
namespace Mv
open PySem PySem.Spec PyProof.Rows L2
section
variable {P : Program} {w : World} {A : Around} {E : Value → Shared → Prop} {s : Shared}
set_option maxHeartbeats 3200000 in
theorem call_set_lstI {l : Addr} {items : Array Value} (ns : List Int) {Q : Value → Shared → Prop} (hh : A.handled = none) (hl : s.heap.IsList l items) (hit : IntsAre items.toList ns) (hb : ns.length + 1 < scanBound)
    (h : ∀ (h' : Heap) (tk c : Nat), SetR w h' s.heap.objs.size (fun j => decide (j ∈ ns)) c → c ≤ ns.length → (∀ b o, s.heap.get? b = some o → h'.get? b = some o) → Q (.ref s.heap.objs.size) { s with heap := h', toks := tk }) :
    wpAny (model P w) A (call (.type "set") [.ref l]) Q E s := by
  have hisz : items.size = ns.length := by
    have q := IntsAre.length hit
    rw [Array.length_toList] at q
    exact q
  obtain ⟨c, tl, hmro⟩ := PySem.F.called_set.mro
  have hmade := PySem.F.called_set.made
  have hsub := PySem.F.called_set.sub
  refine wpAny_call (codeAny_of_tree ?_)
  show wpAny _ _ (callAny (.type "set") _) _ _ _
  refine wpAny_pure ⟨Code.quiet_builtin _ (by decide +kernel), codeAny_builtin F.entry_type_call ?_⟩
  rw [Around.under_plain (weight_type_call_type "set" [.ref l] []) rfl]
  have h1 := PySem.F.called_set.notType
  have h2 := PySem.F.called_set.canCreate
  have hct := PySem.F.typeCall_set_1 (.ref l)
  repeat (any_goals (first | assumption | wp_step))
  refine codeAny_mono (code_set_led1 (.ref l) (E := E) (Q₁ := fun obj s₁ => obj = .ref s.heap.objs.size ∧ s₁ = { s with heap := s.heap.push { cls := .type "set", dict := none, data := .set #[] 0 (.fresh 0 0 (!w.params.followText "set-order")) } }) ⟨rfl, rfl⟩) fun r s₁ hr => ?_
  cases r with
  | error e => exact hr
  | ok fl =>
    cases fl with
    | ret obj =>
      obtain ⟨rfl, rfl⟩ := hr
      have hS : (s.heap.push { cls := .type "set", dict := none, data := .set #[] 0 (.fresh 0 0 (!w.params.followText "set-order")) }).get? s.heap.objs.size = some { cls := .type "set", dict := none, data := .set #[] 0 (.fresh 0 0 (!w.params.followText "set-order")) } := Heap.get?_push_size _ rfl
      have hT : Shared.TypeIs { s with heap := s.heap.push { cls := .type "set", dict := none, data := .set #[] 0 (.fresh 0 0 (!w.params.followText "set-order")) } } (.ref s.heap.objs.size) "set" := ⟨_, hS, rfl⟩
      have hli := PySem.F.called_set.init.lookup
      have hbi := PySem.F.called_set.init.bind (.ref s.heap.objs.size)
      repeat (any_goals (first | assumption | wp_step))
      refine codeAny_mono (codeAny_call_builtin (R := wants (fun r s₂ => r = .none ∧ ∃ h' tk c, s₂ = { s with heap := h', toks := tk } ∧ SetR w h' s.heap.objs.size (fun j => decide (j ∈ ns)) c ∧ c ≤ ns.length ∧
          (∀ b o, s.heap.get? b = some o → h'.get? b = some o)) E) PySem.F.called_set.init.plain PySem.F.entry_set_init (check_set_init_1 hT ?_)) fun r₂ s₂ hr₂ => ?_
      · obtain ⟨ol, hol, hcl, nl, hdl⟩ := hl
        obtain ⟨ocls, odict, odata, oslots⟩ := ol
        simp only at hcl hdl
        subst hcl; subst hdl
        have hol' : (s.heap.push { cls := .type "set", dict := none, data := .set #[] 0 (.fresh 0 0 (!w.params.followText "set-order")) }).get? l = some { cls := .type "list", dict := odict, data := .seq items nl, slots := oslots } := Heap.get?_push_of_some _ hol
        have hsls := PySem.F.sub_list_set
        have hslf := PySem.F.sub_list_frozenset
        have hne : (Value.type "list" == Value.type "dict") = false := by decide
        have hl1 : (s.heap.push { cls := .type "set", dict := none, data := .set #[] 0 (.fresh 0 0 (!w.params.followText "set-order")) }).IsList l items := ⟨_, hol', rfl, nl, rfl⟩
        unfold Builtin.«set.__init__» noKeywords Builtin.Frozenset.updateFrom
        generalize hPI : pyIter = PI
        wp_walk
        subst hPI
        refine wpAny_pyIter_list hl1 ?_
        refine wpAny_bind (wpAny_runValue ?_)
        have hlS : l < s.heap.objs.size := Heap.lt_size hol
        have hh3 : A.in1.in1.in1.handled = none := by simp [hh]
        have hneI : l ≠ (s.heap.push { cls := .type "set", dict := none, data := .set #[] 0 (.fresh 0 0 (!w.params.followText "set-order")) }).objs.size := by
          rw [Heap.size_push]; exact Nat.ne_of_lt (Nat.lt_succ_of_lt hlS)
        have hSf : s.heap.objs.size ∉ [(s.heap.push { cls := .type "set", dict := none, data := .set #[] 0 (.fresh 0 0 (!w.params.followText "set-order")) }).objs.size, l] := by
          rw [Heap.size_push]; simp only [List.mem_cons, List.mem_singleton, List.not_mem_nil, or_false, not_or]
          exact ⟨Nat.ne_of_lt (Nat.lt_succ_self _), Nat.ne_of_gt hlS⟩
        have hval : ∀ (i : Nat) (v : Value), items[i]? = some v → ∃ k t, ns[i]? = some k ∧ v = .int k t := fun i v hv => by
          have hi : i < ns.length := by rw [← hisz]; exact (Array.getElem?_eq_some_iff.mp hv).1
          obtain ⟨t, e⟩ := PyProof.Rows.IntsAre.int_at hit i v (by rw [Array.getElem?_toList]; exact hv)
          refine ⟨ns[i], t, List.getElem?_eq_getElem hi, ?_⟩
          rw [e, List.getD_eq_getElem?_getD, List.getElem?_eq_getElem hi] <;> rfl
        refine set_update_ints ((Walks.list hh3 _ l hneI items).toS) s.heap.objs.size
          hSf ns hisz hb hval (items.size - 0) 0 _ (by omega) (Nat.zero_le _)
          ⟨⟨_, Heap.get?_push_size _ rfl, rfl, rfl⟩, (hl1.push _)⟩ ?hS0 ?hR
        case hS0 =>
          have hget : ((s.heap.push { cls := .type "set", dict := none, data := .set #[] 0 (.fresh 0 0 (!w.params.followText "set-order")) }).push { cls := .type "list_iterator", data := .fields #[.ref l, .int 0 0] }).get? s.heap.objs.size
              = some { cls := .type "set", dict := none, data := .set #[] 0 (.fresh 0 0 (!w.params.followText "set-order")) } := Heap.get?_push_of_some _ hS
          exact ⟨0, Nat.le_refl 0, setR_new_at hget⟩
        case hR =>
          intro s' c' hm hc' hS'
          obtain ⟨h', g2, d', tk', os'⟩ := s'
          have eg : g2 = s.gens := hm.gens
          have ed : d' = s.drawn := hm.drawn
          have eo : os' = s.os := hm.os
          subst eg; subst ed; subst eo
          show wpAny _ _ _ _ _ _
          refine wpAny_pure ?_
          show wpAny _ _ (ret Value.none) _ _ _
          rw [hisz] at hc'
          refine wpAny_pure ⟨rfl, h', tk', c', rfl, hS', hc', fun b o e => ?_⟩
          have hb0 : b < s.heap.objs.size := Heap.lt_size e
          have hb1 : b ≠ s.heap.objs.size := Nat.ne_of_lt hb0
          have hb2 : b ≠ (s.heap.push { cls := .type "set", dict := none, data := .set #[] 0 (.fresh 0 0 (!w.params.followText "set-order")) }).objs.size := by
            rw [Heap.size_push]; exact Nat.ne_of_lt (Nat.lt_succ_of_lt hb0)
          exact hm.heap b o (by simp only [List.mem_cons, List.mem_singleton, List.not_mem_nil, or_false, not_or]; exact ⟨hb1, hb2⟩) (Heap.get?_push_of_some _ (Heap.get?_push_of_some _ e))
      · cases r₂ with
        | error e => exact hr₂
        | ok fl₂ =>
          cases fl₂ with
          | ret r =>
            obtain ⟨rfl, h', tk, c', rfl, hS', hc', hk'⟩ := hr₂
            repeat (any_goals (first | assumption | wp_step))
            exact h _ _ _ hS' hc' hk'
          | _ => exact hr₂.elim
    | _ => exact hr.elim
theorem sorted_setA {a : Addr} {S : Int → Bool} {n : Nat} {Q : Value → Shared → Prop} (R : SetR w s.heap a S n) (hh : A.handled = none)
    (hQ : ∀ s' p (out : Array Value) (c : Nat) (ns : List Int), (∀ b o, s.heap.get? b = some o → s'.heap.get? b = some o) → s'.gens = s.gens → s'.os = s.os → s.heap.objs.size ≤ p →
      s'.heap.get? p = some (seqObj "list" out c) → IntsAre out.toList ns → ns.Pairwise (· < ·) → (∀ k, k ∈ ns ↔ S k = true) → ns.length = n → Q (.ref p) s') :
    wpAny (model P w) A (call (.builtin "sorted") [.ref a]) Q E s := by
  obtain ⟨o, es, ep, t, ho, hex, hd, g, nd, hm, hb, hf, hn, hr, hl⟩ := R
  refine Calls.call_function_entry kind_sorted plain_sorted entry_sorted (args_sorted1 _) ?_
  unfold Builtin.«sorted»
  refine wpAny_bind (m := checkCount "sorted" 1 1 _) (wpAny_pure ?_)
  refine wpAny_bind (collect_set (A := A.in1) hh ⟨o, ho, hex.1, hd⟩ hf hb hr hl fun s1 vs k1 hz g1 o1 pm => ?_)
  have hvl : vs.length = n := by rw [pm.length_eq, List.length_map, Array.length_toList]; exact hn
  have hv0 : ∀ v ∈ vs, ∃ k tk, v = Value.int k tk := fun v hv => by
    obtain ⟨e, he, q⟩ := List.mem_map.mp (pm.mem_iff.mp hv)
    obtain ⟨k, tk, h1, _⟩ := g e he
    exact ⟨k, tk, by rw [← q]; exact h1⟩
  have hI : IntsAre vs (vs.map SrtO.iv) := SrtO.ints_iv hv0
  have ek : es.toList.map L2.keyOf = (es.toList.map (·.2)).map SrtO.iv := by
    rw [List.map_map]
    refine List.map_congr_left fun e he => ?_
    obtain ⟨k, tk, h1, _⟩ := g e he
    show L2.keyOf e = SrtO.iv e.2
    unfold L2.keyOf
    rw [h1]; rfl
  have pk : (vs.map SrtO.iv).Perm (es.toList.map L2.keyOf) := by
    rw [ek]
    exact pm.map SrtO.iv
  have hz2 : vs.length ≤ sizeLine := by
    have : es.size = n := hn
    unfold scanBound at hb
    rw [hvl, sizeLine_eq]; omega
  refine wpAny_bind (wpAny_newList ?_ hz2)
  have hoL : (s1.heap.push (seqObj "list" vs.toArray 0)).get? s1.heap.objs.size = some (seqObj "list" vs.toArray 0) := Heap.get?_push_size _ rfl
  refine wpAny_bind (wpAny_holding (wpAny_call_entry slot_list_sort ⟨_, hoL, rfl⟩ entry_list_sort (SrtO.list_sort_ord SrtO.swo_int hoL hz2 (fun h2 => SrtO.ints_sortable hI h2) fun out b1 b2 => ⟨_, rfl, ?_⟩) (args_list_sort _)))
  obtain ⟨a1, a2, a3⟩ := SrtO.ints_out hI b1 b2
  obtain ⟨c, hc⟩ := sortedHeap_at (vs := vs) (out := out.toArray) hoL
  have pn : (out.map SrtO.iv).Perm (es.toList.map L2.keyOf) := a2.trans pk
  refine wpAny_pure ⟨_, rfl, hQ _ s1.heap.objs.size out.toArray c (out.map SrtO.iv) (fun b u e => ?_) g1 o1 hz hc (by simpa using a1) (lt_of_le_nodup _ a3 (pn.nodup_iff.mpr nd)) (fun k => by rw [pn.mem_iff, ← hm k]) ?_⟩
  · have q := k1 b u e
    have hlt := Heap.lt_size q
    show (sortedHeap (s1.heap.push (seqObj "list" vs.toArray 0)) s1.heap.objs.size vs out.toArray).get? b = some u
    rw [sortedHeap_old (Nat.ne_of_lt hlt) (by rw [size_push']; exact Nat.lt_succ_of_lt hlt)]
    exact Heap.get?_push_of_some _ q
  · rw [pn.length_eq, List.length_map, Array.length_toList]; exact hn
end
theorem nubI_mem {k : Int} : ∀ {ns : List Int}, k ∈ nubI ns ↔ k ∈ ns
  | [] => Iff.rfl
  | n :: ns => by
    unfold nubI
    split
    · rename_i h
      rw [nubI_mem, List.mem_cons]
      exact ⟨.inr, fun z => z.elim (fun e => e ▸ h) id⟩
    · rw [List.mem_cons, List.mem_cons, nubI_mem]
theorem nubI_nodup : ∀ ns : List Int, (nubI ns).Nodup
  | [] => List.nodup_nil
  | n :: ns => by
    unfold nubI
    split
    · exact nubI_nodup ns
    · rename_i h
      exact List.nodup_cons.mpr ⟨fun z => h (nubI_mem.mp z), nubI_nodup ns⟩
theorem nodup_len : ∀ {l m : List Int}, l.Nodup → m.Nodup → (∀ k, k ∈ l ↔ k ∈ m) → l.length = m.length
  | [], [], _, _, _ => rfl
  | [], k :: m, _, _, h => by have := (h k).mpr List.mem_cons_self; cases this
  | a :: l, m, hl, hm, h => by
    obtain ⟨h1, h2⟩ := List.nodup_cons.mp hl
    have ha : a ∈ m := (h a).mp List.mem_cons_self
    have e := nodup_len (l := l) (m := m.erase a) h2 (hm.erase a) fun k => by
      rw [hm.mem_erase_iff, ← h k, List.mem_cons]
      constructor
      · intro z; exact ⟨fun e => h1 (e ▸ z), .inr z⟩
      · rintro ⟨z, e | e⟩
        · exact absurd e z
        · exact e
    rw [List.length_cons, e, List.length_erase_of_mem ha]
    have := List.length_pos_of_mem ha
    omega
theorem lt_uniq : ∀ {l m : List Int}, l.Pairwise (· < ·) → m.Pairwise (· < ·) → (∀ k, k ∈ l ↔ k ∈ m) → l = m
  | [], [], _, _, _ => rfl
  | [], k :: m, _, _, h => by have := (h k).mpr List.mem_cons_self; cases this
  | k :: l, [], _, _, h => by have := (h k).mp List.mem_cons_self; cases this
  | a :: l, b :: m, hl, hm, h => by
    obtain ⟨l1, l2⟩ := List.pairwise_cons.mp hl
    obtain ⟨m1, m2⟩ := List.pairwise_cons.mp hm
    have e : a = b := by
      rcases List.mem_cons.mp ((h a).mp List.mem_cons_self) with e | e
      · exact e
      · rcases List.mem_cons.mp ((h b).mpr List.mem_cons_self) with e2 | e2
        · exact e2.symm
        · have x := m1 a e; have y := l1 b e2; omega
    subst e
    refine congrArg (a :: ·) (lt_uniq l2 m2 fun k => ?_)
    constructor
    · intro z
      rcases List.mem_cons.mp ((h k).mp (List.mem_cons_of_mem _ z)) with e | e
      · have := l1 k z; omega
      · exact e
    · intro z
      rcases List.mem_cons.mp ((h k).mpr (List.mem_cons_of_mem _ z)) with e | e
      · have := m1 k z; omega
      · exact e
theorem sset_eq {ns ks : List Int} (h1 : ks.Pairwise (· < ·)) (h2 : ∀ k, k ∈ ks ↔ k ∈ ns) : ks = sortI (nubI ns) := by
  have p := List.mergeSort_perm (nubI ns) (fun a b => decide (a ≤ b))
  have s1 : (sortI (nubI ns)).Pairwise (· ≤ ·) := by
    have := List.pairwise_mergeSort (le := fun a b : Int => decide (a ≤ b)) (fun a b c h1 h2 => by simp at *; omega) (fun a b => by simp; omega) (nubI ns)
    exact this.imp fun h => by simpa using h
  refine lt_uniq h1 (lt_of_le_nodup _ s1 (p.nodup_iff.mpr (nubI_nodup ns))) fun k => ?_
  show _ ↔ k ∈ List.mergeSort _ _
  rw [h2 k, p.mem_iff, nubI_mem]
section
variable {X : Cx}
def tLenSetM (K : PySem.W.Frag) (ta : TE) : TE := fun σ H Q => ta σ H fun x H1 => ∃ (l : Addr) (ns : List Int), x = .ref l ∧ SqL K H1 l (ns.map V.int) ∧ ns.length ≤ 4000 ∧ Q (.int ((nubI ns).length : Nat)) H1
theorem pe_lenSetM {a : Expr} {ta : TE} {p p2 q pos : Pos} (hc : X.calm = true) (hg : Gl X "len") (hm : X.mg "len" = none) (hg2 : Gl X "set") (hm2 : X.mg "set" = none) (ha : PE X a ta)
    (na : starEach [a] X.env = (false, eval a X.env) :: starEach [] X.env) : PE X (.Call (.Name "len" p) [.Call (.Name "set" p2) [a] [] q] [] pos) (tLenSetM X.K ta) := by
  refine ⟨fun pins s σ H Q I h => ?_⟩
  refine Call_ (ld_blt I hg hm boot_len ?_)
  refine PyProof.Rows.callWith_builtin1 (PyProof.Rows.args_cons ?_ rfl) rfl rfl
  refine Call_ (ld_blt I hg2 hm2 boot_set ?_)
  refine PyProof.Rows.callWith_type1 (PyProof.Rows.args_cons (thn (ha.run pins s σ H _ I h) fun v s1 ⟨x, H1, I1, r1, q1⟩ => PyProof.Rows.args_nil ?_) na) na rfl
  obtain ⟨l, ns, rfl, hq, hl, q1⟩ := q1
  cases r1
  obtain ⟨its, r, pl, hz⟩ := I1.list hq
  refine call_set_lstI ns (I1.ok.hd hc) pl.isList (by simpa using r.ints) (by unfold scanBound; omega) fun h' tk c hS hc' hk => ?_
  refine PyProof.Rows.args_nil ?_
  obtain ⟨o, es, ep, t, ho, hex, hd, g, nd, hmm, hb, hf, hn, _⟩ := hS
  have I2 : Inv X pins σ H1 { s1 with heap := h', toks := tk } := I1.kept hk
  have e : c = (nubI ns).length := by
    have := nodup_len nd (nubI_nodup ns) fun k => by rw [← hmm k, nubI_mem, decide_eq_true_eq]
    rw [List.length_map, Array.length_toList, hn] at this
    exact this
  exact call_len_set ho hex hd hf (by rw [hn] <;> omega) ⟨.int (nubI ns).length, H1, I2.tok _, ⟨_, by rw [hn, e]⟩, q1⟩
def tSortedSet (K : PySem.W.Frag) (ta : TE) : TE := fun σ H Q => ta σ H fun x H1 => ∃ (l : Addr) (ns : List Int), x = .ref l ∧ SqL K H1 l (ns.map V.int) ∧ ns.length ≤ 4000 ∧
  ∀ p : Addr, H1 p = none → Q (.ref p) (upd H1 p (.lst ((sortI (nubI ns)).map V.int)))
theorem pe_sortedSet {a : Expr} {ta : TE} {p p2 q pos : Pos} (hc : X.calm = true) (hg : Gl X "sorted") (hm : X.mg "sorted" = none) (hg2 : Gl X "set") (hm2 : X.mg "set" = none) (ha : PE X a ta)
    (na : starEach [a] X.env = (false, eval a X.env) :: starEach [] X.env) : PE X (.Call (.Name "sorted" p) [.Call (.Name "set" p2) [a] [] q] [] pos) (tSortedSet X.K ta) := by
  refine ⟨fun pins s σ H Q I h => ?_⟩
  refine Call_ (ld_blt I hg hm boot_sorted ?_)
  refine PyProof.Rows.callWith_builtin1 (PyProof.Rows.args_cons ?_ rfl) rfl rfl
  refine Call_ (ld_blt I hg2 hm2 boot_set ?_)
  refine PyProof.Rows.callWith_type1 (PyProof.Rows.args_cons (thn (ha.run pins s σ H _ I h) fun v s1 ⟨x, H1, I1, r1, q1⟩ => PyProof.Rows.args_nil ?_) na) na rfl
  obtain ⟨l, ns, rfl, hq, hl, q1⟩ := q1
  cases r1
  obtain ⟨its, r, pl, hz⟩ := I1.list hq
  refine call_set_lstI ns (I1.ok.hd hc) pl.isList (by simpa using r.ints) (by unfold scanBound; omega) fun h' tk c hS hc' hk => ?_
  refine PyProof.Rows.args_nil ?_
  have I2 : Inv X pins σ H1 { s1 with heap := h', toks := tk } := I1.kept hk
  refine sorted_setA hS (I2.ok.hd hc) fun s' p out c2 ks k g o hp hg' hi hs hmm hl2 => ?_
  have hlen : (ks.map V.int).length ≤ sizeLine := by rw [List.length_map, hl2, sizeLine_eq]; omega
  have hn : H1 p = none := I2.hok.fresh hp
  have J : Inv X pins σ (upd H1 p (.lst (ks.map V.int))) { ({ s1 with heap := h', toks := tk } : Shared) with heap := s'.heap, gens := s'.gens, drawn := s'.drawn, toks := s'.toks } :=
    I2.call (ch := []) (Un.laid k hp hn) (I2.hok.laid k hp ⟨hlen, out.toList, c2, vals_of_ints hi, hg'⟩) (by rw [g]; exact I2.bare) (fun _ z => nomatch z)
  have e : s' = { ({ s1 with heap := h', toks := tk } : Shared) with heap := s'.heap, gens := s'.gens, drawn := s'.drawn, toks := s'.toks } := by
    cases s'
    cases s1
    cases o
    rfl
  rw [e]
  have ek : ks = sortI (nubI ns) := sset_eq hs fun k => by rw [hmm k, decide_eq_true_eq]
  subst ek
  exact ⟨.ref p, _, J, rfl, q1 p hn⟩
end
section
variable {X : Cx} {iov : Nat → Option V} {t x : T} {ρ ρ1 : Env} {wa : Bool} {va : Val} {e : Expr}
theorem rep_mapI {K : PySem.W.Frag} {F : Addr → Prop} {H : Hp} : ∀ ns : List Int, RepDs K F H (ns.map V.int) (ns.map D.int)
  | [] => by simp only [List.map_nil, RepDs]
  | n :: ns => by simp only [List.map_cons, RepDs, RepD, true_and]; exact rep_mapI ns
theorem set_arg {K : PySem.W.Frag} {F : Addr → Prop} {H : Hp} {v : V} {fa : List Addr} {ns : List Int} (h : x.flat.bind intsOf = some ns) (r : TRep K F H v x fa) : ∃ a, v = .ref a ∧ SqL K H a (ns.map V.int) := by
  obtain ⟨ds, h1, h2⟩ := Option.bind_eq_some_iff.mp h
  obtain ⟨a, vs, rfl, hl, hr⟩ := flat_rep h1 r
  rw [intsOf_eq h2] at hr
  exact ⟨a, rfl, by rw [← rep_ints hr]; exact hl⟩
theorem s_lset {p p2 q pos : Pos} (hc : X.calm = true) (hg : Gl X "len") (hm : X.mg "len" = none) (hg2 : Gl X "set") (hm2 : X.mg "set" = none) (hp : plainE e = true) (ha : PE X e (tE X.K iov ρ va ρ1 wa)) (rx : Mv.resolve ρ1 va = some x) (h : appX .lset [x] = some t) :
    PE X (.Call (.Name "len" p) [.Call (.Name "set" p2) [e] [] q] [] pos) (tE X.K iov ρ (.t t) ρ1 wa) := by
  have h : appX2 .lset [x] = some t := h
  simp only [appX2] at h
  split at h
  · rename_i ns hns
    split at h
    · rename_i hz
      cases h
      refine PE.imp' (pe_lenSetM hc hg hm hg2 hm2 ha (star_plain hp _)) ?_
      rintro σ H Q ⟨F, fp, S, k⟩
      refine ⟨F, fp, S, fun v H1 F1 fp1 fa S1 V1 P1 => ?_⟩
      obtain ⟨g1, r1⟩ := S1.rslv rx V1
      obtain ⟨a, rfl, hl⟩ := set_arg hns r1
      exact ⟨a, ns, rfl, hl, of_decide_eq_true hz, k _ H1 F1 fp1 [] S1 (by show TRep _ _ _ _ _ _; simp only [TRep, RepD, and_self]) P1.drop0⟩
    · cases h
  · cases h
theorem s_sset {p p2 q pos : Pos} (hc : X.calm = true) (hg : Gl X "sorted") (hm : X.mg "sorted" = none) (hg2 : Gl X "set") (hm2 : X.mg "set" = none) (hp : plainE e = true) (ha : PE X e (tE X.K iov ρ va ρ1 wa)) (rx : Mv.resolve ρ1 va = some x) (h : appX .sset [x] = some t) :
    PE X (.Call (.Name "sorted" p) [.Call (.Name "set" p2) [e] [] q] [] pos) (tE X.K iov ρ (.t t) ρ1 wa) := by
  have h : appX2 .sset [x] = some t := h
  simp only [appX2] at h
  split at h
  · rename_i ns hns
    split at h
    · rename_i hz
      cases h
      refine PE.imp' (pe_sortedSet hc hg hm hg2 hm2 ha (star_plain hp _)) ?_
      rintro σ H Q ⟨F, fp, S, k⟩
      refine ⟨F, fp, S, fun v H1 F1 fp1 fa S1 V1 P1 => ?_⟩
      obtain ⟨g1, r1⟩ := S1.rslv rx V1
      obtain ⟨a, rfl, hl⟩ := set_arg hns r1
      refine ⟨a, ns, rfl, hl, of_decide_eq_true hz, fun p np => ?_⟩
      obtain ⟨F', fpv, S', tr, P'⟩ := S1.pure (res_fl np S1.trk (rep_mapI (sortI (nubI ns))))
      exact k _ _ F' fp1 fpv S' tr (P1.drop0.fin (fun _ h => nomatch h) P')
    · cases h
  · cases h
end
section
open PpSet (newSet_ok eval_SetComp compLoopS_any codeAny_compStart_set)
variable {X : Cx}
def OS (w : World) (D : Addr) (acc : List V) : HO := .ext fun h => ∃ (ns : List Int) (n : Nat), acc = ns.map V.int ∧ n ≤ ns.length ∧ SetR w h D (fun j => decide (j ∈ ns)) n
def OkS (acc : List V) (y : V) : Prop := (∃ k, y = V.int k) ∧ acc.length + 1 < scanBound
theorem oS_new {w : World} {P : Program} {H : Hp} {h : Heap} {D : Addr} {acc : List V} (R : ∃ (ns : List Int) (n : Nat), acc = ns.map V.int ∧ n ≤ ns.length ∧ SetR w h D (fun j => decide (j ∈ ns)) n) : ObjOk P w H h D (OS w D acc) := by
  have ⟨_, _, _, _, o, _, _, _, ho, _⟩ := R
  exact ⟨R, ⟨o, ho⟩, fun h1 h2 ⟨ns, n, e, l, p⟩ k => ⟨ns, n, e, l, SetR.at p k⟩⟩
theorem oS_fresh {P : Program} {H : Hp} {h : Heap} (w : World) : ObjOk P w H (h.push { cls := .type "set", dict := none, data := .set #[] 0 (.fresh 0 0 (!w.params.followText "set-order")) }) h.objs.size (OS w h.objs.size []) :=
  oS_new ⟨[], 0, rfl, Nat.le_refl _, (setR_fresh w).congr fun k => by simp⟩
theorem addS_ok {pins : List (Addr × Obj)} {σ : L2.St} {H : Hp} {s : Shared} {E : Value → Shared → Prop} {D : Addr} {acc : List V} {k : Int} {tk : Tok} {Q : Value → Shared → Prop} (I : Inv X pins σ H s) (hD : H D = some (OS X.w D acc)) (room : acc.length + 1 < scanBound)
    (h : ∀ s', Inv X pins σ (upd H D (OS X.w D (acc ++ [V.int k]))) s' → Q .none s') : wpAny (model X.prog X.w) X.A (call (.builtin "set.add") [.ref D, .int k tk]) Q E s := by
  obtain ⟨ns, n, e, hl, R⟩ := (I.hok D _ hD).1
  have hlen : acc.length = ns.length := by rw [e, List.length_map]
  refine setR_add R (by omega) fun h' sb new => ?_
  have new' : ∃ (ns : List Int) (n : Nat), acc ++ [V.int k] = ns.map V.int ∧ n ≤ ns.length ∧ SetR X.w h' D (fun j => decide (j ∈ ns)) n := ⟨ns ++ [k], _, by rw [List.map_append, e]; rfl, by rw [List.length_append]; split <;> simp <;> omega, new.congr fun j => by simp⟩
  have he : ∃ u, h'.get? D = some u := by
    have ⟨o, _, _, _, ho, _⟩ := new
    exact ⟨o, ho⟩
  exact h _ (I.write (e := D) (t' := s.toks + 1) (by rw [hD]; trivial) (.inl rfl) (fun b u hb hu => (sb.2 b hb).trans hu) he (oS_new new'))
theorem scO_core {pins : List (Addr × Obj)} {s : Shared} {σ : L2.St} {H : Hp} {Q : VK} {elt tg iter : Expr} {ifs : List Expr} {scope : Scope} {own : List (PySem.Str × Nat)} {pos pos' : Pos} {wi : TI} {g : TG} {tt : TT} {te : TE} {use : Option (Value → Sem Unit)} {Qf : Value → Shared → Prop}
    (hc : X.calm = true) (hN : X.N.Nodup) (I : Inv X pins σ H s) (hi : PI X tg iter wi) (ok : BlkOk X.N X.env.scope scope own)
    (hg : ∀ (s : Shared) (H : Hp) (C : Addr) (cl : List (PySem.Str × Addr)) (fp : List Addr), PG (X.blk s H scope (compEnvC scope cl C X.env) fp) tg g) (ht : ∀ (s : Shared) (H : Hp) (C : Addr) (cl : List (PySem.Str × Addr)) (fp : List Addr), PTs (X.blk s H scope (compEnvC scope cl C X.env) fp) ifs tt)
    (he : ∀ (s : Shared) (H : Hp) (C : Addr) (cl : List (PySem.Str × Addr)) (fp : List Addr), PE (X.blk s H scope (compEnvC scope cl C X.env) fp) elt te) (hs : ∀ x, foldedSetIterable iter X.env x = pure x)
    (h : tLcO (OS X.w) OkS wi g tt te (own.map (·.2)) σ H Q)
    (hRR : ∀ D C s' m H', Inv X pins σ H' s' → Q (.ref D) H' → s'.heap.Ns C m → FpOk X pins H' C → compPost (model X.prog X.w) X.A X.xe use Qf (.ref D) C (.ok .next) s') :
    wpAny (model X.prog X.w) X.A (comprehension (.SetComp elt [⟨tg, iter, ifs, 0⟩] scope pos) scope X.env pos' (newSet (.type "set")) false (eval iter X.env) use) Qf X.xe s := by
  have hfree : ∀ y ∈ scope.names, y.2 = .free → ∃ c, X.env.cells.lookup y.1 = some c := fun y hy e => by
    rcases ok.free y hy e with k | k
    · exact I.ok.has _ (.inl k)
    · exact I.ok.has _ (.inr k)
  refine wpAny_comprehension_free (use := use) rfl hs (closure_ok hfree) ok.kind (fun y hy e => by rw [ok.uniq y hy, e])
    (thn (hi.run pins s σ H _ I h) fun xv s1 hx => thn hx fun itv s2 h2 => ?_)
  obtain ⟨it, fp, tn, J, H2, e, I2, T, st2, f2, q⟩ := h2
  subst e
  refine newSet_ok (newEnv_comp ?_)
  generalize hD : s2.heap.objs.size = D
  have hDn : H2 D = none := I2.hok.fresh (Nat.le_of_eq hD)
  obtain ⟨W, ⟨m0, w0⟩, turn⟩ := q D hDn
  generalize hs3 : ({ s2 with heap := s2.heap.push { cls := .type "set", dict := none, data := .set #[] 0 (.fresh 0 0 (!X.w.params.followText "set-order")) } } : Shared) = s3
  have I3 : Inv X pins σ (upd H2 D (OS X.w D [])) s3 := by
    rw [← hs3]
    refine I2.laid (t' := s2.toks) (fun b o e => Heap.get?_push_of_some _ e) (Nat.le_of_eq hD) ?_
    rw [← hD]
    exact oS_fresh X.w
  have h3 : s3.heap = s2.heap.push { cls := .type "set", dict := none, data := .set #[] 0 (.fresh 0 0 (!X.w.params.followText "set-order")) } := by rw [← hs3]
  have sz : ∀ b ∈ fp, b < s2.heap.objs.size := fun b hb => by
    obtain ⟨o, e, _⟩ := T.obj _ _ st2 b hb
    exact Heap.lt_size e
  have f3 : ∀ b ∈ fp, FpOk X pins (upd H2 D (OS X.w D [])) b ∧ b < s3.heap.objs.size := fun b hb => by
    have hlt := sz b hb
    refine ⟨⟨?_, (f2 b hb).2⟩, by rw [h3, Heap.size_push]; exact Nat.lt_succ_of_lt hlt⟩
    rw [upd_ne (by rw [← hD]; exact Nat.ne_of_lt hlt)]
    exact (f2 b hb).1
  have st3 : tn 0 s3.heap := T.keep _ _ _ st2 fun b _ o e => by rw [h3]; exact Heap.get?_push_of_some _ e
  have I4 := block_start I3 ok hN f3
  have pg := hg s3 (upd H2 D (OS X.w D [])) s3.heap.objs.size (cellsFrom (s3.heap.objs.size + 1) scope.names (cloFrom X.env.cells scope.names [])) fp
  have pt := ht s3 (upd H2 D (OS X.w D [])) s3.heap.objs.size (cellsFrom (s3.heap.objs.size + 1) scope.names (cloFrom X.env.cells scope.names [])) fp
  have pe := he s3 (upd H2 D (OS X.w D [])) s3.heap.objs.size (cellsFrom (s3.heap.objs.size + 1) scope.names (cloFrom X.env.cells scope.names [])) fp
  show codeAny _ _ (.compStart (.SetComp elt [⟨tg, iter, ifs, 0⟩] scope pos) 0 (.ref it) (.ref D) (compEnvC scope (cellsFrom (s3.heap.objs.size + 1) scope.names (cloFrom X.env.cells scope.names [])) s3.heap.objs.size X.env)) (compPost (model X.prog X.w) X.A X.xe use Qf (.ref D) s3.heap.objs.size) { s3 with heap := pushCells (s3.heap.push { cls := .type "dict", data := .dict #[] }) scope.names }
  have nfp : ∀ b ∈ fp, (upd H2 D (OS X.w D [])) b = none := fun b hb => (f3 b hb).1.1
  generalize hce : compEnvC scope (cellsFrom (s3.heap.objs.size + 1) scope.names (cloFrom X.env.cells scope.names [])) s3.heap.objs.size X.env = ce at I4 pg pt pe ⊢
  have cL : ce.locals = s3.heap.objs.size := by subst hce; rfl
  generalize hH3 : upd H2 D (OS X.w D []) = H3 at I3 I4 pg pt pe w0 nfp f3
  generalize hs4 : ({ s3 with heap := pushCells (s3.heap.push { cls := .type "dict", data := .dict #[] }) scope.names } : Shared) = s4 at I4 ⊢
  have st4 : tn 0 s4.heap := T.keep _ _ _ st3 fun b _ o e => by rw [← hs4]; exact pushCells_keeps _ _ _ _ (Heap.get?_push_of_some _ e)
  have stat : ∀ {σ' : L2.St} {H' : Hp} {s' : Shared}, Inv (X.blk s3 H3 scope ce fp) [] σ' H' s' → (∀ b ∈ fp, H' b = none) → ∀ b ∈ fp, FpOk (X.blk s3 H3 scope ce fp) [] H' b := fun {σ' H' s'} I' hn b hb =>
    ⟨hn b hb, (I'.ok.exf b hb).1, I'.ok.exfs b hb, .inl hb, fun x c e => (I'.ok.exf b hb).2 x c e, fun p hp => absurd (show p ∈ ([] : List (Addr × Obj)) ++ [] from hp) (by simp)⟩
  have loop : codeAny (model X.prog X.w) X.A (.compLoop (.SetComp elt [⟨tg, iter, ifs, 0⟩] scope pos) 0 (.ref it) (.ref D) ce) (compPost (model X.prog X.w) X.A X.xe use Qf (.ref D) s3.heap.objs.size) s4 := by
    refine compLoopS_any (fun n s' => ∃ i H', Inv (X.blk s3 H3 scope ce fp) [] (wipe σ (own.map (·.2))) H' s' ∧ tn i s'.heap ∧ (∀ b ∈ fp, H' b = none) ∧ W i n H') ?_ m0 ⟨0, H3, I4, st4, nfp, w0⟩
    rintro n s5 ⟨i, H5, I5, st5, n5, w5⟩
    rcases turn i n H5 w5 with ⟨stop, qq⟩ | ⟨go, Nx, hNx, step⟩
    · have td := T.done (X.blk s3 H3 scope ce fp) rfl rfl rfl hc i [] s5 _ H5 (fun _ _ => False) I5 (stat I5 n5) st5 stop
      refine thnF td fun r s6 ⟨hr, I6⟩ => ?_
      subst hr
      have I7 : Inv X pins σ H5 s6 := I3.call' (ch := fp) I6.os I6.base I6.hok I6.bare fun b hb => ⟨(f3 b hb).1.2.2.2.1, (f3 b hb).1.2.1, (f3 b hb).1.2.2.2.2.1, (f3 b hb).1.2.2.2.2.2⟩
      have nC : H5 s3.heap.objs.size = none := by
        have z : H5 ce.locals = none := I6.free
        rw [cL] at z
        exact z
      obtain ⟨m, hn, _⟩ := I6.loc
      have hn : s6.heap.Ns ce.locals m := hn
      rw [cL] at hn
      exact hRR D s3.heap.objs.size s6 m H5 I7 qq hn (I3.fpOk (Nat.le_refl _) nC)
    · have ti := T.item (X.blk s3 H3 scope ce fp) rfl rfl rfl hc i [] s5 _ H5 (fun _ _ => False) I5 (stat I5 n5) st5 go
      refine thnF ti fun r s6 ⟨u, hr, h6⟩ => ?_
      subst hr
      refine thnF h6 fun _ s7 ⟨x, H7, I7, r7, y7, st7, n7⟩ => ?_
      have I7' := I7.pinned (stat I7 n7) (T.obj _ _ st7)
      refine thnF (pg.run _ s7 _ H7 x u _ I7' r7 (step x H7 y7)) fun _ s8 ⟨σ8, H8, I8, hw8, q8⟩ => ?_
      refine thnF (pt.run _ s8 σ8 H8 _ I8 q8) fun b s9 ⟨H9, I9, q9⟩ => ?_
      have fin : ∀ {s' : Shared} {H' : Hp}, Inv (X.blk s3 H3 scope ce fp) ([] ++ pinsAt fp s7.heap) σ8 H' s' → Nx H' → ∃ m, m < n ∧ ∃ i H', Inv (X.blk s3 H3 scope ce fp) [] (wipe σ (own.map (·.2))) H' s' ∧ tn i s'.heap ∧ (∀ b ∈ fp, H' b = none) ∧ W i m H' := fun {s' H'} I' nx => by
        obtain ⟨m', hm, w'⟩ := hNx H' nx
        have pin' : ∀ b ∈ fp, ∀ o, s7.heap.get? b = some o → s'.heap.get? b = some o ∧ H' b = none := fun b hb o e =>
          let z := I'.pin (b, o) (List.mem_append_right _ (List.mem_append_right _ (mem_pinsAt hb e)))
          ⟨z.1, z.2.1⟩
        have hl : (wipe σ (own.map (·.2))).length = σ8.length := by rw [← hw8, wipe_length]
        refine ⟨m', hm, i + 1, H', (I'.unpinned (pins := [])).weak hl (fun j v e => ?_), T.keep _ _ _ st7 fun b hb o e => (pin' b hb o e).1, fun b hb => ?_, w'⟩
        · rw [← hw8] at e
          exact (wipe_some e).1
        · obtain ⟨o, e, _⟩ := T.obj _ _ st7 b hb
          exact (pin' b hb o e).2
      cases b with
      | false =>
        simp only [Bool.false_eq_true, if_false] at q9 ⊢
        exact fin I9 q9
      | true =>
        simp only [if_true] at q9 ⊢
        refine thnF (pe.run _ s9 σ8 H9 _ I9 q9) fun z s10 ⟨yv, H10, I10, r10, acc, hD10, ⟨⟨cb, ey⟩, hz10⟩, nx⟩ => ?_
        subst ey
        obtain ⟨tk, rfl⟩ := (show ∃ tk, z = Value.int cb tk from r10)
        exact addS_ok (X := X.blk s3 H3 scope ce fp) I10 hD10 hz10 fun s11 I11 => fin I11 nx
  exact codeAny_compStart_set loop (T.self X.A 0 _ _ _ st4 loop)
theorem pe_scO {elt tg iter : Expr} {ifs : List Expr} {scope : Scope} {own : List (PySem.Str × Nat)} {pos : Pos} {wi : TI} {g : TG} {tt : TT} {te : TE} (hc : X.calm = true) (hN : X.N.Nodup) (hi : PI X tg iter wi) (ok : BlkOk X.N X.env.scope scope own)
    (hg : ∀ (s : Shared) (H : Hp) (C : Addr) (cl : List (PySem.Str × Addr)) (fp : List Addr), PG (X.blk s H scope (compEnvC scope cl C X.env) fp) tg g) (ht : ∀ (s : Shared) (H : Hp) (C : Addr) (cl : List (PySem.Str × Addr)) (fp : List Addr), PTs (X.blk s H scope (compEnvC scope cl C X.env) fp) ifs tt)
    (he : ∀ (s : Shared) (H : Hp) (C : Addr) (cl : List (PySem.Str × Addr)) (fp : List Addr), PE (X.blk s H scope (compEnvC scope cl C X.env) fp) elt te) (hs : ∀ x, foldedSetIterable iter X.env x = pure x) :
    PE X (.SetComp elt [⟨tg, iter, ifs, 0⟩] scope pos) (tLcO (OS X.w) OkS wi g tt te (own.map (·.2))) := by
  refine ⟨fun pins s σ H Q I h => ?_⟩
  rw [eval_SetComp]
  refine scO_core hc hN I hi ok hg ht he hs h fun D C s' m H' I' q hn f => ⟨m, hn, fun h'' sb => ?_⟩
  obtain ⟨f0, f1, f2, f3, f4, f5⟩ := f
  exact ⟨.ref D, H', I'.turned (t' := s'.toks) (fun b o hb e => (sb.2 b hb).trans e) f0 f1 f3 f4 f5, rfl, q⟩
def tLenS (w : World) (ta : TE) : TE := fun σ H Q => ta σ H fun x H1 => ∃ (D : Addr) (ns : List Int), x = .ref D ∧ H1 D = some (OS w D (ns.map V.int)) ∧ ns.length ≤ 4000 ∧ Q (.int ((nubI ns).length : Nat)) H1
theorem map_int_inj : ∀ {a b : List Int}, a.map V.int = b.map V.int → a = b
  | [], [], _ => rfl
  | x :: a, y :: b, h => by
    simp only [List.map_cons, List.cons.injEq, V.int.injEq] at h
    rw [h.1, map_int_inj h.2]
  | [], y :: b, h => by simp at h
  | x :: a, [], h => by simp at h
theorem pe_lenSC {a : Expr} {ta : TE} {p pos : Pos} (hc : X.calm = true) (hg : Gl X "len") (hm : X.mg "len" = none) (ha : PE X a ta)
    (na : starEach [a] X.env = (false, eval a X.env) :: starEach [] X.env) : PE X (.Call (.Name "len" p) [a] [] pos) (tLenS X.w ta) := by
  refine ⟨fun pins s σ H Q I h => ?_⟩
  refine Call_ (ld_blt I hg hm boot_len ?_)
  refine PyProof.Rows.callWith_builtin1 (PyProof.Rows.args_cons (thn (ha.run pins s σ H _ I h) fun v s1 ⟨x, H1, I1, r1, q1⟩ => PyProof.Rows.args_nil ?_) na) na rfl
  obtain ⟨D, ns, rfl, hq, hl, q1⟩ := q1
  cases r1
  obtain ⟨ns', c, e0, hc', hS⟩ := (I1.hok D _ hq).1
  cases map_int_inj e0
  obtain ⟨o, es, ep, t, ho, hex, hd, g, nd, hmm, hb, hf, hn, _⟩ := hS
  have e : c = (nubI ns).length := by
    have := nodup_len nd (nubI_nodup ns) fun k => by rw [← hmm k, nubI_mem, decide_eq_true_eq]
    rw [List.length_map, Array.length_toList, hn] at this
    exact this
  exact call_len_set ho hex hd hf (by rw [hn] <;> omega) ⟨.int (nubI ns).length, H1, I1.tok _, ⟨_, by rw [hn, e]⟩, q1⟩
end
section
variable {X : Cx} {iov : Nat → Option V} {ρ ρ1 ρ5 : Env} {ds : List D} {ts : List T} {wi wt we wb : Bool} {t : T}
theorem s_lsc {elt tg iter : Expr} {ifs : List Expr} {scope : Scope} {own : List (PySem.Str × Nat)} {p q pos : Pos} {tgt : Tgt} {ch : List Nat} {evt : Env → Option (Bool × Env)} {eve : Env → Option (Val × Env)} (hc : X.calm = true) (hN : X.N.Nodup)
    (hgl : Gl X "len") (hm : X.mg "len" = none)
    (hwt : wt = true → wb = true) (hwe : we = true → wb = true) (hi : PI X tg iter (tIW wb X.K iov ρ ds ρ1 wi)) (ok : BlkOk X.N X.env.scope scope own) (hch : ∀ i ∈ ch, i ∈ own.map (·.2))
    (hg : ∀ (s : Shared) (H : Hp) (C : Addr) (cl : List (PySem.Str × Addr)) (fp : List Addr) (ρ : Env) (d : D) (ρ2 : Env), bindD ρ tgt d = some ρ2 → PG (X.blk s H scope (compEnvC scope cl C X.env) fp) tg (tG X.K iov ρ ch d ρ2))
    (ht : ∀ (s : Shared) (H : Hp) (C : Addr) (cl : List (PySem.Str × Addr)) (fp : List Addr) (ρ : Env) (b : Bool) (ρ2 : Env), evt ρ = some (b, ρ2) → PTs (X.blk s H scope (compEnvC scope cl C X.env) fp) ifs (tT X.K iov ρ b ρ2 wt))
    (he : ∀ (s : Shared) (H : Hp) (C : Addr) (cl : List (PySem.Str × Addr)) (fp : List Addr) (ρ : Env) (v : Val) (ρ2 : Env), eve ρ = some (v, ρ2) → PE (X.blk s H scope (compEnvC scope cl C X.env) fp) elt (tE X.K iov ρ v ρ2 we))
    (hs : ∀ x, foldedSetIterable iter X.env x = pure x)
    (hl : lcLoop (lcStep tgt evt eve) (own.map (·.2)) (wipeE ρ1 (own.map (·.2))) ds [] = some (ts, ρ5)) (ho : ownOk ρ1 (own.map (·.2)) = true) (h : appX .lset [.lst ts] = some t) :
    PE X (.Call (.Name "len" p) [.SetComp elt [⟨tg, iter, ifs, 0⟩] scope q] [] pos) (tE X.K iov ρ (.t t) (restore ρ1 (own.map (·.2)) ρ5) true) := by
  have h : appX2 .lset [.lst ts] = some t := h
  simp only [appX2] at h
  split at h
  · rename_i ns hns
    split at h
    · rename_i hz
      cases h
      have hz : ns.length ≤ 4000 := of_decide_eq_true hz
      obtain ⟨ds', hf, hn⟩ := Option.bind_eq_some_iff.mp hns
      have hf : T.unfzs ts = some ds' := hf
      have hd := intsOf_eq hn
      have hts := unfzs_eq hf
      subst hd
      have htl : ts.length = ns.length := by rw [hts]; simp [fzs]
      refine PE.imp' (pe_lenSC hc hgl hm (pe_scO hc hN hi ok (fun s H C cl fp => PG.all fun a : { p : Env × D × Env // bindD p.1 tgt p.2.1 = some p.2.2 } => hg s H C cl fp a.1.1 a.1.2.1 a.1.2.2 a.2)
        (fun s H C cl fp => PTs.all fun a : { p : Env × Bool × Env // evt p.1 = some p.2 } => ht s H C cl fp a.1.1 a.1.2.1 a.1.2.2 a.2)
        (fun s H C cl fp => PE.all fun a : { p : Env × Val × Env // eve p.1 = some p.2 } => he s H C cl fp a.1.1 a.1.2.1 a.1.2.2 a.2) hs) rfl) ?_
      rintro σ H Q ⟨F, fp, S, k⟩
      refine lcO_TE hwt hwe hch hl (fun F H acc ts' fq y t fv r ry pre => ?_) ho ⟨F, fp, S, fun D acc H1 F1 fp1 fq S1 hD nF rs P => ?_⟩
      · have e := r.len
        have hle := pre.length_le
        rw [List.length_append] at hle
        simp only [List.length_cons, List.length_nil] at hle
        have mem : t ∈ ts := pre.subset (by simp)
        rw [hts] at mem
        have : ∃ k, t = .fz (.int k) := by
          simp only [fzs, List.mem_map] at mem
          obtain ⟨d, ⟨k, _, rfl⟩, rfl⟩ := mem
          exact ⟨k, rfl⟩
        obtain ⟨k, rfl⟩ := this
        refine ⟨⟨k, ?_⟩, by unfold scanBound; omega⟩
        simp only [TRep, RepD] at ry
        exact ry.2
      · obtain ⟨_, rd⟩ := unfzs_rep hf rs
        have ea := rep_ints rd
        subst ea
        exact ⟨D, ns, rfl, hD, hz, k _ H1 F1 fp1 [] S1 (by show TRep _ _ _ _ _ _; simp only [TRep, RepD, and_self]) P.drop0⟩
    · cases h
  · cases h
end
section
variable {X : Cx} {iov : Nat → Option V} {t x y z : T} {b b1 b2 : Bool} {ρ ρ1 ρ2 ρ3 ρ' : Env} {wr wa wb wc : Bool} {va vb vc : Val} {e e1 e2 e3 tg : Expr} {es : List Expr} {pos : Pos} {ds : List D} {F : Addr → Prop} {H : Hp} {fp : Fp} {σ : L2.St}
def rGetA (K : PySem.W.Frag) : V → V → Hp → VK → Prop := fun o i H Q => (∃ a v, o = .ref a ∧ DGet H a i (some v) ∧ Q v H) ∨ (∃ p xs k v, o = .ref p ∧ i = .int k ∧ SqL K H p xs ∧ atI xs k = some v ∧ Q v H)
theorem pg_any (hu : X.A.units + 1 < cLine) : PGet X (rGetA X.K) := by
  intro pins s σ H o i ov iv Q I ro ri h
  rcases h with ⟨a, v, rfl, g, q⟩ | ⟨p, xs, k, z, rfl, rfl, hq, he, q⟩
  · cases ro
    exact d_getItem hu I g ri fun w' s' I' rw' => ⟨v, H, I', rw', q⟩
  · cases ro
    obtain ⟨t, rfl⟩ := ri
    obtain ⟨its, r, pl, hz⟩ := I.list hq
    obtain ⟨j, h1, h2, h3, h4, h5⟩ := atI_get he
    obtain ⟨w, ew, rw'⟩ := r.get h2
    have hl := r.length
    have hn := line63
    have fin : EP X pins σ Q w s := ⟨z, H, I, rw', q⟩
    by_cases h0 : 0 ≤ k
    · have hj : k.toNat = j := by
        rw [seqIndex_of h0 h5] at h1
        exact Option.some.inj h1
      exact wpAny_getItem_list pl.isList h0 (by omega) (by rw [hj]; simpa using ew) fin
    · have hj : (k + (its.toArray.size : Int)).toNat = j := by
        rw [seqIndex_neg (by omega) h4] at h1
        rw [List.size_toArray, ← hl]
        exact Option.some.inj h1
      exact wpAny_getItem_list_neg pl.isList (by omega) (by rw [List.size_toArray] <;> omega) (by omega) (by rw [hj]; simpa using ew) fin
def rSetA : V → V → V → Hp → (Hp → Prop) → Prop := fun o i v H Q => rSetL o i v H Q ∨ rSetD o i v H Q
theorem ps_any (hu : X.A.units + 1 < cLine) : PSet X rSetA := by
  intro pins s σ H o i v ov iv u Q I ro ri rv h
  rcases h with h | h
  · exact set_list pins s σ H o i v ov iv u Q I ro ri rv h
  · exact set_dict hu pins s σ H o i v ov iv u Q I ro ri rv h
theorem rdInt_get {K : PySem.W.Frag} {wv iv : V} {vi : T} {n : Int} {fq fi : List Addr} (tr : TRep K F H wv x fq) (ti : TRep K F H iv vi fi) (hr : rdInt x vi = some n) {Q : VK} (q : Q (.int n) H) : rGetA K wv iv H Q := by
  unfold rdInt at hr
  split at hr
  · rename_i ks ts
    split at hr
    · rename_i n' hd
      cases hr
      simp only [TRep] at tr
      obtain ⟨a, vs, fr, rfl, rfl, nF, hH, hlen, nk, hrr⟩ := tr
      unfold dGet at hd
      split at hd
      · rename_i d
        split at hd
        · rename_i kk hk
          split at hd
          · rename_i t0 hf
            simp only [TRep] at ti
            have ek := keyOf_rep hk ti.2
            subst ek
            obtain ⟨v, f2, e1, r⟩ := (findK_T hrr hlen).1 _ hf
            have et : t0 = .fz (.int n) := by
              cases t0 with
              | fz d0 => simp [T.unfz] at hd; rw [hd]
              | _ => simp [T.unfz] at hd
            subst et
            have ev := trep_int r
            subst ev
            exact .inl ⟨a, .int n, rfl, by rw [← e1]; exact DGet.k hH, q⟩
          · cases hd
        · cases hd
      · cases hd
    · cases hr
  · rename_i ts
    split at hr
    · rename_i n' l hd
      cases hr
      simp only [TRep] at tr
      obtain ⟨a, vs, fr, rfl, rfl, nF, hH, hrr⟩ := tr
      cases vi with
      | fz d =>
        cases d with
        | int i =>
          simp only [getIx] at hd
          split at hd
          · rename_i l hl
            obtain ⟨t0, e0, e1⟩ := Option.map_eq_some_iff.mp hd
            cases e1
            have hl2 : l < ts.length := (List.getElem?_eq_some_iff.mp e0).1
            obtain ⟨t1, v0, h4, h5⟩ := hrr.getV hl2
            rw [e0] at h4; cases h4
            obtain ⟨g1, g2, g3, e3, rv, _⟩ := TReps.upd hrr e0 h5
            have ev := trep_int rv
            subst ev
            have ei := trep_int ti
            subst ei
            exact .inr ⟨a, vs, i, .int n, rfl, rfl, .inl (.inl hH), by
              have hl' : ixN vs.length i = some l := by rw [hrr.len]; exact hl
              unfold atI; rw [hl']; exact h5, q⟩
          · cases hd
        | _ => simp [getIx] at hd
      | _ => simp [getIx] at hd
    · cases hr
  · cases hr
theorem st_augS (hu : X.A.units + 1 < cLine) {op : Operator} {i : T} {j : Nat} {k : Option Nat} {n m r : Int} {x1 : T} {tpos : Pos} (hn : noSl e2 = true) (hop : PIp X op (ipC n m r)) (ho : PE X e1 (tE X.K iov ρ (.pt j k) ρ1 wa)) (hi : PE X e2 (tE X.K iov ρ1 (.t i) ρ2 wb)) (hc : PE X e3 (tE X.K iov ρ2 (.t (.fz (.int m))) ρ3 wc))
    (st : stands (.pt j k) (wb || wc) = true) (hg : getPt ρ2 j k = some x1) (hr : rdInt x1 i = some n) (hg3 : getPt ρ3 j k = some x) (hx : setIx x i (.fz (.int r)) = some y) (hs : setPt (kIx ρ3 j k x i) j k y = some ρ') :
    PS X (.AugAssign (.Subscript e1 e2 tpos) op e3 pos) (tS X.K iov ρ (.nx ρ')) := by
  have ha : ∀ ov iv new, augStore e2 ov iv new = (do holding [new, ov, iv] (setItem ov iv new); release [new, ov, iv] []; pure .next) := by
    intro ov iv new
    cases e2 <;> first | rfl | cases hn
  refine PS.imp' (ps_augS ho hi (pg_any hu) hc hop (ps_any hu) ha) ?_
  rintro D σ H ⟨F, fp, S, kk⟩
  have st1 : stands (.pt j k) wb = true := by cases k <;> cases wb <;> simp_all [stands]
  have st2 : stands (.pt j k) wc = true := by cases k <;> cases wc <;> simp_all [stands]
  refine ⟨F, fp, S, fun wv H1 F1 fp1 fa S1 V1 P1 => ?_⟩
  have e0 : fa = [] := by cases k <;> exact V1.1
  subst e0
  refine ⟨F1, fp1, S1, fun iv H2 F2 fp2 fi S2 V2 P2 => ?_⟩
  have V12 := V1.step P2 (fun i b hb => (S1.fpF i b hb).1) (fun _ _ _ z => (nomatch z)) st1
  obtain ⟨_, fq, _, _, tr⟩ := S2.gtPt hg V12
  have V2 : TRep X.K F2 H2 iv i fi := V2
  refine rdInt_get tr V2 hr ?_
  refine ⟨F2, fp2, S2, fun cv H3 F3 fp3 fc S3 V3 P3 => ⟨rfl, trep_int V3, ?_⟩⟩
  have V13 := V12.step P3 (fun i b hb => (S2.fpF i b hb).1) (fun _ _ _ z => (nomatch z)) st2
  have V23 : TRep X.K F3 H3 iv i fi := P3.tmp (fun i b hb => (S2.fpF i b hb).1) V2 P2.disv
  have P03 : Post F H fp F3 H3 fp3 [] ((wa || wb) || wc) := by
    have z := P1.trans P2 fun _ h => (nomatch h)
    have z2 := z.drop0.trans P3 fun _ h => (nomatch h)
    exact z2.drop0
  obtain ⟨a, o, rfl, h1, fp5, S5, P5⟩ := sto_T hu S3 V13 ⟨fi, V23⟩ (show TRep X.K F3 H3 (.int r) (.fz (.int r)) [] by simp only [TRep, RepD, and_self]) P03 hg3 hx hs
  have fin := kk σ _ F3 fp5 S5 P5
  rcases h1 with ⟨_, vs, n, rfl, hH, l, hl, rfl⟩ | ⟨_, h1⟩
  · exact .inl ⟨a, vs, n, l, rfl, rfl, hH, hl, fin⟩
  · exact .inr ⟨a, _, rfl, h1, fin⟩
theorem st_sdf (hu : X.A.units + 65 < cLine) {dk d : D} {j : Nat} {k : Option Nat} {ks1 ks : List Key} {ts1 ts : List T} {kk : Key} {apos cpos : Pos} (m : M2 X e1 "setdefault" apos e2 e3 cpos) (hsw : swapsWith (.Call (.Attribute e1 "setdefault" apos) [e2, e3] [] cpos) none pos.line X.env = pure false)
    (ho : PE X e1 (tE X.K iov ρ (.pt j k) ρ1 wa)) (hb : PE X e2 (tE X.K iov ρ1 (.t (.fz dk)) ρ2 wb)) (hc : PE X e3 (tE X.K iov ρ2 (.t (.fz d)) ρ3 wc)) (st : stands (.pt j k) (wb || wc) = true) (hg1 : getPt ρ1 j k = some (.dct ks1 ts1)) (hg3 : getPt ρ3 j k = some (.dct ks ts)) (hk : keyOf dk = some kk) (hz : ks.length < sizeLine)
    (hf : ((∃ t0, findK kk ks ts = some t0) ∧ ρ' = ρ3) ∨ (findK kk ks ts = none ∧ ∃ y, setIx (.dct ks ts) (.fz dk) (.fz d) = some y ∧ setPt (kIx ρ3 j k (.dct ks ts) (.fz dk)) j k y = some ρ')) :
    PS X (.Expr (.Call (.Attribute e1 "setdefault" apos) [e2, e3] [] cpos) pos) (tS X.K iov ρ (.nx ρ')) := by
  refine PS.imp' (ps_expr (pe_dsetd ho hb hc m) hsw) ?_
  rintro D σ H ⟨F, fp, S, fin⟩
  have st1 : stands (.pt j k) wb = true := by cases k <;> cases wb <;> simp_all [stands]
  have st2 : stands (.pt j k) wc = true := by cases k <;> cases wc <;> simp_all [stands]
  refine ⟨F, fp, S, fun wv H1 F1 fp1 fa S1 V1 P1 => ?_⟩
  have e0 : fa = [] := by cases k <;> exact V1.1
  subst e0
  obtain ⟨_, _, _, _, tr1⟩ := S1.gtPt hg1 V1
  simp only [TRep] at tr1
  obtain ⟨a, vs1, fr1, rfl, _, _, hH1, _⟩ := tr1
  refine ⟨a, rfl, .inl ⟨_, .inl hH1⟩, F1, fp1, S1, fun kv H2 F2 fp2 fi S2 V2 P2 => ⟨F2, fp2, S2, fun cv H3 F3 fp3 fc S3 V3 P3 => ?_⟩⟩
  have V12 := V1.step P2 (fun i b hb => (S1.fpF i b hb).1) (fun _ _ _ z => (nomatch z)) st1
  have V2 : TRep X.K F2 H2 kv (.fz dk) fi := V2
  have V3 : TRep X.K F3 H3 cv (.fz d) fc := V3
  have V13 := V12.step P3 (fun i b hb => (S2.fpF i b hb).1) (fun _ _ _ z => (nomatch z)) st2
  have V23 : TRep X.K F3 H3 kv (.fz dk) fi := P3.tmp (fun i b hb => (S2.fpF i b hb).1) V2 P2.disv
  have P03 : Post F H fp F3 H3 fp3 [] ((wa || wb) || wc) := by
    have z := P1.trans P2 fun _ h => (nomatch h)
    have z2 := z.drop0.trans P3 fun _ h => (nomatch h)
    exact z2.drop0
  obtain ⟨_, fq, _, _, tr⟩ := S3.gtPt hg3 V13
  simp only [TRep] at tr
  obtain ⟨a', vs, fr, ea, _, nF, hH, hlen, nk, hrr⟩ := tr
  cases ea
  have ek : kv = kV kk := by
    simp only [TRep] at V23
    exact keyOf_rep hk V23.2
  refine ⟨ks.zip vs, kk, hH, ek, by rw [List.length_zip, hlen, Nat.min_self]; exact hz, fun v hv => ?_, fun hv => ?_⟩
  · rcases hf with ⟨_, rfl⟩ | ⟨hf, _⟩
    · exact fin σ H3 F3 fp3 S3 P03.wrT
    · have := (findK_T hrr hlen).2 hf
      rw [this] at hv; cases hv
  · rcases hf with ⟨⟨t0, hf⟩, _⟩ | ⟨_, y, hx, hs⟩
    · obtain ⟨v, f2, e1, r⟩ := (findK_T hrr hlen).1 _ hf
      rw [e1] at hv; cases hv
    · have tv : TRep X.K F3 H3 cv (.fz d) [] := by simp only [TRep, true_and] at V3 ⊢; exact V3.2
      obtain ⟨a', o, ea, h1, fp5, S5, P5⟩ := sto_T (by omega) S3 V13 ⟨fi, V23⟩ tv P03 hg3 hx hs
      cases ea
      rcases h1 with ⟨⟨_, z⟩, _⟩ | ⟨_, h1⟩
      · cases z
      · have eo : upd H3 a o = upd H3 a (.dK (putK (ks.zip vs) kk cv)) := by
          rcases h1 with ⟨kvs', k', q1, q2, _, q3⟩ | ⟨kvs', k', b', q1, _⟩
          · rw [hH] at q1; cases q1
            subst ek
            have : kk = k' := by
              cases kk <;> cases k' <;> simp [kV] at q2 <;> rw [q2]
            subst this
            exact q3
          · rw [hH] at q1; cases q1
        rw [← eo]
        exact fin σ _ F3 fp5 S5 P5
theorem SR.iovC {K : PySem.W.Frag} {iov' : Nat → Option V} {ex : List Nat} (S : SR K iov ex F H σ ρ fp) (h : ∀ j : Nat, ((∃ t, ρ[j]? = some (Slot.io t)) ∨ ρ[j]? = some Slot.lk) → iov' j = iov j) : SR K iov' ex F H σ ρ fp := by
  refine ⟨S.len, fun i s e hx => ?_, S.exc, S.out, S.nod, S.dis, S.trk⟩
  have r := S.slot i s e hx
  cases s with
  | no => exact r
  | ow t => exact r
  | io t => obtain ⟨v, a, c, r⟩ := r; exact ⟨v, a, by rw [h i (.inl ⟨t, e⟩)]; exact c, r⟩
  | al j k => exact r
  | lk => obtain ⟨z, v, a, c⟩ := r; exact ⟨z, v, a, by rw [h i (.inr e)]; exact c⟩
theorem for_TE {tgt : Tgt} {ch : List Nat} {f : Env → Option Out} {o : Out} {D : Ends} {g : TG} {tb : TS} {J : It} {F1 : Addr → Prop} {H1 : Hp} {fp1 : Fp} {a : Addr} (hgT : ∀ (ρ : Env) (d : Mv.D) (ρ2 : Env), bindD ρ tgt d = some ρ2 → ∀ v σ H Q, tG X.K iov ρ ch d ρ2 v σ H Q → g v σ H Q)
    (hbT : ∀ (ρ : Env) (o : Out), f ρ = some o → ∀ D σ H, tS X.K iov ρ o D σ H → tb D σ H) (hl : forLoop (fun ρ d => (bindD ρ tgt d).bind f) ρ1 ds = some o) (S1 : SR X.K iov [] F1 H1 σ ρ1 fp1) (k1 : OutK X.K iov F1 H1 fp1 D o) (an : ∀ j, a ∉ fp1 j)
    (it : ∀ F2 H2, (∀ b, F1 b → F2 b) → (∀ b o, (b = a ∨ F1 b) → H1 b = some o → H2 b = some o) → (∀ (i : Nat) (d : Mv.D), ds[i]? = some d → J.go i H2 ∧ ∀ x H3, J.yld i H2 x H3 → PureRes X.K F2 H2 (.fz d) x H3) ∧ J.stop ds.length H2) :
    tFor (fun σ H R => R J H) g tb D σ H1 := by
  refine ⟨fun i m σ H => ∃ F fp ρ', SR X.K iov [] F H σ ρ' fp ∧ Post F1 H1 fp1 F H fp [] true ∧ forLoop (fun ρ d => (bindD ρ tgt d).bind f) ρ' (ds.drop i) = some o ∧ m = ds.length - i ∧ i ≤ ds.length,
    ⟨ds.length, F1, fp1, ρ1, S1, .refl S1, hl, rfl, Nat.zero_le _⟩, ?_⟩
  rintro i m σ H ⟨F, fp, ρ', S, P, run, hm, hle⟩
  have hk1 : ∀ b o, (b = a ∨ F1 b) → H1 b = some o → H b = some o := fun b o g e => P.keep b o e (.inr fun j hj => g.elim (fun z => an j (z ▸ hj)) (S1.fpF j b hj).1)
  have it' := it F H P.sub hk1
  by_cases hi : i < ds.length
  · refine .inr ⟨(it'.1 i ds[i] (by rw [List.getElem?_eq_getElem hi])).1, fun σ H => ∃ F fp ρ', SR X.K iov [] F H σ ρ' fp ∧ Post F1 H1 fp1 F H fp [] true ∧ forLoop (fun ρ d => (bindD ρ tgt d).bind f) ρ' (ds.drop (i + 1)) = some o ∧ ds.length - (i + 1) = ds.length - (i + 1) ∧ i + 1 ≤ ds.length, fun σ' H' w' => ⟨ds.length - (i + 1), by omega, w'⟩, fun x H2 hy => ?_⟩
    have pr := (it'.1 i ds[i] (by rw [List.getElem?_eq_getElem hi])).2 x H2 hy
    obtain ⟨F2, fx, S2, tx, P2⟩ := S.pure pr
    have rx : RepD X.K F2 H2 x ds[i] := by simp only [TRep] at tx; exact tx.2
    rw [List.drop_eq_getElem_cons hi] at run
    unfold forLoop at run
    cases eb : bindD ρ' tgt ds[i] with
    | none => simp [eb] at run
    | some ρ2 =>
      refine hgT ρ' ds[i] ρ2 eb _ _ _ _ ⟨F2, fp, S2, rx, fun σ3 fp3 S3 le3 l3 n3 => ?_⟩
      cases ef : f ρ2 with
      | none => simp [eb, ef] at run
      | some r =>
        refine hbT ρ2 r ef _ _ _ ⟨F2, fp3, S3, ?_⟩
        have P13 : Post F1 H1 fp1 F2 H2 fp3 [] true := by
          have := (P.trans P2.drop0 fun _ h => (nomatch h)).shrink le3
          simpa using this
        simp only [eb, ef, Option.bind_some] at run
        cases r with
        | nx ρ4 => exact fun σ' H' F' fp' S' P' => ⟨F', fp', ρ4, S', P13.trans P' fun _ h => (nomatch h), run, rfl, hi⟩
        | ct ρ4 => exact fun σ' H' F' fp' S' P' => ⟨F', fp', ρ4, S', P13.trans P' fun _ h => (nomatch h), run, rfl, hi⟩
        | bk ρ4 =>
          cases run
          exact k1.after P13
        | rt t ρ4 =>
          cases run
          exact k1.after P13
  · have e : i = ds.length := Nat.le_antisymm hle (Nat.le_of_not_lt hi)
    subst e
    rw [List.drop_length] at run
    simp only [forLoop, Option.some.injEq] at run
    subst run
    exact .inl ⟨it'.2, k1 σ H F fp S P⟩
theorem st_forl {body : List Stmt} {tg : Expr} {tgt : Tgt} {ch : List Nat} {f : Env → Option Out} {i : Nat} {nm : Str} {ts : List T} {o o' : Out} {npos : Pos}
    (hp : PassesOwn (model X.prog X.w) X.A X.env X.xe) (hc : X.calm = true) (hn : X.N[i]? = some nm) (hN : X.N.Nodup) (hv : Vis X.env.scope nm) (hd : (nm == ("__debug__" : Str)) = false) (hcd : (nm == ("__classdict__" : Str)) = false)
    (hi : ρ[i]? = some (Slot.io (.lst ts))) (h0 : T.unfzs ts = some ds)
    (hg : ∀ (ρ : Env) (d : Mv.D) (ρ2 : Env), bindD ρ tgt d = some ρ2 → PG X tg (tG X.K iov ρ ch d ρ2)) (hb : ∀ (ρ : Env) (o : Out), f ρ = some o → PSs X body (tS X.K iov ρ o))
    (hl : forLoop (fun ρ d => (bindD ρ tgt d).bind f) ((kills i .none ρ).set i .lk) ds = some o') (ho : forlEnd i (.lst ts) o' = some o) :
    PS X (.For tg (.Name nm npos) body [] pos) (tS X.K iov ρ o) := by
  have hpi : PI X tg (.Name nm npos) (iList X.K (tVar i)) := pi_list (pe_var hn hv hd hcd)
  have hfor := ps_for (pos := pos) hp hc hpi (PG.all fun a : { p : Env × Mv.D × Env // bindD p.1 tgt p.2.1 = some p.2.2 } => hg a.1.1 a.1.2.1 a.1.2.2 a.2) (PSs.all fun a : { p : Env × Out // f p.1 = some p.2 } => hb a.1.1 a.1.2 a.2) (fun _ => rfl)
  refine PS.imp' hfor fun D σ H h => ?_
  obtain ⟨F, fp, S, k⟩ := h
  obtain ⟨v, hv, hio, tr⟩ := S.slot i _ hi (by simp)
  simp only [TRep] at tr
  obtain ⟨a, vs, fq, rfl, hfp, nF, ha, hr⟩ := tr
  rw [unfzs_eq h0] at hr
  obtain ⟨rfl, rds⟩ := TReps.fzs.mp hr
  have S0 : SR X.K iov [] F H σ ((kills i .none ρ).set i .lk) (updF fp i []) := S.rebind ⟨_, hi⟩ rfl (fun _ _ => rfl) List.nodup_nil (fun _ _ _ _ z => (nomatch z)) ⟨updF_same, .ref a, hv, hio⟩
  have an : ∀ j, a ∉ updF fp i [] j := fun j hb => by
    by_cases hj : j = i
    · subst hj; rw [updF_same] at hb; cases hb
    · rw [updF_ne hj] at hb
      exact hj (S.dis j i a hb (by rw [hfp]; simp))
  have facts : ∀ {F2 : Addr → Prop} {H2 : Hp} {fp2 : Fp} {fa : List Addr}, Post F H (updF fp i []) F2 H2 fp2 fa true → H2 a = some (.lst vs) ∧ ¬ F2 a ∧ (∀ j, a ∉ fp2 j) ∧ a ∉ fa := fun P2 => by
    refine ⟨P2.keep a _ ha (.inr an), fun f => ?_, fun j hb => ?_, fun hb => ?_⟩
    · rcases P2.new a f with z | ⟨j, z⟩ | z
      · exact nF z
      · exact an j z
      · rw [ha] at z; cases z
    · rcases P2.fresh j a hb with ⟨j', z⟩ | z
      · exact an j' z
      · rw [ha] at z; cases z
    · rcases P2.freshv a hb with ⟨j', z⟩ | z
      · exact an j' z
      · rw [ha] at z; cases z
  have post : ∀ {F2 : Addr → Prop} {H2 : Hp} {fp2 : Fp} {fa : List Addr}, Post F H (updF fp i []) F2 H2 fp2 fa true → Post F H fp F2 H2 (updF fp2 i [a]) fa true := fun {F2 H2 fp2 fa} P2 => by
    obtain ⟨e2, n2, f2, fa2⟩ := facts P2
    have low : ∀ j b, b ∈ updF fp i [] j → b ∈ fp j := updF_le (fun _ z => by simp at z)
    refine ⟨P2.sub, fun b hb => ?_, fun b o e hw => ?_, P2.there, fun j b hb => ?_, fun b hb => ?_, fun j b hb hc => ?_, P2.nodv⟩
    · rcases P2.new b hb with z | ⟨j, z⟩ | z
      · exact .inl z
      · exact .inr (.inl ⟨j, low j b z⟩)
      · exact .inr (.inr z)
    · refine P2.keep b o e (.inr fun j z => ?_)
      rcases hw with hw | hw
      · cases hw
      · exact hw j (low j b z)
    · by_cases hj : j = i
      · subst hj
        rw [updF_same] at hb
        have hba : b = a := by simpa using hb
        subst hba
        exact .inl ⟨j, by rw [hfp]; simp⟩
      · rw [updF_ne hj] at hb
        exact (P2.fresh j b hb).imp (fun ⟨j', z⟩ => ⟨j', low j' b z⟩) id
    · exact (P2.freshv b hb).imp (fun ⟨j', z⟩ => ⟨j', low j' b z⟩) id
    · by_cases hj : j = i
      · subst hj
        rw [updF_same] at hb
        have hba : b = a := by simpa using hb
        subst hba
        exact fa2 hc
      · rw [updF_ne hj] at hb; exact P2.disv j b hb hc
  have back : ∀ {σ2 : L2.St} {F2 : Addr → Prop} {H2 : Hp} {fp2 : Fp} {fa : List Addr} {ρ2 : Env}, SR X.K iov [] F2 H2 σ2 ρ2 fp2 → Post F H (updF fp i []) F2 H2 fp2 fa true → ρ2[i]? = some .lk → SR X.K iov [] F2 H2 σ2 ((kills i .none ρ2).set i (.io (.lst ts))) (updF fp2 i [a]) := fun {σ2 F2 H2 fp2 fa ρ2} S2 P2 eno => by
    obtain ⟨e2, n2, f2, _⟩ := facts P2
    obtain ⟨_, w, w1, w2⟩ := S2.slot i _ eno (by simp)
    rw [hio] at w2
    cases w2
    refine S2.rebind ⟨_, eno⟩ rfl (fun _ _ => rfl) (by simp) (fun j b hj hb hc => by
      simp only [List.mem_singleton] at hc
      subst hc
      exact f2 j hb) ⟨.ref a, w1, hio, ?_⟩
    rw [updF_same]
    simp only [TRep]
    refine ⟨a, vs, [], rfl, rfl, n2, e2, ?_⟩
    rw [unfzs_eq h0]
    exact TReps.fzs.mpr ⟨rfl, RepDs.mono P2.sub (fun b o hf e => P2.keep b o e (.inr fun j z => by
      have := updF_le (fun _ z => by simp at z) j b z
      exact (S.fpF j b this).1 hf)) ds vs rds⟩
  have key := for_TE (X := X) (iov := iov) (ds := ds) (ch := ch) (J := Itl X.K a) (a := a) (g := fun v σ H Q => ∃ a : { p : Env × Mv.D × Env // bindD p.1 tgt p.2.1 = some p.2.2 }, tG X.K iov a.1.1 ch a.1.2.1 a.1.2.2 v σ H Q)
    (tb := fun D σ H => ∃ a : { p : Env × Out // f p.1 = some p.2 }, tS X.K iov a.1.1 a.1.2 D σ H) (fun ρ d ρ2 e v σ H Q q => ⟨⟨(ρ, d, ρ2), e⟩, q⟩) (fun ρ o e D σ H q => ⟨⟨(ρ, o), e⟩, q⟩) hl (σ := σ) S0 (D := D) ?_ an fun F2 H2 hF hk => ?_
  · exact ⟨.ref a, hv, a, rfl, ⟨vs, .inl (.inl ha)⟩, key⟩
  · cases o' with
    | nx ρ1 =>
      intro σ2 H2 F2 fp2 S2 P2
      simp only [forlEnd] at ho
      split at ho
      · rename_i eno
        cases ho
        exact k σ2 H2 F2 (updF fp2 i [a]) (back S2 P2 eno) (post P2)
      · cases ho
    | rt t ρ1 =>
      intro v σ2 H2 F2 fp2 fpv S2 V2 P2
      simp only [forlEnd] at ho
      split at ho
      · rename_i eno
        cases ho
        exact k v σ2 H2 F2 (updF fp2 i [a]) fpv (back S2 P2 eno) V2 (post P2)
      · cases ho
    | bk ρ1 => cases ho
    | ct ρ1 => cases ho
  · have r2 : SqL X.K H2 a vs := .inl (.inl (hk a _ (.inl rfl) ha))
    have q2 := RepDs.mono hF (fun b o hf => hk b o (.inr hf)) ds vs rds
    refine ⟨fun i d e => ?_, vs, r2, by rw [rds.len]; exact Nat.le_refl _⟩
    obtain ⟨v, e1, e2⟩ := q2.get e
    refine ⟨⟨vs, v, r2, e1⟩, fun x H3 ⟨e3, e4⟩ => ?_⟩
    subst e3
    have := e4 vs (r2)
    rw [e1] at this; cases this
    exact .same e2
theorem st_fori {body : List Stmt} {tgt : Tgt} {ch : List Nat} {f : Env → Option Out} {i : Nat} {nm : Str} {ks : List Key} {ts0 : List T} {o o' : Out} {elts : List Expr} {kk : Nat} {tpos apos cpos npos : Pos}
    (hp : PassesOwn (model X.prog X.w) X.A X.env X.xe) (hc : X.calm = true) (hn : X.N[i]? = some nm) (hN : X.N.Nodup) (hv : Vis X.env.scope nm) (hd : (nm == ("__debug__" : Str)) = false) (hcd : (nm == ("__classdict__" : Str)) = false) (hline : (apos.endLine == cpos.line) = true)
    (hi : ρ[i]? = some (Slot.ow (.dct ks ts0))) (h0 : T.unfzs ts0 = some ds) (hfl : ds.all flatD = true)
    (hg : ∀ (iov : Nat → Option V) (ρ : Env) (d : Mv.D) (ρ2 : Env), bindD ρ tgt d = some ρ2 → PG X (.Tuple elts kk tpos) (tG X.K iov ρ ch d ρ2)) (hb : ∀ (iov : Nat → Option V) (ρ : Env) (o : Out), f ρ = some o → PSs X body (tS X.K iov ρ o))
    (hl : forLoop (fun ρ d => (bindD ρ tgt d).bind f) ((kills i .none ρ).set i .lk) (itemsD ks ds) = some o') (ho : foriEnd i (.dct ks ts0) o' = some o) :
    PS X (.For (.Tuple elts kk tpos) (.Call (.Attribute (.Name nm npos) "items" apos) [] [] cpos) body [] pos) (tS X.K iov ρ o) := by
  have hpi : PI X (.Tuple elts kk tpos) (.Call (.Attribute (.Name nm npos) "items" apos) [] [] cpos) (iItems (tVar i)) := pi_items (pe_var hn hv hd hcd) rfl hline
  have hfor := ps_for (pos := pos) hp hc hpi (PG.all fun a : { p : (Nat → Option V) × Env × Mv.D × Env // bindD p.2.1 tgt p.2.2.1 = some p.2.2.2 } => hg a.1.1 a.1.2.1 a.1.2.2.1 a.1.2.2.2 a.2) (PSs.all fun a : { p : (Nat → Option V) × Env × Out // f p.2.1 = some p.2.2 } => hb a.1.1 a.1.2.1 a.1.2.2 a.2) (fun _ => rfl)
  refine PS.imp' (ps_lock hfor) fun D σ H h => ?_
  obtain ⟨F, fp, S, k⟩ := h
  obtain ⟨v, hv, tr⟩ := S.slot i _ hi (by simp)
  simp only [TRep] at tr
  obtain ⟨a, vs, fq, rfl, hfp, nF, ha, hlen, nd, hr⟩ := tr
  rw [unfzs_eq h0] at hr
  obtain ⟨rfl, rds⟩ := repDs_of hr
  generalize hio : (fun j : Nat => if j = i then some (V.ref a) else iov j) = iov2
  have io_i : iov2 i = some (V.ref a) := by rw [← hio]; exact if_pos rfl
  have io_n : ∀ j, j ≠ i → iov2 j = iov j := fun j hj => by rw [← hio]; exact if_neg hj
  have Si : SR X.K iov2 [] F H σ ρ fp := S.iovC fun j hj => io_n j (by
    rintro rfl
    rw [hi] at hj
    rcases hj with ⟨_, z⟩ | z <;> cases z)
  have S0 : SR X.K iov2 [] F H σ ((kills i .none ρ).set i .lk) (updF fp i []) := Si.rebind ⟨_, hi⟩ rfl (fun _ _ => rfl) List.nodup_nil (fun _ _ _ _ z => (nomatch z)) ⟨updF_same, .ref a, hv, io_i⟩
  have an : ∀ j, a ∉ updF fp i [] j := fun j hb => by
    by_cases hj : j = i
    · subst hj; rw [updF_same] at hb; cases hb
    · rw [updF_ne hj] at hb
      exact hj (S.dis j i a hb (by rw [hfp]; simp))
  refine ⟨a, .dK (ks.zip vs), ha, trivial, fun od => ?_⟩
  have S1 := S0.beside (D := a) (o := .frz od (.dK (ks.zip vs))) nF an
  have h1 : (upd H a (.frz od (.dK (ks.zip vs)))) a = some (.frz od (.dK (ks.zip vs))) := upd_same
  generalize hH1 : upd H a (.frz od (.dK (ks.zip vs))) = H1 at S1 h1 ⊢
  have back : ∀ b, b ≠ a → H1 b = H b := fun b hb => by rw [← hH1, upd_ne hb]
  have facts : ∀ {F2 : Addr → Prop} {H2 : Hp} {fp2 : Fp} {fa : List Addr}, Post F H1 (updF fp i []) F2 H2 fp2 fa true → H2 a = some (.frz od (.dK (ks.zip vs))) ∧ ¬ F2 a ∧ (∀ j, a ∉ fp2 j) ∧ a ∉ fa := fun P2 => by
    refine ⟨P2.keep a _ h1 (.inr an), fun f => ?_, fun j hb => ?_, fun hb => ?_⟩
    · rcases P2.new a f with z | ⟨j, z⟩ | z
      · exact nF z
      · exact an j z
      · rw [h1] at z; cases z
    · rcases P2.fresh j a hb with ⟨j', z⟩ | z
      · exact an j' z
      · rw [h1] at z; cases z
    · rcases P2.freshv a hb with ⟨j', z⟩ | z
      · exact an j' z
      · rw [h1] at z; cases z
  have post : ∀ {F2 : Addr → Prop} {H2 : Hp} {fp2 fp3 : Fp} {fa : List Addr}, Post F H1 (updF fp i []) F2 H2 fp2 fa true → ((∀ j, j ≠ i → fp3 j = fp2 j) ∧ (fp3 i = [] ∨ fp3 i = [a])) → Post F H fp F2 (upd H2 a (.dK (ks.zip vs))) fp3 fa true := fun {F2 H2 fp2 fp3 fa} P2 h3 => by
    obtain ⟨e2, n2, f2, fa2⟩ := facts P2
    have low : ∀ j b, b ∈ fp2 j → (∃ i, b ∈ fp i) ∨ H b = none := fun j b hb => by
      rcases P2.fresh j b hb with ⟨j', z⟩ | z
      · exact .inl ⟨j', updF_le (fun _ z => by simp at z) j' b z⟩
      · by_cases hba : b = a
        · subst hba; rw [h1] at z; cases z
        · exact .inr (by rw [← back b hba]; exact z)
    refine ⟨P2.sub, fun b hb => ?_, fun b o e hw => ?_, fun b hb => ?_, fun j b hb => ?_, fun b hb => ?_, fun j b hb hc => ?_, P2.nodv⟩
    · rcases P2.new b hb with z | ⟨j, z⟩ | z
      · exact .inl z
      · exact .inr (.inl ⟨j, updF_le (fun _ z => by simp at z) j b z⟩)
      · by_cases hba : b = a
        · subst hba; exact absurd hb n2
        · exact .inr (.inr (by rw [← back b hba]; exact z))
    · by_cases hba : b = a
      · subst hba; rw [ha] at e; cases e; exact upd_same
      · rw [upd_ne hba]
        refine P2.keep b o (by rw [back b hba]; exact e) (.inr fun j z => ?_)
        rcases hw with hw | hw
        · cases hw
        · exact hw j (updF_le (fun _ z => by simp at z) j b z)
    · by_cases hba : b = a
      · subst hba; rw [upd_same]; simp
      · rw [upd_ne hba]; exact P2.there b (by rw [back b hba]; exact hb)
    · by_cases hj : j = i
      · subst hj
        rcases h3.2 with e | e
        · rw [e] at hb; cases hb
        · rw [e] at hb
          have hba : b = a := by simpa using hb
          subst hba
          exact .inl ⟨j, by rw [hfp]; simp⟩
      · rw [h3.1 j hj] at hb; exact low j b hb
    · rcases P2.freshv b hb with ⟨j', z⟩ | z
      · exact .inl ⟨j', updF_le (fun _ z => by simp at z) j' b z⟩
      · by_cases hba : b = a
        · subst hba; rw [h1] at z; cases z
        · exact .inr (by rw [← back b hba]; exact z)
    · by_cases hj : j = i
      · subst hj
        rcases h3.2 with e | e
        · rw [e] at hb; cases hb
        · rw [e] at hb
          have hba : b = a := by simpa using hb
          subst hba
          exact fa2 hc
      · rw [h3.1 j hj] at hb; exact P2.disv j b hb hc
  have key := for_TE (X := X) (iov := iov2) (ds := itemsD ks ds) (ch := ch) (J := Iti a od (ks.zip vs)) (a := a) (g := fun v σ H Q => ∃ a : { p : (Nat → Option V) × Env × Mv.D × Env // bindD p.2.1 tgt p.2.2.1 = some p.2.2.2 }, tG X.K a.1.1 a.1.2.1 ch a.1.2.2.1 a.1.2.2.2 v σ H Q)
    (tb := fun D σ H => ∃ a : { p : (Nat → Option V) × Env × Out // f p.2.1 = some p.2.2 }, tS X.K a.1.1 a.1.2.1 a.1.2.2 D σ H) (fun ρ d ρ2 e v σ H Q q => ⟨⟨(iov2, ρ, d, ρ2), e⟩, q⟩) (fun ρ o e D σ H q => ⟨⟨(iov2, ρ, o), e⟩, q⟩) hl (σ := σ) S1
    (D := ⟨fun σ' H' => H' a = some (.frz od (.dK (ks.zip vs))) ∧ D.nx σ' (upd H' a (.dK (ks.zip vs))), fun v H' => H' a = some (.frz od (.dK (ks.zip vs))) ∧ D.rt v (upd H' a (.dK (ks.zip vs))), fun σ' H' => H' a = some (.frz od (.dK (ks.zip vs))) ∧ D.bk σ' (upd H' a (.dK (ks.zip vs))), fun σ' H' => H' a = some (.frz od (.dK (ks.zip vs))) ∧ D.ct σ' (upd H' a (.dK (ks.zip vs)))⟩) ?_ an fun F2 H2 hF hk => ?_
  · exact ⟨.ref a, hv, a, od, ks.zip vs, rfl, h1, key⟩
  · cases o' with
    | nx ρ1 =>
      intro σ2 H2 F2 fp2 S2 P2
      obtain ⟨e2, n2, f2, _⟩ := facts P2
      simp only [foriEnd] at ho
      split at ho
      · rename_i eno
        cases ho
        refine ⟨e2, k σ2 (upd H2 a (.dK (ks.zip vs))) F2 (updF fp2 i [a]) ?_ (post P2 ⟨fun j hj => updF_ne hj, .inr updF_same⟩)⟩
        have S3 := S2.beside (D := a) (o := .dK (ks.zip vs)) n2 f2
        obtain ⟨_, w, w1, w2⟩ := S3.slot i _ eno (by simp)
        rw [io_i] at w2
        cases w2
        have S4 := S3.rebind (s := .ow (.dct ks ts0)) (fq := [a]) ⟨_, eno⟩ rfl (fun _ _ => rfl) (by simp) (fun j b hj hb hc => by
          simp only [List.mem_singleton] at hc
          subst hc
          exact f2 j hb) ⟨.ref a, w1, by
            rw [updF_same]
            simp only [TRep]
            refine ⟨a, vs, [], rfl, rfl, n2, upd_same, hlen, nd, ?_⟩
            rw [unfzs_eq h0]
            exact treps_of (flats_any hfl rds)⟩
        refine S4.iovC fun j hj => (io_n j ?_).symm
        rintro rfl
        have lj : j < (kills j .none ρ1).length := by unfold kills; rw [List.length_map]; exact (List.getElem?_eq_some_iff.mp eno).1
        rw [List.getElem?_set_self lj] at hj
        rcases hj with ⟨_, z⟩ | z <;> cases z
      · cases ho
    | rt t ρ1 =>
      intro v σ2 H2 F2 fp2 fpv S2 V2 P2
      obtain ⟨e2, n2, f2, fa2⟩ := facts P2
      cases ho
      have V2' : TRep X.K F2 H2 v t fpv := V2
      have S3 := S2.beside (D := a) (o := .dK (ks.zip vs)) n2 f2
      have tv : TRep X.K F2 (upd H2 a (.dK (ks.zip vs))) v t fpv := TRep.mono (fun _ h => h) _ v fpv (fun b hb => (TRep.fps t v fpv V2' b hb).1) (fun b o hb e => by
        rw [upd_ne (by rintro rfl; exact hb.elim n2 fa2)]; exact e) V2'
      by_cases li : i < ρ1.length
      · have S4 := S3.rebind (s := .no) (fq := []) ⟨_, List.getElem?_eq_getElem li⟩ rfl (fun _ _ => rfl) List.nodup_nil (fun _ _ _ _ z => (nomatch z)) updF_same
        refine ⟨e2, k v σ2 (upd H2 a (.dK (ks.zip vs))) F2 (updF fp2 i []) fpv (S4.iovC fun j hj => (io_n j ?_).symm) tv (post P2 ⟨fun j hj => updF_ne hj, .inl updF_same⟩)⟩
        rintro rfl
        have lj : j < (kills j .none ρ1).length := by unfold kills; rw [List.length_map]; exact li
        rw [List.getElem?_set_self lj] at hj
        rcases hj with ⟨_, z⟩ | z <;> cases z
      · have lk : (kills i .none ρ1).length ≤ i := by unfold kills; rw [List.length_map]; exact Nat.le_of_not_lt li
        have e0 : ρ1[i]? = none := List.getElem?_eq_none (Nat.le_of_not_lt li)
        rw [List.set_eq_of_length_le lk] at k
        have S4 := S3.kls i none
        refine ⟨e2, k v σ2 (upd H2 a (.dK (ks.zip vs))) F2 fp2 fpv (S4.iovC fun j hj => (io_n j ?_).symm) tv (post P2 ⟨fun j hj => rfl, .inl (S2.out i e0)⟩)⟩
        rintro rfl
        rw [List.getElem?_eq_none lk] at hj
        rcases hj with ⟨_, z⟩ | z <;> cases z
    | bk ρ1 => cases ho
    | ct ρ1 => cases ho
  · have h2 := hk a _ (.inl rfl) h1
    exact it_items (K := X.K) (F := F2) (H := H2) h2 hlen (flats_any hfl rds) hfl F2 H2 (fun _ h => h) (fun _ _ _ e => e)
end
section
variable {X : Cx}
def tInR (neg : Bool) (ta tb : TE) : TT := fun σ H Q => ta σ H fun x H1 => tb σ H1 fun y H2 => ∃ i n : Int, x = V.int i ∧ y = V.int n ∧ Q (neg != decide (0 ≤ i ∧ i < n)) H2
theorem in_rangeA {neg : Bool} {s : Shared} {A : Around} {E : Value → Shared → Prop} {Q : Value → Shared → Prop} {r : Addr} {i n : Int} {k t u v : Tok}
    (ho : s.heap.get? r = some { cls := .type "range", dict := none, data := .fields #[.int 0 t, .int n u, .int 1 v], slots := #[] }) (hq : Q (.bool (neg != decide (0 ≤ i ∧ i < n))) s) :
    wpAny (model X.prog X.w) A (compareOp (if neg = true then .NotIn else .In) (.int i k) (.ref r)) Q E s := by
  have ty : s.TypeIs (.ref r) "range" := ⟨_, ho, rfl⟩
  have pl : (Builtin.Range.rangePlace? 0 n 1 i).isSome = decide (0 ≤ i ∧ i < n) := place1 0 n i
  cases neg with
  | false =>
    show wpAny _ _ (do return Value.bool (← contains (.ref r) (.int i k))) _ _ s
    refine wpAny_bind ?_
    refine wpAny_contains_slot ty F.slot_range_contains (call_meets F.slot_range_contains ty F.entry_range_contains (F.args_range_contains_2 _ _) (q_contains r 0 n i t u v k) ⟨ho, ?_⟩)
    refine wpAny_truthy_bool (wpAny_pure ?_)
    rw [pl]; simpa using hq
  | true =>
    show wpAny _ _ (do return Value.bool (!(← contains (.ref r) (.int i k)))) _ _ s
    refine wpAny_bind ?_
    refine wpAny_contains_slot ty F.slot_range_contains (call_meets F.slot_range_contains ty F.entry_range_contains (F.args_range_contains_2 _ _) (q_contains r 0 n i t u v k) ⟨ho, ?_⟩)
    refine wpAny_truthy_bool (wpAny_pure ?_)
    rw [pl]; simpa using hq
theorem pt_inR {neg : Bool} {a b : Expr} {ta tb : TE} {p q pos : Pos} (hg : Gl X "range") (hm : X.mg "range" = none) (ha : PE X a ta) (hb : PE X b tb) (na : starEach [b] X.env = (false, eval b X.env) :: starEach [] X.env)
    (hk : behindInMarks (if neg = true then .NotIn else .In) (.Call (.Name "range" p) [b] [] q) = false) : PT X (.Compare a [if neg = true then .NotIn else .In] [.Call (.Name "range" p) [b] [] q] pos) (tInR neg ta tb) := by
  refine ⟨fun pins s σ H Q I h => ?_⟩
  refine wpAny_isTrue_Compare1 (thn (ha.run pins s σ H _ I h) fun v s1 ⟨x, H1, I1, r1, q1⟩ => ?_) hk
  refine Call_ (ld_blt I1 hg hm boot_range ?_)
  refine PyProof.Rows.callWith_type1 (PyProof.Rows.args_cons (thn (hb.run pins s1 σ H1 _ I1 q1) fun u s2 ⟨y, H2, I2, r2, q2⟩ => PyProof.Rows.args_nil ?_) na) na rfl
  obtain ⟨i, n, rfl, rfl, q2⟩ := q2
  obtain ⟨k, rfl⟩ := r1
  obtain ⟨t, rfl⟩ := r2
  refine call_range_1 ?_
  refine in_rangeA (Heap.get?_push_size _ rfl) ?_
  exact wpAny_truthy_bool ⟨H2, I2.kept fun b o e => Heap.get?_push_of_some _ e, q2⟩
theorem s_inrT {iov : Nat → Option V} {ρ ρ1 ρ2 : Env} {va vb : Val} {wa wb : Bool} {e1 e2 : Expr} {neg : Bool} {i n : Int} {p q pos : Pos} {op : CmpOp} {nm : Str} (ho : op = if neg = true then .NotIn else .In) (hn : nm = "range") (hg : Gl X nm) (hm : X.mg nm = none) (hp : plainE e2 = true) (ha : PE X e1 (tE X.K iov ρ va ρ1 wa)) (hb : PE X e2 (tE X.K iov ρ1 vb ρ2 wb)) (st : stands va wb = true)
    (rx : Mv.resolve ρ2 va = some (.fz (.int i))) (ry : Mv.resolve ρ2 vb = some (.fz (.int n))) (hk : behindInMarks op (.Call (.Name nm p) [e2] [] q) = false) : PT X (.Compare e1 [op] [.Call (.Name nm p) [e2] [] q] pos) (tT X.K iov ρ (neg != decide (0 ≤ i ∧ i < n)) ρ2 (wa || wb)) := by
  subst ho hn
  refine PT.imp' (pt_inR hg hm ha hb (star_plain hp _) hk) ?_
  rintro σ H Q ⟨F, fp, S, k⟩
  refine two (R := fun x y H2 => ∃ i n : Int, x = V.int i ∧ y = V.int n ∧ Q (neg != decide (0 ≤ i ∧ i < n)) H2) rfl rfl st S fun vx vy H2 F2 fp2 fa fb S2 V1 V2 P => ?_
  obtain ⟨g1, r1⟩ := S2.rslv rx V1
  obtain ⟨g2, r2⟩ := S2.rslv ry V2
  exact ⟨i, n, trep_int r1, trep_int r2, k H2 F2 fp2 S2 P.drop0⟩
end
section
variable {M : Model} {A : Around} {E : Value → Shared → Prop} {s : Shared} {Q : Value → Shared → Prop} {u v : Value}
theorem fills_il : fillsInplaceSlot (.type "list") "add" (Operator.Add == .Add) = pure false := by
  unfold fillsInplaceSlot
  show (typeLookup (.type "list") (dunderI "add") >>= fun fi => (pure (fi.isSome && !isSeqSlot fi) : Sem Bool)) = pure false
  rw [PySem.F.slot_list_iadd.lookup]
  kernel_rfl
theorem seq_il : seqSlot? (.type "list") (dunderI "add") = pure (some (.builtin "list.__iadd__")) := PySem.seqSlot_of PySem.F.slot_list_iadd.lookup (by decide +kernel)
theorem iadd_lists (ha : s.TypeIs u "list") (hb : s.TypeIs v "list") (hc : wpAny M A (call (.builtin "list.__iadd__") [u, v]) Q E s) : wpAny M A (inplaceOp .Add u v) Q E s := by
  unfold inplaceOp
  exact wpAny_holding (wpAny_bind (wpAny_typeOf ha (wpAny_bind (wpAny_of_eq fills_il (by
    show wpAny M A (if false = true then _ else _) Q E s
    rw [if_neg Bool.false_ne_true]
    exact wpAny_bind (binaryOp1_none (nm := "add") ha hb noFill_list_add (wpAny_bind (wpAny_of_eq seq_il (wpAny_bind (wpAny_rule hc))))))))))
end
section
variable {X : Cx} {iov : Nat → Option V} {ρ ρ1 ρ' : Env} {e : Expr} {pos : Pos} {wa : Bool}
def tIpL : TIp := fun x y H Q => ∃ a b xs zs, x = V.ref a ∧ y = V.ref b ∧ H a = some (.lst xs) ∧ H b = some (.lst zs) ∧ xs.length + zs.length ≤ sizeLine ∧ Q (.ref a) (upd H a (.lst (xs ++ zs)))
theorem ip_list : PIp X .Add tIpL := by
  intro pins s σ H x y v u Q I rx ry h
  obtain ⟨l, b, xs, zs, rfl, rfl, hH, hB, hz, q⟩ := h
  cases rx
  cases ry
  have ⟨z, its, n, r, hl, e⟩ := I.lstM hH
  have ⟨z2, its2, n2, r2, hl2, e2⟩ := I.lstM hB
  have sz : its.toArray.size + its2.toArray.size ≤ sizeLine := by simp only [List.size_toArray]; omega
  have lg : ¬ (!its.toArray.isEmpty && Builtin.List.listTooLong (its.toArray.size + its2.toArray.size)) = true := by
    rw [notLongL sz, Bool.and_false]; exact Bool.false_ne_true
  refine iadd_lists ⟨_, e, rfl⟩ ⟨_, e2, rfl⟩ (call_meets F.slot_list_iadd ⟨_, e, rfl⟩ F.entry_list_iadd (F.args_list_iadd_2 _ _) (AutoSeq1.list___iadd___list_list_0 l its.toArray n b its2.toArray n2 lg (by simp only [List.size_toArray]; omega) (by omega)) ⟨e, e2, ?_⟩)
  exact ⟨.ref l, _, I.lset (its' := its ++ its2) hH e (by simp) (r.append r2) (by rw [List.length_append]; omega), rfl, q⟩
theorem treps_appF {K : PySem.W.Frag} {F : Addr → Prop} {H : Hp} {ds : List D} {ws : List V} (h2 : RepDs K F H ws ds) : ∀ {ts : List T} {vs : List V} {fq : List Addr}, TReps K F H vs ts fq → TReps K F H (vs ++ ws) (ts ++ fzs ds) fq
  | [], [], fq, h => by
    simp only [TReps] at h
    subst h
    exact treps_of h2
  | t :: ts, v :: vs, fq, h => by
    simp only [TReps] at h
    obtain ⟨f1, f2, e, h1, h3⟩ := h
    simp only [List.cons_append, TReps]
    exact ⟨f1, f2, e, h1, treps_appF h2 h3⟩
  | [], _ :: _, _, h => by simp only [TReps] at h
  | _ :: _, [], _, h => by simp only [TReps] at h
theorem st_augL {i : Nat} {nm : Str} {p : Pos} {ts1 ts2 : List T} {ds : List D} (hN : X.N.Nodup) (hi : X.N[i]? = some nm) (hx : Loc X.env.scope nm) (hf : X.fn nm = true ∨ X.env.scope.names.lookup nm = some .local)
    (hr : rdName ρ i = some (.pt i none)) (he : PE X e (tE X.K iov ρ (.t (.lst ts2)) ρ1 wa)) (hu : T.unfzs ts2 = some ds) (hg : Mv.getPt ρ1 i none = some (.lst ts1)) (hz : ts1.length + ds.length ≤ sizeLine) (hs : Mv.setPt ρ1 i none (.lst (ts1 ++ fzs ds)) = some ρ') :
    PS X (.AugAssign (.Name nm p) .Add e pos) (tS X.K iov ρ (.nx ρ')) := by
  refine PS.imp' (ps_aug hN hi hx he ip_list hf) ?_
  rintro D σ H ⟨F, fp, S, kk⟩
  obtain ⟨v0, hv⟩ : ∃ v, σ[i]? = some (some v) := by
    unfold rdName at hr
    split at hr
    · rename_i t e0
      obtain ⟨v, h1, _⟩ := S.slot i _ e0 (by simp)
      exact ⟨v, h1⟩
    · rename_i t e0
      obtain ⟨v, h1, _⟩ := S.slot i _ e0 (by simp)
      exact ⟨v, h1⟩
    · rename_i j l e0
      obtain ⟨_, h⟩ := S.slot i _ e0 (by simp)
      rcases h with h | ⟨v, a, vs, h1, _⟩
      · cases h
      · exact ⟨v, h1⟩
    · cases hr
  refine ⟨v0, hv, F, fp, S, fun y H1 F1 fp1 fa S1 V1 P1 => ?_⟩
  have V1' : TRep X.K F1 H1 y (.lst ts2) fa := V1
  obtain ⟨f1, fq, f3, efp, ek, tr, q⟩ := S1.stPt hg (v := v0) (fpa := []) ⟨rfl, hv⟩ hs
  have nd := S1.nod i
  simp only [TRep] at tr V1'
  obtain ⟨a, vs, fr, rfl, rfl, nF, hH, hr1⟩ := tr
  obtain ⟨b, ws, fr2, rfl, rfl, nF2, hH2, hr2⟩ := V1'
  rw [unfzs_eq hu] at hr2
  obtain ⟨rfl, rds⟩ := TReps.fzs.mp hr2
  rw [efp] at nd
  have na := tl nd
  have rds2 : RepDs X.K F1 (upd H1 a (.lst (vs ++ ws))) ws ds := RepDs.mono (fun _ h => h) (fun c o hc e => by rw [upd_ne (by rintro rfl; exact nF hc)]; exact e) ds ws rds
  have lt : vs.length + ws.length ≤ sizeLine := by rw [hr1.len, rds.len]; exact hz
  obtain ⟨S4, P4⟩ := S1.updO (o := .lst (vs ++ ws)) (fq' := a :: fr) P1 efp (by simp) q (by simp only [TRep]; exact ⟨a, _, _, rfl, rfl, nF, upd_same, treps_appF rds2 (aside hr1 nF na.1)⟩) (fun c hc => .inl hc)
    (List.nodup_cons.mpr na) (fun _ m l v' vs1 _ e1 e => by rw [hH] at e1; cases e1; exact ⟨_, rfl, by rw [List.getElem?_append_left (List.getElem?_eq_some_iff.mp e).1]; exact e, by simp⟩)
  refine ⟨a, b, vs, ws, rfl, rfl, hH, hH2, lt, ?_⟩
  have es : σ.set i (some (V.ref a)) = σ := by
    refine List.ext_getElem? fun j => ?_
    by_cases hj : i = j
    · subst hj
      rw [List.getElem?_set_self (List.getElem?_eq_some_iff.mp hv).1, hv]
    · rw [List.getElem?_set_ne hj]
  show D.nx (σ.set i (some (V.ref a))) _
  rw [es]
  exact kk σ _ F1 _ S4 P4
end
theorem treps_kid {K : PySem.W.Frag} {F : Addr → Prop} {H : Hp} : ∀ {ts : List T} {vs : List V} {fq : List Addr} {m : Nat} {t : T}, TReps K F H vs ts fq → ts[m]? = some t → ∃ v f, vs[m]? = some v ∧ TRep K F H v t f ∧ ∀ b ∈ f, b ∈ fq
  | [], _, _, _, _, _, h => by simp at h
  | t0 :: ts, [], _, _, _, r, _ => by simp only [TReps] at r
  | t0 :: ts, v :: vs, fq, 0, t, r, h => by
    simp only [TReps] at r
    obtain ⟨f1, f2, rfl, r1, _⟩ := r
    simp at h; subst h
    exact ⟨v, f1, rfl, r1, fun b hb => List.mem_append_left _ hb⟩
  | t0 :: ts, v :: vs, fq, m + 1, t, r, h => by
    simp only [TReps] at r
    obtain ⟨f1, f2, rfl, _, r2⟩ := r
    obtain ⟨v', f, e, rt, s⟩ := treps_kid r2 (by simpa using h)
    exact ⟨v', f, by simpa using e, rt, fun b hb => List.mem_append_right _ (s b hb)⟩
theorem kill_kill (i : Nat) (s : Slot) : kill i none (kill i none s) = kill i none s := by
  cases s with
  | al j k =>
    unfold kill
    by_cases h : j = i
    · simp [h]
    · simp [h]
  | _ => rfl
theorem kills_no (i : Nat) (ρ : Env) : (kills i none ((kills i none ρ).set i .no)).set i .no = (kills i none ρ).set i .no := by
  refine List.ext_getElem? fun j => ?_
  unfold kills
  by_cases h : i = j
  · subst h
    by_cases hl : i < ρ.length
    · rw [List.getElem?_set_self (by simpa using hl), List.getElem?_set_self (by simpa using hl)]
    · rw [List.getElem?_eq_none (by simpa using hl), List.getElem?_eq_none (by simpa using hl)]
  · rw [List.getElem?_set_ne h, List.getElem?_set_ne h, List.getElem?_map, List.getElem?_set_ne h, List.getElem?_map]
    cases ρ[j]? with
    | none => rfl
    | some s => simp [kill_kill]
theorem kills_len (i : Nat) (k : Option Nat) (ρ : Env) : (kills i k ρ).length = ρ.length := by unfold kills; rw [List.length_map]
section
variable {X : Cx} {iov : Nat → Option V} {ρ : Env}
theorem st_fgo {j x n : Nat} {nx : Str} {ts : List T} {te : TE} {iter : Expr} {jj : Nat} {p0 p1 p2 p3 p4 p5 pos : Pos}
    (hp : PassesOwn (model X.prog X.w) X.A X.env X.xe) (hc : X.calm = true) (hN : X.N.Nodup)
    (hx : X.N[x]? = some nx) (lx : Loc X.env.scope nx) (fx : X.fn nx = true ∨ X.env.scope.names.lookup nx = some .local) (vx : Vis X.env.scope nx) (dx : (nx == ("__debug__" : Str)) = false) (cx : (nx == ("__classdict__" : Str)) = false)
    (hbase : attributeBase (.Name nx p1) "append" X.env (eval (.Name nx p1) X.env) = eval (.Name nx p1) X.env) (hline : (p2.endLine == p4.line) = true)
    (hi : ρ[j]? = some (Slot.ow (.lst ts))) (hxj : x ≠ j) (hxs : ∃ s, ρ[x]? = some s) (hxr : ∀ s, ρ[x]? = some s → (∀ t, s ≠ .io t) ∧ s ≠ .lk)
    (kids : ∀ k, k < n → ∃ us, ts[k]? = some (.lst us) ∧ us.length + n < sizeLine)
    (hte : PE X iter te) (hns : ∀ z, foldedSetIterable iter X.env z = pure z)
    (hq : ∀ σ H a vs Q, σ[j]? = some (some (V.ref a)) → H a = some (.lst vs) → vs.length = ts.length → (∀ b H1, (∀ c o, H c = some o → H1 c = some o) → (∀ c, c ≠ b → H1 c = H c) → (b = a ∨ H b = none) → H1 b = some (.lst (vs.take n)) → Q (V.ref b) H1) → te σ H Q) :
    PS X (.For (.Name nx p0) iter [.Expr (.Call (.Attribute (.Name nx p1) "append" p2) [.Constant .none jj p3] [] p4) p5] [] pos) (tS X.K iov ρ (.nx ((kills x none ((kills j none ρ).set j .no)).set x .no))) := by
  have hbody := pss_one (ps_expr (pos := p5) (pe_bm (cpos := p4) (apos := p2) PySem.F.plainAttrs_list PySem.F.slot_list_append PySem.F.type_list_append mt_append (pe_var (pos := p1) hx vx dx cx) (pa_cons (pe_non (j := jj) (pos := p3)) pa_nil) hbase rfl hline) rfl)
  have hfor := ps_for (pos := pos) hp hc (pi_list hte) (pg_name (pos := p0) hN hx lx fx) hbody hns
  refine PS.imp' hfor fun D σ H h => ?_
  obtain ⟨F, fp, S, k⟩ := h
  obtain ⟨v, hv, tr⟩ := S.slot j _ hi (by simp)
  simp only [TRep] at tr
  obtain ⟨a, vs, fq, rfl, hfp, nF, ha, hr⟩ := tr
  have nd := S.nod j
  rw [hfp] at nd
  have na := (List.nodup_cons.mp nd).1
  have kid : ∀ m, m < n → ∃ c us, vs[m]? = some (V.ref c) ∧ c ∈ fq ∧ H c = some (.lst us) ∧ us.length + n < sizeLine := fun m hm => by
    obtain ⟨us, e, hz⟩ := kids m hm
    obtain ⟨w, f, e1, r, s⟩ := treps_kid hr e
    simp only [TRep] at r
    obtain ⟨c, ws, f2, rfl, rfl, _, hH, r2⟩ := r
    exact ⟨c, ws, e1, s c (by simp), hH, by rw [r2.len]; exact hz⟩
  have vl : vs.length = ts.length := hr.len
  have nl : n ≤ vs.length := by
    cases n with
    | zero => exact Nat.zero_le _
    | succ m =>
      obtain ⟨c, us, e, _⟩ := kid m (Nat.lt_succ_self m)
      have := (List.getElem?_eq_some_iff.mp e).1
      omega
  have S0 : SR X.K iov [] F H σ ((kills j .none ρ).set j .no) (updF fp j []) := S.rebind ⟨_, hi⟩ rfl (fun _ _ => rfl) List.nodup_nil (fun _ _ _ _ z => (nomatch z)) updF_same
  have lj : ((kills j .none ρ).set j .no)[x]? ≠ none := by
    obtain ⟨s, e⟩ := hxs
    rw [List.getElem?_set_ne (Ne.symm hxj)]
    unfold kills
    rw [List.getElem?_map, e]
    simp
  obtain ⟨s1, e1⟩ := Option.ne_none_iff_exists'.mp lj
  have S1 : SR X.K iov [] F H σ ((kills x none ((kills j none ρ).set j .no)).set x .no) (updF (updF fp j []) x []) := S0.rebind ⟨_, e1⟩ rfl (fun _ _ => rfl) List.nodup_nil (fun _ _ _ _ z => (nomatch z)) updF_same
  generalize hρ : (kills x none ((kills j none ρ).set j .no)).set x .no = ρ' at S1 k
  have hρ2 : (kills x none ρ').set x .no = ρ' := by rw [← hρ, kills_no]
  have ex' : ∃ s, ρ'[x]? = some s := by
    refine Option.ne_none_iff_exists'.mp fun z => ?_
    have q := List.getElem?_eq_none_iff.mp z
    rw [← hρ, List.length_set, kills_len] at q
    have := (List.getElem?_eq_some_iff.mp e1).1
    omega
  generalize hf' : updF (updF fp j []) x [] = fp' at S1
  have hf2 : updF fp' x [] = fp' := by
    funext i
    by_cases c : i = x
    · subst c; rw [updF_same, ← hf', updF_same]
    · rw [updF_ne c]
  have sub' : ∀ i b, b ∈ fp' i → b ∈ fp i ∧ i ≠ j := fun i b hb => by
    rw [← hf'] at hb
    by_cases c : i = x
    · subst c; rw [updF_same] at hb; cases hb
    · rw [updF_ne c] at hb
      by_cases c2 : i = j
      · subst c2; rw [updF_same] at hb; cases hb
      · rw [updF_ne c2] at hb; exact ⟨hb, c2⟩
  have out : ∀ c, c ∈ a :: fq → ∀ i, c ∉ fp' i := fun c hcc i hb => by
    obtain ⟨h1, h2⟩ := sub' i c hb
    exact h2 (S.dis i j c h1 (by rw [hfp]; exact hcc))
  have nFq : ∀ c, c ∈ a :: fq → ¬ F c := fun c hcc => (S.fpF j c (by rw [hfp]; exact hcc)).1
  refine hq σ H a vs _ hv ha vl fun b H1 up same hb hb1 => ⟨b, rfl, ⟨vs.take n, .inl (.inl hb1)⟩, ?_⟩
  have hbF : ¬ F b ∧ ∀ i, b ∉ fp' i := by
    rcases hb with rfl | hb
    · exact ⟨nF, out b (by simp)⟩
    · exact ⟨fun z => absurd hb (S.trk b z), fun i z => absurd hb (S.fpF i b (sub' i b z).1).2⟩
  have eH : H1 = upd H b (.lst (vs.take n)) := by
    funext c
    by_cases hcb : c = b
    · subst hcb; rw [hb1, upd_same]
    · rw [same c hcb, upd_ne hcb]
  have bq : ∀ c, c ∈ fq → c ≠ b := fun c hcc e => by
    rcases hb with rfl | hb
    · exact na (e ▸ hcc)
    · have := (S.fpF j c (by rw [hfp]; simp [hcc])).2
      rw [e] at this; exact this hb
  have xl : (vs.take n).length = n := by rw [List.length_take]; omega
  refine for_list (K := X.K) (a := b) (xs := vs.take n) (fun i σ' H' => SR X.K iov [] F H' σ' ρ' fp' ∧ H' b = some (.lst (vs.take n)) ∧ (∀ m, m < n → ∃ c us, vs[m]? = some (V.ref c) ∧ c ∈ fq ∧ H' c = some (.lst us) ∧ us.length + (n - i) < sizeLine) ∧ (∀ c o, H c = some o → (∀ i, c ∉ fp i) → H' c = some o) ∧ (∀ c, H c ≠ none → H' c ≠ none))
    ⟨by rw [eH]; exact S1.beside hbF.1 hbF.2, hb1, fun m hm => ?_, fun c o e _ => up c o e, fun c hcn => ?_⟩ (fun i σ' H' _ hP => .inl (.inl hP.2.1)) (fun i y σ' H' hy hP => ?_) (fun σ' H' hP => ?_)
  · obtain ⟨c, us, q1, q2, q3, q4⟩ := kid m hm
    exact ⟨c, us, q1, q2, up c _ q3, by omega⟩
  · cases e : H c with
    | none => exact absurd e hcn
    | some o => rw [up c o e]; simp
  · obtain ⟨S2, h2, h3, h4, h5⟩ := hP
    have hin : i < n := by have := (List.getElem?_eq_some_iff.mp hy).1; omega
    obtain ⟨c, us, q1, q2, q3, q4⟩ := h3 i hin
    rw [List.getElem?_take_of_lt hin, q1] at hy
    cases hy
    have cb := bq c q2
    have cF := nFq c (by simp [q2])
    have cO := out c (by simp [q2])
    have S3 := (S2.beside (o := .lst (us ++ [V.non])) cF cO)
    have lenx : x < σ'.length := by
      obtain ⟨s, e⟩ := ex'
      have := (List.getElem?_eq_some_iff.mp e).1
      rw [S2.len] at this; exact this
    have S4 := S3.rebind (s := .no) (σ' := σ'.set x (some (V.ref c))) (fq := []) ex' (List.length_set ..) (fun m hm => List.getElem?_set_ne (Ne.symm hm)) List.nodup_nil (fun _ _ _ _ z => (nomatch z)) updF_same
    rw [hρ2, hf2] at S4
    refine ⟨.ref c, List.getElem?_set_self lenx, .inl ⟨rfl, us, .inl (.inl q3)⟩, c, us, .non, rfl, rfl, q3, by omega, S4, ?_, fun m hm => ?_, fun d o e nf => ?_, fun d hd => ?_⟩
    · rw [upd_ne (Ne.symm cb)]; exact h2
    · obtain ⟨d, ws, w1, w2, w3, w4⟩ := h3 m hm
      by_cases hdc : d = c
      · subst hdc
        rw [q3] at w3; cases w3
        exact ⟨d, _, w1, w2, upd_same, by rw [List.length_append, List.length_singleton]; omega⟩
      · exact ⟨d, ws, w1, w2, by rw [upd_ne hdc]; exact w3, by omega⟩
    · have hdc : d ≠ c := fun z => nf j (by rw [hfp, z]; simp [q2])
      rw [upd_ne hdc]; exact h4 d o e nf
    · by_cases hdc : d = c
      · subst hdc; rw [upd_same]; simp
      · rw [upd_ne hdc]; exact h5 d hd
  · obtain ⟨S2, h2, h3, h4, h5⟩ := hP
    exact k σ' H' F fp' S2 ⟨fun _ h => h, fun b h => .inl h, fun c o e w => h4 c o e (w.elim (fun z => nomatch z) id), h5, fun i c hcc => .inl ⟨i, (sub' i c hcc).1⟩, fun _ z => (nomatch z), fun _ _ _ z => (nomatch z), List.nodup_nil⟩
end
theorem cutV_hi {vs : List V} {n : Nat} (h : n ≤ vs.length) : cutV vs none (some (n : Int)) = vs.take n := by
  unfold cutV
  rw [HT.sIx_none, HT.sIx_nat, List.drop_zero, Nat.sub_zero, Nat.min_eq_left h]
end Mv

end
section
namespace Mv
open PySem PySem.Spec PyProof.Rows L2
section
variable {X : Cx} {iov : Nat → Option V} {t x y z : T} {b b1 b2 : Bool} {ρ ρ1 ρ2 ρ3 ρ' : Env} {wr wa wb wc : Bool} {va vb vc : Val} {e e1 e2 e3 tg : Expr} {es : List Expr} {pos : Pos} {as : List Val} {ds : List D}
theorem chain_T {σ : L2.St} {H : Hp} {Q : VK} (h : tE X.K iov ρ (.t (.fz (.bool b))) ρ3 (wa || wb || wc) σ H Q) :
    tChain (R2C X.K x y true) (R2C X.K y z b) (tE X.K iov ρ (.t x) ρ1 wa) (tE X.K iov ρ1 (.t y) ρ2 wb) (tE X.K iov ρ2 (.t z) ρ3 wc) σ H Q := by
  obtain ⟨F, fp, S, k⟩ := h
  refine ⟨F, fp, S, fun vx H1 F1 fp1 fa S1 V1 P1 => ⟨F1, fp1, S1, fun vy H2 F2 fp2 fb S2 V2 P2 => ?_⟩⟩
  have V1' := V1.step P2 (fun i b hb => (S1.fpF i b hb).1) P1.disv rfl
  have P12 := P1.trans P2 V1.fps
  refine ⟨F2, fa, fb, V1', V2, true, rfl, iteT ⟨F2, fp2, S2, fun vz H3 F3 fp3 fc S3 V3 P3 => ?_⟩⟩
  have V2' := V2.step P3 (fun i b hb => (S2.fpF i b hb).1) P2.disv rfl
  have P := P12.trans P3 (offs V1'.fps V2.fps)
  exact ⟨F3, fb, fc, V2', V3, k _ H3 F3 fp3 [] S3 (vr_bool S3) P.drop0⟩
theorem chain_F {σ : L2.St} {H : Hp} {Q : VK} {r' : R2} {tc : TE} (h : tE X.K iov ρ (.t (.fz (.bool false))) ρ2 (wa || wb || wc) σ H Q) :
    tChain (R2C X.K x y false) r' (tE X.K iov ρ (.t x) ρ1 wa) (tE X.K iov ρ1 (.t y) ρ2 wb) tc σ H Q := by
  obtain ⟨F, fp, S, k⟩ := h
  refine ⟨F, fp, S, fun vx H1 F1 fp1 fa S1 V1 P1 => ⟨F1, fp1, S1, fun vy H2 F2 fp2 fb S2 V2 P2 => ?_⟩⟩
  have V1' := V1.step P2 (fun i b hb => (S1.fpF i b hb).1) P1.disv rfl
  have P12 := P1.trans P2 V1.fps
  exact ⟨F2, fa, fb, V1', V2, false, rfl, iteF (k _ H2 F2 fp2 [] S2 (vr_bool S2) (P12.drop0.more (by intro h; rw [h]; rfl)))⟩
theorem s_chainT (hu : X.A.units + 65 < cLine) {o1 o2 : CmpOp} (ha : PE X e1 (tE X.K iov ρ (.t x) ρ1 wa)) (hb : PE X e2 (tE X.K iov ρ1 (.t y) ρ2 wb)) (h1 : cmpT o1 x y = some true) (hc : PE X e3 (tE X.K iov ρ2 (.t z) ρ3 wc)) (h2 : cmpT o2 y z = some b) (hm : lastMarks [o1, o2] [e2, e3] = false) :
    PE X (.Compare e1 [o1, o2] [e2, e3] pos) (tE X.K iov ρ (.t (.fz (.bool b))) ρ3 (wa || wb || wc)) :=
  PE.imp' (pe_chain (op_cmpT hu h1) (op_cmpT hu h2) ha hb hc hm) fun σ H Q h => chain_T h
theorem s_chainF (hu : X.A.units + 65 < cLine) {o1 o2 : CmpOp} (ha : PE X e1 (tE X.K iov ρ (.t x) ρ1 wa)) (hb : PE X e2 (tE X.K iov ρ1 (.t y) ρ2 wb)) (h1 : cmpT o1 x y = some false) (hm : lastMarks [o1, o2] [e2, e3] = false) :
    PE X (.Compare e1 [o1, o2] [e2, e3] pos) (tE X.K iov ρ (.t (.fz (.bool false))) ρ2 (wa || wb || wc)) :=
  PE.imp' (pe_chain (op' := o2) (op_cmpT hu h1) (r' := fun _ _ _ _ => False) (fun _ _ _ _ _ _ _ _ _ _ _ _ h => h.elim) ha hb (⟨fun _ _ _ _ _ _ q => q.elim⟩ : PE X e3 (fun _ _ _ => False)) hm) fun σ H Q h => chain_F (wc := wc) h
theorem lift {ρ' : Env} {w : Bool} {σ : L2.St} {H : Hp} {Q : Bool → Hp → Prop} (h : tT X.K iov ρ b ρ' w σ H Q) : tE X.K iov ρ (.t (.fz (.bool b))) ρ' w σ H (fun x H' => ∃ k, x = .bl k ∧ Q k H') := by
  obtain ⟨F, fp, S, k⟩ := h
  exact ⟨F, fp, S, fun v H1 F1 fp1 fpv S1 V1 P1 => ⟨b, trep_bool V1, k H1 F1 fp1 S1 P1.drop0⟩⟩
theorem t_chainT (hu : X.A.units + 65 < cLine) {o1 o2 : CmpOp} (ha : PE X e1 (tE X.K iov ρ (.t x) ρ1 wa)) (hb : PE X e2 (tE X.K iov ρ1 (.t y) ρ2 wb)) (h1 : cmpT o1 x y = some true) (hc : PE X e3 (tE X.K iov ρ2 (.t z) ρ3 wc)) (h2 : cmpT o2 y z = some b) (hm : lastMarks [o1, o2] [e2, e3] = false) :
    PT X (.Compare e1 [o1, o2] [e2, e3] pos) (tT X.K iov ρ b ρ3 (wa || wb || wc)) :=
  PT.imp' (pt_chain (op_cmpT hu h1) (op_cmpT hu h2) ha hb hc hm) fun σ H Q h => chain_T (lift h)
theorem t_chainF (hu : X.A.units + 65 < cLine) {o1 o2 : CmpOp} (ha : PE X e1 (tE X.K iov ρ (.t x) ρ1 wa)) (hb : PE X e2 (tE X.K iov ρ1 (.t y) ρ2 wb)) (h1 : cmpT o1 x y = some false) (hm : lastMarks [o1, o2] [e2, e3] = false) :
    PT X (.Compare e1 [o1, o2] [e2, e3] pos) (tT X.K iov ρ false ρ2 (wa || wb || wc)) :=
  PT.imp' (pt_chain (op' := o2) (op_cmpT hu h1) (r' := fun _ _ _ _ => False) (fun _ _ _ _ _ _ _ _ _ _ _ _ h => h.elim) ha hb (⟨fun _ _ _ _ _ _ q => q.elim⟩ : PE X e3 (fun _ _ _ => False)) hm) fun σ H Q h => chain_F (wc := wc) (lift h)
end
structure Sx where
  N : List Str
  fns : List (Str × List Str × Kbs)
  gls : List Str
  blts : List Str
abbrev Cf := Str → Bool
def visB (sc : Scope) (nm : Str) : Bool := match sc.names.lookup nm with
  | some .local => true | some .cell => true | some .free => true | _ => false
def locB (sc : Scope) (cf : Cf) (nm : Str) : Bool := match sc.names.lookup nm with
  | some .local => true | some .cell => cf nm | _ => false
def glB (sc : Scope) (nm : Str) : Bool := match sc.names.lookup nm with
  | some .globalImplicit => true | _ => false
def nmOk (nm : Str) : Bool := !(nm == ("__debug__" : Str)) && !(nm == ("__classdict__" : Str))
def constD : Const → Option D
  | .none => some .none | .bool b => some (.bool b) | .int i => some (.int i) | .str s => some (.str s) | _ => Option.none
def valB : Expr → Bool
  | .UnaryOp .Not _ _ => false | .BoolOp _ _ _ => false | .IfExp _ _ _ _ => false | .Compare _ _ _ _ => false | _ => true
def notSet : Expr → Bool
  | .Set _ _ _ => false | _ => true
def baseB : Expr → Bool
  | .Call (.Name _ _) [] [] _ => false | _ => true
def chkTgN (sx : Sx) (sc : Scope) (cf : Cf) : List Nat → List Expr → Bool
  | [], [] => true
  | i :: is, .Name nm _ :: es => decide (sx.N[i]? = some nm) && locB sc cf nm && chkTgN sx sc cf is es
  | _, _ => false
def chkTg (sx : Sx) (sc : Scope) (cf : Cf) : Tgt → Expr → Bool
  | .nm i, .Name nm _ => decide (sx.N[i]? = some nm) && locB sc cf nm
  | .tp is, .Tuple es _ _ => chkTgN sx sc cf is es
  | _, _ => false
def tyNm : Blt → Str
  | .isint => "int" | .isbool => "bool" | .isstr => "str" | .islist => "list" | _ => "tuple"
def chkKeys : List Str → List (Option Expr) → Bool
  | [], [] => true
  | k :: ks, some (.Constant (.str s) _ _) :: es => decide (k = s) && chkKeys ks es
  | _, _ => false
def chkX (sx : Sx) (sc : Scope) : Ox → Expr → Option (List Expr)
  | .dict ks, .Dict keys vals _ => if chkKeys ks keys && decide (ks.length = vals.length) && decide (1 ≤ ks.length) && decide (ks.length ≤ 15) then some vals else none
  | .fld f, .Attribute x g _ => if decide (f = g) && baseB x then some [x] else none
  | .maxd, .Call (.Name nm _) [x] [⟨some k, y, _⟩] _ => if decide (nm = "max") && decide (k = "default") && glB sc nm && sx.blts.contains nm && plainE x then some [x, y] else none
  | .mind, .Call (.Name nm _) [x] [⟨some k, y, _⟩] _ => if decide (nm = "min") && decide (k = "default") && glB sc nm && sx.blts.contains nm && plainE x then some [x, y] else none
  | .lset, .Call (.Name nm _) [.Call (.Name nm2 _) [x] [] _] [] _ => if decide (nm = "len") && decide (nm2 = "set") && glB sc nm && sx.blts.contains nm && glB sc nm2 && sx.blts.contains nm2 && plainE x then some [x] else none
  | .sset, .Call (.Name nm _) [.Call (.Name nm2 _) [x] [] _] [] _ => if decide (nm = "sorted") && decide (nm2 = "set") && glB sc nm && sx.blts.contains nm && glB sc nm2 && sx.blts.contains nm2 && plainE x then some [x] else none
  | .reprl, .Call (.Name nm _) [.List xs _] [] _ => if decide (nm = "repr") && glB sc nm && sx.blts.contains nm && decide (xs.length ≤ 1000) && xs.all plainE then some xs else none
  | _, _ => none
def tgS2 : Tgt → List Nat
  | .nm i => [i]
  | .tp is => is
mutual
def chkC (sx : Sx) (sc : Scope) : C → Expr → Bool
  | .var i, .Name nm _ => decide (sx.N[i]? = some nm) && visB sc nm && nmOk nm
  | .mv i, .Name nm _ => decide (sx.N[i]? = some nm) && visB sc nm && nmOk nm
  | .kst d, .Constant c _ _ => (match c, d with
    | .none, .none => true | .bool b, .bool b' => b == b' | .int i, .int i' => decide (i = i') | .str s, .str s' => decide (s = s') | _, _ => false)
  | .gl g, .Name nm _ => decide (sx.gls[g]? = some nm) && glB sc nm && nmOk nm
  | .fzv c, e => chkC sx sc c e
  | .tup es, .Tuple xs _ _ => decide (xs.length ≤ 1000) && chkCs sx sc es xs
  | .list es, .List xs _ => decide (xs.length ≤ 1000) && chkCs sx sc es xs
  | .dict0, .Dict [] [] _ => true
  | .bin op a b, .BinOp x op' y _ => decide (op = op') && chkC sx sc a x && chkC sx sc b y
  | .neg a, .UnaryOp .USub x _ => chkC sx sc a x
  | .notv a, .UnaryOp .Not x _ => chkC sx sc a x
  | .boolop op a b, .BoolOp op' (x :: y :: r) p => decide (op = op') && chkC sx sc a x && (match r with | [] => chkC sx sc b y | _ => chkC sx sc b (.BoolOp op (y :: r) p))
  | .cmp op a b, .Compare x [op'] [y] _ => decide (op = op') && !(behindInMarks op y) && chkC sx sc a x && chkC sx sc b y
  | .chain o1 o2 a b c, .Compare x [p1, p2] [y, z] _ => decide (o1 = p1) && decide (o2 = p2) && !(lastMarks [o1, o2] [y, z]) && chkC sx sc a x && chkC sx sc b y && chkC sx sc c z
  | .ite c a b, .IfExp t x y _ => chkT sx sc c t && chkC sx sc a x && chkC sx sc b y
  | .ix a i, .Subscript x y _ => plainIx y && chkC sx sc a x && chkC sx sc i y
  | .sl a lo hi, .Subscript x (.Slice l h .none _) _ => chkC sx sc a x && chkO sx sc lo l && chkO sx sc hi h
  | .call k es, .Call (.Name nm _) (x :: xs) [] _ => (match sx.fns[k]? with | some (n, _) => decide (n = nm) | .none => false) && glB sc nm && nmOk nm && chkCs sx sc es (x :: xs)
  | .callk k perm es, .Call (.Name nm _) [] kws _ => (match sx.fns[k]? with | some (n, _, kb) => decide (n = nm) && kb.any (fun q => decide (kws.map (·.arg) = q.1.map some) && decide (q.2 = perm)) | .none => false) && decide perm.Nodup && glB sc nm && nmOk nm && chkK sx sc es kws
  | .blt f es, .Call (.Name nm _) (x :: xs) [] _ => glB sc nm && nmOk nm && sx.blts.contains nm && decide (nm = bltN f) && (match isTy f with
    | .none => chkCs sx sc es (x :: xs)
    | some _ => (match xs with
      | [.Name tn _] => glB sc tn && decide (tn = tyNm f) && sx.blts.contains tn && (match es with | .cons c .nil => plainE x && chkC sx sc c x | _ => false)
      | _ => false))
  | .ext o es, e => (match chkX sx sc o e with | some xs => chkEs sx sc es xs | none => decide (o = .lset) && chkS1 sx sc es e)
  | .get2 o k d, .Call (.Attribute x m ap) [y, z] [] cp => decide (m = "get") && baseB x && plainE y && plainE z && (ap.endLine == cp.line) && chkC sx sc o x && chkC sx sc k y && chkC sx sc d z
  | .rv a, .Subscript x (.Slice .none .none (some (.UnaryOp .USub (.Constant (.int 1) _ _) _)) _) _ => chkC sx sc a x
  | .lrg1 a, .Call (.Name nl _) [.Call (.Name nr _) [x] [] _] [] _ => decide (nl = "list") && decide (nr = "range") && glB sc nl && glB sc nr && sx.blts.contains nl && sx.blts.contains nr && plainE x && chkC sx sc a x
  | .lrg2 a b, .Call (.Name nl _) [.Call (.Name nr _) [x, y] [] _] [] _ => decide (nl = "list") && decide (nr = "range") && glB sc nl && glB sc nr && sx.blts.contains nl && sx.blts.contains nr && plainE x && plainE y && chkC sx sc a x && chkC sx sc b y
  | .cnt o k, .Call (.Attribute x m ap) [y] [] cp => decide (m = "count") && baseB x && plainE y && (ap.endLine == cp.line) && chkC sx sc o x && chkC sx sc k y
  | .thw c, e => chkC sx sc c e
  | .cntd o k, .Call (.Attribute x m ap) [y] [] cp => decide (m = "count") && baseB x && plainE y && (ap.endLine == cp.line) && chkC sx sc o x && chkC sx sc k y
  | .idx o k, .Call (.Attribute x m ap) [y] [] cp => decide (m = "index") && baseB x && plainE y && (ap.endLine == cp.line) && chkC sx sc o x && chkC sx sc k y
  | .lc own tg it tests elt, .ListComp e [⟨t, iter, ifs, n⟩] scope _ => decide (n = 0) && (!it.isBrw || (!tests.wr && !elt.wr)) && blkC sx.N sc scope own && notSet iter && ((tgS tg).all fun i => (own.map (·.2)).contains i) && chkTg sx (relS scope sc) (fun nm => scope.names.lookup nm == some .cell) tg t && chkI sx sc t it iter &&
    chkTo sx (relS scope sc) tests ifs && chkC sx (relS scope sc) elt e
  | .lci own i tg tests elt, .ListComp e [⟨.Tuple elts kk tp, .Call (.Attribute (.Name nm _) m ap) [] [] cp, ifs, n⟩] scope _ => decide (n = 0) && decide (m = "items") && decide (sx.N[i]? = some nm) && visB sc nm && nmOk nm && (ap.endLine == cp.line) && (!tests.wr && !elt.wr) && blkC sx.N sc scope own &&
    ((tgS tg).all fun i => (own.map (·.2)).contains i) && chkTg sx (relS scope sc) (fun nm => scope.names.lookup nm == some .cell) tg (.Tuple elts kk tp) && chkTo sx (relS scope sc) tests ifs && chkC sx (relS scope sc) elt e
  | _, _ => false
where tgS : Tgt → List Nat
  | .nm i => [i]
  | .tp is => is
def chkS1 (sx : Sx) (sc : Scope) : Cs → Expr → Bool
  | .cons c .nil, e => chkS2 sx sc c e
  | _, _ => false
def chkS2 (sx : Sx) (sc : Scope) : C → Expr → Bool
  | .lc own tg it tests elt, .Call (.Name nm _) [.SetComp e [⟨t, iter, ifs, n⟩] scope _] [] _ => decide (nm = "len") && glB sc nm && sx.blts.contains nm && decide (n = 0) && (!it.isBrw || (!tests.wr && !elt.wr)) && blkC sx.N sc scope own && notSet iter && ((tgS2 tg).all fun i => (own.map (·.2)).contains i) && chkTg sx (relS scope sc) (fun nm => scope.names.lookup nm == some .cell) tg t && chkI sx sc t it iter &&
    chkTo sx (relS scope sc) tests ifs && chkC sx (relS scope sc) elt e
  | _, _ => false
def chkT (sx : Sx) (sc : Scope) : Tc → Expr → Bool
  | .not t, .UnaryOp .Not x _ => chkT sx sc t x
  | .bool op ts, .BoolOp op' es _ => decide (op = op') && chkTs sx sc ts es
  | .cmp op a b, .Compare x [op'] [y] _ => decide (op = op') && !(behindInMarks op y) && chkC sx sc a x && chkC sx sc b y
  | .chain o1 o2 a b c, .Compare x [p1, p2] [y, z] _ => decide (o1 = p1) && decide (o2 = p2) && !(lastMarks [o1, o2] [y, z]) && chkC sx sc a x && chkC sx sc b y && chkC sx sc c z
  | .val c, e => valB e && chkC sx sc c e
  | .inr neg a b, .Compare x [op'] [.Call (.Name nm np) [y] [] cp] _ => decide (op' = if neg = true then .NotIn else .In) && decide (nm = "range") && glB sc nm && sx.blts.contains nm && plainE y && !(behindInMarks op' (.Call (.Name nm np) [y] [] cp)) && chkC sx sc a x && chkC sx sc b y
  | _, _ => false
def chkTs (sx : Sx) (sc : Scope) : Tcs → List Expr → Bool
  | .one t, [e] => chkT sx sc t e
  | .cons t ts, e :: es => chkT sx sc t e && chkTs sx sc ts es
  | _, _ => false
def chkTo (sx : Sx) (sc : Scope) : Tco → List Expr → Bool
  | .none, [] => true
  | .some t, [e] => chkT sx sc t e
  | _, _ => false
def chkCs (sx : Sx) (sc : Scope) : Cs → List Expr → Bool
  | .nil, [] => true
  | .cons c cs, e :: es => plainE e && chkC sx sc c e && chkCs sx sc cs es
  | _, _ => false
def chkEs (sx : Sx) (sc : Scope) : Cs → List Expr → Bool
  | .nil, [] => true
  | .cons c cs, e :: es => chkC sx sc c e && chkEs sx sc cs es
  | _, _ => false
def chkK (sx : Sx) (sc : Scope) : Cs → List Keyword → Bool
  | .nil, [] => true
  | .cons c cs, ⟨_, e, _⟩ :: es => chkC sx sc c e && chkK sx sc cs es
  | _, _ => false
def chkO (sx : Sx) (sc : Scope) : Co → Option Expr → Bool
  | .none, .none => true
  | .some c, .some e => chkC sx sc c e
  | _, _ => false
def chkI (sx : Sx) (sc : Scope) (tg : Expr) : I → Expr → Bool
  | .seq c, e => chkC sx sc c e
  | .brw c, e => chkC sx sc c e
  | .rng1 a, .Call (.Name nm _) [x] [] _ => decide (nm = "range") && glB sc nm && sx.blts.contains nm && plainE x && chkC sx sc a x
  | .rng2 a b, .Call (.Name nm _) [x, y] [] _ => decide (nm = "range") && glB sc nm && sx.blts.contains nm && plainE x && plainE y && chkC sx sc a x && chkC sx sc b y
  | .rngd a b c, .Call (.Name nm _) [x, y, z] [] _ => decide (nm = "range") && glB sc nm && sx.blts.contains nm && plainE x && plainE y && plainE z && chkC sx sc a x && chkC sx sc b y && chkC sx sc c z
  | .zip a b, .Call (.Name nm _) [x, y] [] _ => decide (nm = "zip") && glB sc nm && sx.blts.contains nm && plainE x && plainE y && (match tg with | .Tuple _ _ _ => true | _ => false) && chkC sx sc a x && chkC sx sc b y
  | .enum c, .Call (.Name nm _) [x] [] _ => decide (nm = "enumerate") && glB sc nm && sx.blts.contains nm && plainE x && (match tg with | .Tuple _ _ _ => true | _ => false) && chkC sx sc c x
  | _, _ => false
end
structure CtxOk (sx : Sx) (G : Gam) (sc : Scope) (cf : Cf) (X : Cx) : Prop where
  N : X.N = sx.N
  nd : X.N.Nodup
  sc : X.env.scope = sc
  calm : X.calm = true
  units : X.A.units + 65 < cLine
  gd : X.A.guards = some []
  blt : ∀ nm ∈ sx.blts, X.mg nm = none
  fn : ∀ (k : Nat) (f : Fn) (nm : Str) (ps : List Str) (kb : Kbs), G.fns[k]? = some f → sx.fns[k]? = some (nm, ps, kb) → FnAt X nm ps kb f
  gl : ∀ (g : Nat) (d : D) (nm : Str), G.gls[g]? = some d → sx.gls[g]? = some nm → GlV X nm d
  cell : ∀ nm, cf nm = true → X.fn nm = true
section
variable {sx : Sx} {G : Gam} {sc : Scope} {cf : Cf} {X : Cx} {iov : Nat → Option V}
theorem CtxOk.blk (ok : CtxOk sx G sc cf X) (s : Shared) (H : Hp) (scope : Scope) (C : Addr) (cl : List (Str × Addr)) (fp : List Addr) : CtxOk sx G (relS scope sc) (fun nm => scope.names.lookup nm == some .cell) (X.blk s H scope (compEnvC scope cl C X.env) fp) where
  N := ok.N
  nd := ok.nd
  sc := by rw [← ok.sc]; rfl
  calm := ok.calm
  units := ok.units
  gd := ok.gd
  blt := ok.blt
  fn := fun k f nm ps kb h1 h2 => ⟨(ok.fn k f nm ps kb h1 h2).ex, (ok.fn k f nm ps kb h1 h2).io⟩
  gl := ok.gl
  cell := fun nm h => h
theorem CtxOk.vis (ok : CtxOk sx G sc cf X) {nm : Str} (h : visB sc nm = true) : Vis X.env.scope nm := by
  rw [ok.sc]
  unfold visB at h
  split at h
  · rename_i e; exact .inl e
  · rename_i e; exact .inr (.inl e)
  · rename_i e; exact .inr (.inr e)
  · cases h
theorem CtxOk.loc (ok : CtxOk sx G sc cf X) {nm : Str} (h : locB sc cf nm = true) : Loc X.env.scope nm ∧ (X.fn nm = true ∨ X.env.scope.names.lookup nm = some .local) := by
  rw [ok.sc]
  unfold locB at h
  split at h
  · rename_i e; exact ⟨.inl e, .inr e⟩
  · rename_i e; exact ⟨.inr e, .inl (ok.cell nm h)⟩
  · cases h
theorem CtxOk.glob (ok : CtxOk sx G sc cf X) {nm : Str} (h : glB sc nm = true) : Gl X nm := by
  show X.env.scope.names.lookup nm = some .globalImplicit
  rw [ok.sc]
  unfold glB at h
  split at h
  · assumption
  · cases h
theorem CtxOk.bltn (ok : CtxOk sx G sc cf X) {nm : Str} (h : sx.blts.contains nm = true) : X.mg nm = none := ok.blt nm (by simpa using h)
theorem nmOk_1 {nm : Str} (h : nmOk nm = true) : (nm == ("__debug__" : Str)) = false ∧ (nm == ("__classdict__" : Str)) = false := by
  simpa [nmOk] using h
theorem CtxOk.ix (ok : CtxOk sx G sc cf X) {i : Nat} {nm : Str} (h : sx.N[i]? = some nm) : X.N[i]? = some nm := by rw [ok.N]; exact h
theorem tgN_ok (ok : CtxOk sx G sc cf X) : ∀ {is : List Nat} {es : List Expr}, chkTgN sx sc cf is es = true → is.length = es.length ∧ es.all plainE = true ∧ ∀ (n i : Nat) (e : Expr), is[n]? = some i → es[n]? = some e → ∃ nm p, e = .Name nm p ∧ X.N[i]? = some nm ∧ Loc X.env.scope nm ∧ (X.fn nm = true ∨ X.env.scope.names.lookup nm = some .local)
  | [], [], _ => ⟨rfl, rfl, fun n i e h => by simp at h⟩
  | [], _ :: _, h => by simp [chkTgN] at h
  | _ :: _, [], h => by simp [chkTgN] at h
  | i :: is, e :: es, h => by
    cases e with
    | Name nm p =>
      simp only [chkTgN, Bool.and_eq_true, decide_eq_true_eq] at h
      obtain ⟨⟨h1, h2⟩, h3⟩ := h
      obtain ⟨a1, a2, a3⟩ := tgN_ok ok h3
      refine ⟨by simp [a1], by simp [a2, plainE], fun n j e q1 q2 => ?_⟩
      cases n with
      | zero =>
        simp at q1 q2
        subst q1 q2
        exact ⟨nm, p, rfl, ok.ix h1, (ok.loc h2).1, (ok.loc h2).2⟩
      | succ n => exact a3 n j e (by simpa using q1) (by simpa using q2)
    | _ => simp [chkTgN] at h
theorem assignEach_plain (env : PySem.Env) : ∀ {es : List Expr}, es.all plainE = true → (assignEach es env).length = es.length ∧ (assignEach es env).findIdx? (·.1) = none
  | [], _ => ⟨rfl, rfl⟩
  | e :: es, h => by
    simp only [List.all_cons, Bool.and_eq_true] at h
    obtain ⟨h1, h2⟩ := assignEach_plain env h.2
    have e1 : assignEach (e :: es) env = (false, assign e env) :: assignEach es env := by
      cases e <;> first | rfl | (simp [plainE] at h)
    rw [e1]
    refine ⟨by simp [h1], ?_⟩
    rw [List.findIdx?_cons, h2]
    rfl
theorem tg_ok (ok : CtxOk sx G sc cf X) {tg : Tgt} {e : Expr} (h : chkTg sx sc cf tg e = true) {ρ ρ2 : Env} {d : D} (hb : bindD ρ tg d = some ρ2) : PG X e (tG X.K iov ρ (tgS2 tg) d ρ2) := by
  cases tg with
  | nm i =>
    cases e with
    | Name nm p =>
      simp only [chkTg, Bool.and_eq_true, decide_eq_true_eq] at h
      exact g_name ok.nd (ok.ix h.1) (ok.loc h.2).1 (ok.loc h.2).2 hb
    | _ => simp [chkTg] at h
  | tp is =>
    cases e with
    | Tuple es k p =>
      simp only [chkTg] at h
      obtain ⟨h1, h2, h3⟩ := tgN_ok ok h
      obtain ⟨a1, a2⟩ := assignEach_plain X.env h2
      exact g_tup ok.calm h1 hb ok.nd a1 a2 h3
    | _ => simp [chkTg] at h
theorem plain_back (pos : Pos) (env : PySem.Env) : ∀ {es : List Expr}, es.all plainE = true → (backTo pos (starEach es env)).any (·.1) = false
  | [], _ => rfl
  | e :: es, h => by
    simp only [List.all_cons, Bool.and_eq_true] at h
    rw [star_plain h.1]
    have := plain_back pos env h.2
    unfold backTo at this ⊢
    rw [List.map_cons, List.any_cons, this]
    rfl
theorem base_ok {o : Expr} (h : baseB o = true) (m : Str) (env : PySem.Env) (w : Sem Value) : attributeBase o m env w = w := by
  unfold attributeBase
  split
  · simp [baseB] at h
  · rfl
theorem plainIx_noSl {e : Expr} (h : plainIx e = true) : NoSl e := fun o i => by
  cases e <;> first | rfl | (simp [plainIx] at h)
theorem val_ok {e : Expr} (h : valB e = true) (env : PySem.Env) : ∀ whole, isTrue e env whole = (do let v ← whole; standAt e.pos; holding [v] (truthy v)) := fun w => by
  cases e with
  | UnaryOp op x p => cases op <;> first | rfl | (simp [valB] at h)
  | BoolOp _ _ _ => simp [valB] at h
  | IfExp _ _ _ _ => simp [valB] at h
  | Compare _ _ _ _ => simp [valB] at h
  | _ => rfl
theorem notSet_ok {e : Expr} (h : notSet e = true) (env : PySem.Env) : ∀ x, foldedSetIterable e env x = pure x := fun x => by
  cases e <;> first | rfl | (simp [notSet] at h)
end
end Mv

end
section
namespace Mv
open PySem PySem.Spec PyProof.Rows L2
inductive PEs (X : Cx) (iov : Nat → Option V) : List Expr → Env → List Val → Env → Bool → Prop
  | nil {ρ : Env} : PEs X iov [] ρ [] ρ false
  | cons {e : Expr} {es : List Expr} {ρ ρ1 ρ2 : Env} {a : Val} {as : List Val} {wa wb : Bool} (h : PE X e (tE X.K iov ρ a ρ1 wa)) (t : PEs X iov es ρ1 as ρ2 wb) (st : stands a wb = true) : PEs X iov (e :: es) ρ (a :: as) ρ2 (wa || wb)
theorem PEs.one {X : Cx} {iov : Nat → Option V} {x : Expr} {ρ ρ1 : Env} {as : List Val} {w : Bool} (h : PEs X iov [x] ρ as ρ1 w) : ∃ a, as = [a] ∧ PE X x (tE X.K iov ρ a ρ1 w) := by
  cases h with
  | cons h t st =>
    cases t
    rw [Bool.or_false]
    exact ⟨_, rfl, h⟩
theorem PEs.two {X : Cx} {iov : Nat → Option V} {x y : Expr} {ρ ρ2 : Env} {as : List Val} {w : Bool} (h : PEs X iov [x, y] ρ as ρ2 w) : ∃ a b ρ1 wa wb, as = [a, b] ∧ PE X x (tE X.K iov ρ a ρ1 wa) ∧ PE X y (tE X.K iov ρ1 b ρ2 wb) ∧ stands a wb = true ∧ w = (wa || wb) := by
  cases h with
  | cons h t st =>
    obtain ⟨b, rfl, hb⟩ := t.one
    exact ⟨_, b, _, _, _, rfl, h, hb, st, rfl⟩
theorem resolves1 {ρ : Env} {a : Val} {ts : List T} (h : resolves ρ [a] = some ts) : ∃ x, ts = [x] ∧ resolve ρ a = some x := by
  simp only [resolves] at h
  split at h
  · rename_i t ts' e1 e2
    cases e2; cases h
    exact ⟨t, rfl, e1⟩
  · cases h
theorem resolves2 {ρ : Env} {a b : Val} {ts : List T} (h : resolves ρ [a, b] = some ts) : ∃ x y, ts = [x, y] ∧ resolve ρ a = some x ∧ resolve ρ b = some y := by
  unfold resolves at h
  split at h
  · rename_i t ts' e1 e2
    obtain ⟨y, rfl, e3⟩ := resolves1 e2
    cases h
    exact ⟨t, y, rfl, e1, e3⟩
  · cases h
theorem mergeK_nodup {ks : List Key} (h : ks.Nodup) : ∀ {vs : List V}, vs.length = ks.length → mergeK [] (ks.zip vs) = ks.zip vs := by
  have go : ∀ (l : List (Key × V)) (acc : List (Key × V)), (acc.map (·.1) ++ l.map (·.1)).Nodup → mergeK acc l = acc ++ l := by
    intro l
    induction l with
    | nil => intro acc _; simp [mergeK]
    | cons p l ih =>
      intro acc hn
      have hv : valV acc p.1 = none := by
        cases e : valV acc p.1 with
        | none => rfl
        | some v =>
          have : (valV acc p.1).isSome = true := by rw [e]; rfl
          rw [← valV_any, List.any_eq_true] at this
          obtain ⟨q, hq, e2⟩ := this
          have e2 : q.1 = p.1 := of_decide_eq_true e2
          exact ((List.nodup_append.mp hn).2.2 q.1 (List.mem_map_of_mem hq) p.1 (by simp) e2).elim
      show mergeK (putK acc p.1 p.2) l = _
      rw [putK_new _ hv, ih _ (by simpa [List.append_assoc] using hn), List.append_assoc]
      rfl
  intro vs hl
  rw [go _ [] (by
    rw [List.map_nil, List.nil_append, List.map_fst_zip (by omega)]; exact h)]
  rfl
theorem disp_pairs {X : Cx} {iov : Nat → Option V} {pos : Pos} {xs : List Expr} {ρ ρ1 : Env} {as : List Val} {w : Bool} (ps : PEs X iov xs ρ as ρ1 w) : ∀ {ks : List Str} {keys : List (Option Expr)}, chkKeys ks keys = true → ks.length = xs.length → ∃ trs, PPs X pos keys xs trs ∧
    ∀ {σ : L2.St} {H : Hp} {F : Addr → Prop} {fp : Fp} {Q : List (V × V) → Hp → Prop}, SR X.K iov [] F H σ ρ fp → (∀ vs H' F' fp' fpv, SR X.K iov [] F' H' σ ρ1 fp' → VRs X.K F' H' σ as vs fpv → Post F H fp F' H' fp' fpv w → Q ((ks.map V.str).zip vs) H') → tPairs trs σ H Q := by
  induction ps with
  | nil =>
    intro ks keys hk hl
    have : ks = [] := List.eq_nil_of_length_eq_zero hl
    subst this
    cases keys with
    | nil => exact ⟨_, pps_nil, fun S k => k [] _ _ _ [] S rfl (.refl S)⟩
    | cons _ _ => simp [chkKeys] at hk
  | cons h t st ih =>
    intro ks keys hk hl
    cases ks with
    | nil => simp at hl
    | cons k ks =>
      unfold chkKeys at hk
      split at hk
      · rename_i z; cases z
      · rename_i k' ks' s _ _ es e1
        cases e1
        simp only [Bool.and_eq_true, decide_eq_true_eq] at hk
        obtain ⟨rfl, hk⟩ := hk
        obtain ⟨trs, p, q⟩ := ih hk (by simpa using hl)
        refine ⟨_, pps_cons pe_str h p, fun {σ H F fp Q} S kk => ?_⟩
        show tC (.str k) σ H fun x H1 => _
        refine ⟨F, fp, S, fun vy H1 F1 fp1 fa S1 V1 P1 => q S1 fun vs H2 F2 fp2 fb S2 V2 P2 => ?_⟩
        exact kk (vy :: vs) H2 F2 fp2 (fa ++ fb) S2 ⟨fa, fb, rfl, V1.step P2 (fun i b hb => (S1.fpF i b hb).1) P1.disv st, V2⟩ (P1.trans P2 V1.fps)
      · cases hk
theorem s_dict {X : Cx} {iov : Nat → Option V} {pos : Pos} {xs : List Expr} {ρ ρ1 : Env} {as : List Val} {w : Bool} {ks : List Str} {keys : List (Option Expr)} {ts : List T} {t : T} (ps : PEs X iov xs ρ as ρ1 w) (hk : chkKeys ks keys = true) (hl : ks.length = xs.length) (h1 : 1 ≤ ks.length) (h15 : ks.length ≤ 15)
    (hr : resolves ρ1 as = some ts) (ha : appX (.dict ks) ts = some t) : PE X (.Dict keys xs pos) (tE X.K iov ρ (.t t) ρ1 w) := by
  obtain ⟨trs, p, q⟩ := disp_pairs (pos := pos) ps hk hl
  have kl : ∀ (ks : List Str) (keys : List (Option Expr)), chkKeys ks keys = true → keys.all (·.isSome) = true ∧ keys.length = ks.length := by
    intro ks
    induction ks with
    | nil => intro keys h; cases keys with | nil => exact ⟨rfl, rfl⟩ | cons _ _ => simp [chkKeys] at h
    | cons k ks ih =>
      intro keys h
      unfold chkKeys at h
      split at h
      · rename_i z; cases z
      · rename_i k' ks0 s _ _ es e1
        cases e1
        rw [Bool.and_eq_true] at h
        obtain ⟨a, b⟩ := ih _ h.2
        exact ⟨by simp [a], by simp [b]⟩
      · cases h
  obtain ⟨k1, k2⟩ := kl ks keys hk
  refine PE.imp' (pe_disp p k1 (by omega) (fun e => by rw [e] at k2; simp at k2; omega) (by omega)) ?_
  rintro σ H Q ⟨F, fp, S, kk⟩
  intro a hn
  have nF : ¬ F a := fun f => S.trk a f hn
  have nfp : ∀ i, a ∉ fp i := fun i hb => (S.fpF i a hb).2 hn
  have S1 := S.beside (D := a) (o := .dK []) nF nfp
  refine q S1 fun vs H2 F2 fp2 fpv S2 V2 P2 => ?_
  have e2 : H2 a = some (.dK []) := P2.keep a _ upd_same (.inr nfp)
  have hH : ∀ b, b ≠ a → (upd H a (.dK [])) b = H b := fun b hb => upd_ne hb
  unfold appX at ha
  split at ha
  · rename_i z; cases z
  · rename_i z; cases z
  · rename_i _ hko
    cases hko
    split at ha
    · rename_i hc
      simp only [Bool.and_eq_true, decide_eq_true_eq] at hc
      obtain ⟨ds, e3, rfl⟩ := Option.map_eq_some_iff.mp ha
      obtain ⟨g1, r1⟩ := S2.rslvs hr V2
      rw [unfzs_eq e3] at r1
      obtain ⟨rfl, rds⟩ := TReps.fzs.mp r1
      have lv : vs.length = (ks.map (Sum.inr : Str → Key)).length := by
        rw [rds.len, List.length_map, hc.1.1.2, unfzs_eq e3]; simp [fzs]
      have n2 : ¬ F2 a := fun f => by
        rcases P2.new a f with z | ⟨j, z⟩ | z
        · exact nF z
        · exact nfp j z
        · rw [upd_same] at z; cases z
      have f2 : ∀ j, a ∉ fp2 j := fun j hb => by
        rcases P2.fresh j a hb with ⟨j', z⟩ | z
        · exact nfp j' z
        · rw [upd_same] at z; cases z
      have ndk : (ks.map (Sum.inr : Str → Key)).Nodup := by
        rw [List.nodup_iff_pairwise_ne, List.pairwise_map]
        exact (List.nodup_iff_pairwise_ne.mp hc.1.1.1).imp fun h z => h (Sum.inr.inj z)
      refine ⟨e2, (ks.map (Sum.inr : Str → Key)).zip vs, ?_, ?_, ?_⟩
      · have : ∀ (ks : List Str) (vs : List V), (ks.map V.str).zip vs = ((ks.map (Sum.inr : Str → Key)).zip vs).map fun kv => (kV kv.1, kv.2) := by
          intro ks
          induction ks with
          | nil => intro vs; rfl
          | cons k ks ih => intro vs; cases vs with | nil => rfl | cons v vs => simp only [List.map_cons, List.zip_cons_cons, ih]; rfl
        exact this ks vs
      · rw [List.length_zip, List.length_map]; omega
      · rw [mergeK_nodup ndk lv]
        refine kk (.ref a) _ F2 fp2 [a] (S2.beside n2 f2) ?_ ⟨P2.sub, fun b hb => ?_, fun b o e hw => ?_, fun b hb => ?_, fun j b hb => ?_, fun b hb => ?_, fun j b hb hc => ?_, by simp⟩
        · show TRep _ _ _ _ _ _
          simp only [TRep]
          refine ⟨a, vs, [], rfl, rfl, n2, upd_same, lv, ndk, ?_⟩
          refine TReps.fzs.mpr ⟨rfl, RepDs.mono (fun _ h => h) (fun b o f e => ?_) ds vs rds⟩
          rw [upd_ne (show b ≠ a from fun z => n2 (by rw [← z]; exact f))]; exact e
        · rcases P2.new b hb with z | z | z
          · exact .inl z
          · exact .inr (.inl z)
          · by_cases hba : b = a
            · subst hba; exact absurd hb n2
            · rw [hH b hba] at z; exact .inr (.inr z)
        · by_cases hba : b = a
          · subst hba; rw [hn] at e; cases e
          · rw [upd_ne hba]; exact P2.keep b o (by rw [hH b hba]; exact e) hw
        · by_cases hba : b = a
          · subst hba; rw [upd_same]; simp
          · rw [upd_ne hba]; exact P2.there b (by rw [hH b hba]; exact hb)
        · rcases P2.fresh j b hb with z | z
          · exact .inl z
          · by_cases hba : b = a
            · subst hba; exact .inr hn
            · rw [hH b hba] at z; exact .inr z
        · have : b = a := by simpa using hb
          subst this; exact .inr hn
        · have : b = a := by simpa using hc
          subst this; exact f2 j hb
    · cases ha
  · rename_i z; cases z
  · rename_i z; cases z
  · rename_i z _ _ _; exact absurd rfl (z _)
theorem PEs.pa {X : Cx} {iov : Nat → Option V} {es : List Expr} {ρ ρ1 : Env} {as : List Val} {w : Bool} (h : PEs X iov es ρ as ρ1 w) : es.all plainE = true → PA X es (tA X.K iov ρ as ρ1 w) ∧ as.length = es.length := by
  induction h with
  | nil => exact fun _ => ⟨a_nil, rfl⟩
  | cons h t st ih =>
    intro hp
    rw [List.all_cons, Bool.and_eq_true] at hp
    obtain ⟨a, b⟩ := ih hp.2
    exact ⟨a_cons hp.1 h a st, by simp [b]⟩
theorem s_ext {sx : Sx} {G : Gam} {sc : Scope} {cf : Cf} {X : Cx} {iov : Nat → Option V} (ok : CtxOk sx G sc cf X) {o : Ox} {e : Expr} {xs : List Expr} {ρ ρ1 : Env} {as : List Val} {w : Bool} {ts : List T} {t : T} (h : chkX sx sc o e = some xs) (ps : PEs X iov xs ρ as ρ1 w) (hr : resolves ρ1 as = some ts) (ha : appX o ts = some t) (hv : (o.any || tailT as) = true) :
    PE X e (tE X.K iov ρ (.t t) ρ1 w) := by
  have hv : o.any = false → ∀ a ∈ as.tail, ∃ u, a = .t u := fun e a ha => by
    rw [e, Bool.false_or] at hv
    have := List.all_eq_true.mp hv a ha
    cases a with
    | t u => exact ⟨u, rfl⟩
    | pt j k => cases this
  unfold chkX at h
  split at h
  · split at h
    · rename_i hh
      cases h
      simp only [Bool.and_eq_true, decide_eq_true_eq] at hh
      obtain ⟨⟨⟨h1, h2⟩, h3⟩, h4⟩ := hh
      exact s_dict ps h1 h2 h3 h4 hr ha
    · cases h
  · split at h
    · rename_i hh
      cases h
      simp only [Bool.and_eq_true, decide_eq_true_eq] at hh
      obtain ⟨rfl, hb⟩ := hh
      obtain ⟨a, rfl, p⟩ := ps.one
      obtain ⟨x, rfl, rx⟩ := resolves1 hr
      exact s_fld (base_ok hb _ _ _) p rx ha
    · cases h
  · split at h
    · rename_i hh
      cases h
      simp only [Bool.and_eq_true, decide_eq_true_eq] at hh
      obtain ⟨⟨⟨⟨rfl, rfl⟩, hg⟩, hm⟩, hp⟩ := hh
      obtain ⟨a, b, ρ2, wa, wb, rfl, p, q, st, rfl⟩ := ps.two
      obtain ⟨x, y, rfl, rx, ry⟩ := resolves2 hr
      obtain ⟨u, rfl⟩ := hv rfl b (by simp)
      cases ry
      exact s_maxd ok.calm ok.units (ok.glob hg) (ok.bltn hm) hp p q st rx ha
    · cases h
  · split at h
    · rename_i hh
      cases h
      simp only [Bool.and_eq_true, decide_eq_true_eq] at hh
      obtain ⟨⟨⟨⟨rfl, rfl⟩, hg⟩, hm⟩, hp⟩ := hh
      obtain ⟨a, b, ρ2, wa, wb, rfl, p, q, st, rfl⟩ := ps.two
      obtain ⟨x, y, rfl, rx, ry⟩ := resolves2 hr
      obtain ⟨u, rfl⟩ := hv rfl b (by simp)
      cases ry
      exact s_mind ok.calm ok.units (ok.glob hg) (ok.bltn hm) hp p q st rx ha
    · cases h
  · split at h
    · rename_i hh
      cases h
      simp only [Bool.and_eq_true, decide_eq_true_eq] at hh
      obtain ⟨⟨⟨⟨⟨⟨rfl, rfl⟩, hg⟩, hm⟩, hg2⟩, hm2⟩, hp⟩ := hh
      obtain ⟨a, rfl, p⟩ := ps.one
      obtain ⟨x, rfl, rx⟩ := resolves1 hr
      exact s_lset ok.calm (ok.glob hg) (ok.bltn hm) (ok.glob hg2) (ok.bltn hm2) hp p rx ha
    · cases h
  · split at h
    · rename_i hh
      cases h
      simp only [Bool.and_eq_true, decide_eq_true_eq] at hh
      obtain ⟨⟨⟨⟨⟨⟨rfl, rfl⟩, hg⟩, hm⟩, hg2⟩, hm2⟩, hp⟩ := hh
      obtain ⟨a, rfl, p⟩ := ps.one
      obtain ⟨x, rfl, rx⟩ := resolves1 hr
      exact s_sset ok.calm (ok.glob hg) (ok.bltn hm) (ok.glob hg2) (ok.bltn hm2) hp p rx ha
    · cases h
  · split at h
    · rename_i hh
      cases h
      simp only [Bool.and_eq_true, decide_eq_true_eq] at hh
      obtain ⟨⟨⟨⟨rfl, hg⟩, hm⟩, hn⟩, hp⟩ := hh
      obtain ⟨pa, pl⟩ := ps.pa hp
      exact s_reprl ok.units ok.gd (ok.glob hg) (ok.bltn hm) hn pa pl hr ha
    · cases h
  · cases h
end Mv

end
section
namespace Mv
open PySem PySem.Spec PyProof.Rows L2
theorem tIW.more {X : Cx} {iov : Nat → Option V} {tg e : Expr} {ρ ρ1 : Env} {ds : List D} {wa w wb : Bool} (h : PI X tg e (tIW wb X.K iov ρ ds ρ1 wa)) (hw : wa = true → w = true) : PI X tg e (tIW wb X.K iov ρ ds ρ1 w) :=
  PI.imp' h fun σ H Q ⟨F, fp, S, k⟩ => ⟨F, fp, S, fun J H1 F1 fp1 S1 it P => k J H1 F1 fp1 S1 it (P.more hw)⟩
theorem brw_t {a b c : Bool} (h : (!a || (!b && !c)) = true) (z : b = true) : (!a) = true := by cases a <;> cases b <;> cases c <;> simp_all
theorem brw_e {a b c : Bool} (h : (!a || (!b && !c)) = true) (z : c = true) : (!a) = true := by cases a <;> cases b <;> cases c <;> simp_all
theorem tI.more {X : Cx} {iov : Nat → Option V} {tg e : Expr} {ρ ρ1 : Env} {ds : List D} {wa w : Bool} (h : PI X tg e (tI X.K iov ρ ds ρ1 wa)) (hw : wa = true → w = true) : PI X tg e (tI X.K iov ρ ds ρ1 w) :=
  PI.imp' h fun σ H Q ⟨F, fp, S, k⟩ => ⟨F, fp, S, fun J H1 F1 fp1 S1 it P => k J H1 F1 fp1 S1 it (P.more hw)⟩
theorem tO.more {X : Cx} {iov : Nat → Option V} {e : Option Expr} {ρ ρ1 : Env} {l : Option Int} {wa w : Bool} (h : PO X e (tO X.K iov ρ l ρ1 wa)) (hw : wa = true → w = true) : PO X e (tO X.K iov ρ l ρ1 w) :=
  PO.imp' h fun σ H Q ⟨F, fp, S, k⟩ => ⟨F, fp, S, fun H1 F1 fp1 S1 P => k H1 F1 fp1 S1 (P.more hw)⟩
theorem PTs.imp' {X : Cx} {e : List Expr} {t t' : TT} (h : PTs X e t) (k : ∀ σ H Q, t' σ H Q → t σ H Q) : PTs X e t' := ⟨fun pins s σ H Q I q => h.run pins s σ H Q I (k _ _ _ q)⟩
theorem ixVal_get {ρ : Env} {va : Val} {i x : T} {vc : Val} (hr : resolve ρ va = some x) (h : ixVal ρ va i = some vc) : ∃ t k, getIx x i = some (t, k) := by
  cases va with
  | t t =>
    cases hr
    obtain ⟨p, e1, _⟩ := Option.map_eq_some_iff.mp h
    exact ⟨p.1, p.2, e1⟩
  | pt j l =>
    have hr : getPt ρ j l = some x := hr
    unfold ixVal at h
    simp only [hr] at h
    split at h
    · rename_i d k e; exact ⟨_, _, e⟩
    · rename_i t k _ e; exact ⟨_, _, e⟩
    · cases h
theorem tyNm_boot {f : Blt} {T : String} (h : isTy f = some T) : bootBuiltins (tyNm f) = some (.type T) ∧ tyNm f ≠ "__name__" ∧ (tyNm f == ("__debug__" : Str)) = false := by
  cases f <;> simp [isTy] at h <;> subst h
  · exact ⟨boot_int, by decide +kernel, by decide +kernel⟩
  · exact ⟨boot_bool, by decide +kernel, by decide +kernel⟩
  · exact ⟨boot_str, by decide +kernel, by decide +kernel⟩
  · exact ⟨boot_list, by decide +kernel, by decide +kernel⟩
  · exact ⟨boot_tuple, by decide +kernel, by decide +kernel⟩
theorem bltN_isi {f : Blt} {T : String} (h : isTy f = some T) : bltN f = "isinstance" := by
  cases f <;> simp [isTy] at h <;> rfl
theorem callF_1 {va : Val} {f : Fn} {ρ ρ' : Env} {vs : List Val} (h : (callF f ρ vs).map (fun p => (Val.t p.1, p.2)) = some (va, ρ')) : ∃ t, va = .t t ∧ callF f ρ vs = some (t, ρ') := by
  obtain ⟨p, e1, e2⟩ := Option.map_eq_some_iff.mp h
  cases e2
  exact ⟨_, rfl, e1⟩
section
variable {sx : Sx} {G : Gam} {iov : Nat → Option V}
set_option maxHeartbeats 20000000
mutual
theorem sndC : ∀ (c : C) {sc : Scope} {cf : Cf} {X : Cx} (ok : CtxOk sx G sc cf X) {e : Expr}, chkC sx sc c e = true → ∀ {ρ a ρ'}, evC G c ρ = some (a, ρ') → PE X e (tE X.K iov ρ a ρ' c.wr)
  | .var i, sc, cf, X, ok, e, h, ρ, a, ρ', ev => by
    cases e with
    | Name nm p =>
      simp only [chkC, Bool.and_eq_true, decide_eq_true_eq] at h
      obtain ⟨⟨h1, h2⟩, h3⟩ := h
      simp only [evC] at ev
      obtain ⟨v, e1, e2⟩ := Option.map_eq_some_iff.mp ev
      cases e2
      exact s_var (ok.ix h1) (ok.vis h2) (nmOk_1 h3).1 (nmOk_1 h3).2 e1
    | _ => simp [chkC] at h
  | .mv i, sc, cf, X, ok, e, h, ρ, a, ρ', ev => by
    cases e with
    | Name nm p =>
      simp only [chkC, Bool.and_eq_true, decide_eq_true_eq] at h
      obtain ⟨⟨h1, h2⟩, h3⟩ := h
      simp only [evC] at ev
      split at ev
      · rename_i t e1
        cases ev
        exact s_mv (ok.ix h1) (ok.vis h2) (nmOk_1 h3).1 (nmOk_1 h3).2 e1
      · cases ev
    | _ => simp [chkC] at h
  | .kst d, sc, cf, X, ok, e, h, ρ, a, ρ', ev => by
    cases e with
    | Constant c k p =>
      simp only [chkC] at h
      simp only [evC] at ev
      cases ev
      split at h
      · exact s_const_none
      · simp at h; subst h; exact s_const_bool
      · simp at h; subst h; exact s_const_int
      · simp at h; subst h; exact s_const_str
      · cases h
    | _ => simp [chkC] at h
  | .gl g, sc, cf, X, ok, e, h, ρ, a, ρ', ev => by
    cases e with
    | Name nm p =>
      simp only [chkC, Bool.and_eq_true, decide_eq_true_eq] at h
      obtain ⟨⟨h1, h2⟩, h3⟩ := h
      simp only [evC] at ev
      obtain ⟨d, e1, e2⟩ := Option.map_eq_some_iff.mp ev
      cases e2
      exact s_gl (ok.glob h2) (ok.gl g d nm e1 h1) (nmOk_1 h3).1
    | _ => simp [chkC] at h
  | .fzv c, sc, cf, X, ok, e, h, ρ, a, ρ', ev => by
    have h : chkC sx sc c e = true := by simpa only [chkC] using h
    simp only [evC] at ev
    split at ev
    · rename_i v ρ1 e1
      obtain ⟨p, e2, e3⟩ := Option.map_eq_some_iff.mp ev
      cases e3
      exact s_fzv (sndC c ok h e1) e2
    · cases ev
  | .tup es, sc, cf, X, ok, e, h, ρ, a, ρ', ev => by
    cases e with
    | Tuple xs k p =>
      simp only [chkC, Bool.and_eq_true, decide_eq_true_eq] at h
      simp only [evC] at ev
      split at ev
      · rename_i vs ρ1 e1
        obtain ⟨q, e2, e3⟩ := Option.map_eq_some_iff.mp ev
        cases e3
        obtain ⟨h1, _, h3⟩ := sndCs es ok h.2 e1
        exact s_tup h.1 h3 h1 e2
      · cases ev
    | _ => simp [chkC] at h
  | .list es, sc, cf, X, ok, e, h, ρ, a, ρ', ev => by
    cases e with
    | List xs p =>
      simp only [chkC, Bool.and_eq_true, decide_eq_true_eq] at h
      simp only [evC] at ev
      split at ev
      · rename_i vs ρ1 e1
        obtain ⟨q, e2, e3⟩ := Option.map_eq_some_iff.mp ev
        cases e3
        obtain ⟨h1, _, h3⟩ := sndCs es ok h.2 e1
        exact s_list h.1 h3 h1 e2
      · cases ev
    | _ => simp [chkC] at h
  | .dict0, sc, cf, X, ok, e, h, ρ, a, ρ', ev => by
    simp only [evC] at ev
    cases ev
    cases e with
    | Dict ks vs p =>
      match ks, vs, h with
      | [], [], h => exact s_dict0
      | [], _ :: _, h => simp [chkC] at h
      | _ :: _, _, h => simp [chkC] at h
    | _ => simp [chkC] at h
  | .bin op ca cb, sc, cf, X, ok, e, h, ρ, a, ρ', ev => by
    cases e with
    | BinOp x op' y p =>
      simp only [chkC, Bool.and_eq_true, decide_eq_true_eq] at h
      obtain ⟨⟨rfl, h2⟩, h3⟩ := h
      simp only [evC] at ev
      split at ev
      · rename_i va ρ1 e1
        split at ev
        · rename_i vb ρ2 e2
          split at ev
          · rename_i st
            split at ev
            · rename_i tx ty rx ry
              obtain ⟨t, e3, e4⟩ := Option.map_eq_some_iff.mp ev
              cases e4
              exact s_bin (sndC ca ok h2 e1) (sndC cb ok h3 e2) st rx ry e3
            · cases ev
          · cases ev
        · cases ev
      · cases ev
    | _ => simp [chkC] at h
  | .neg ca, sc, cf, X, ok, e, h, ρ, a, ρ', ev => by
    cases e with
    | UnaryOp op x p =>
      cases op with
      | USub =>
        simp only [chkC] at h
        simp only [evC] at ev
        split at ev
        · rename_i i ρ1 e1
          cases ev
          exact s_neg (sndC ca ok h e1)
        · cases ev
      | _ => simp [chkC] at h
    | _ => simp [chkC] at h
  | .notv ca, sc, cf, X, ok, e, h, ρ, a, ρ', ev => by
    cases e with
    | UnaryOp op x p =>
      cases op with
      | Not =>
        simp only [chkC] at h
        simp only [evC] at ev
        split at ev
        · rename_i i ρ1 e1
          cases ev
          exact s_notv (sndC ca ok h e1)
        · cases ev
      | _ => simp [chkC] at h
    | _ => simp [chkC] at h
  | .boolop op ca cb, sc, cf, X, ok, e, h, ρ, a, ρ', ev => by
    cases e with
    | BoolOp op' xs p =>
      match xs, h with
      | [], h => simp [chkC] at h
      | [_], h => simp [chkC] at h
      | x :: y :: r, h =>
        simp only [chkC, Bool.and_eq_true, decide_eq_true_eq] at h
        obtain ⟨⟨rfl, h2⟩, h3⟩ := h
        simp only [evC] at ev
        split at ev
        · rename_i k ρ1 e1
          have hb : (decide (op = .And)) = k → ∀ {a ρ'}, evC G cb ρ1 = some (a, ρ') → PE X (.BoolOp op (y :: r) p) (tE X.K iov ρ1 a ρ' cb.wr) := fun _ a ρ' e2 => by
            cases r with
            | nil => exact pe_one (sndC cb ok h3 e2)
            | cons z r => exact sndC cb ok h3 e2
          by_cases hk : (decide (op = .And)) = k
          · rw [if_pos hk] at ev
            exact s_boolop (sndC ca ok h2 e1) (fun _ => hb hk ev) (fun z => absurd hk z)
          · rw [if_neg hk] at ev
            cases ev
            exact s_boolop (sndC ca ok h2 e1) (fun z => absurd z hk) (fun _ => ⟨rfl, rfl⟩)
        · cases ev
    | _ => simp [chkC] at h
  | .cmp op ca cb, sc, cf, X, ok, e, h, ρ, a, ρ', ev => by
    cases e with
    | Compare x ops cs p =>
      match ops, cs, h with
      | [], _, h => simp [chkC] at h
      | [_], [], h => simp [chkC] at h
      | [_], _ :: _ :: _, h => simp [chkC] at h
      | _ :: _ :: _, _, h => simp [chkC] at h
      | [op'], [y], h =>
        simp only [chkC, Bool.and_eq_true, decide_eq_true_eq, Bool.not_eq_true'] at h
        obtain ⟨⟨⟨rfl, hm⟩, h2⟩, h3⟩ := h
        simp only [evC] at ev
        split at ev
        · rename_i va ρ1 e1
          split at ev
          · rename_i vb ρ2 e2
            split at ev
            · rename_i st
              split at ev
              · rename_i tx ty rx ry
                obtain ⟨t, e3, e4⟩ := Option.map_eq_some_iff.mp ev
                cases e4
                exact s_cmp ok.units (sndC ca ok h2 e1) (sndC cb ok h3 e2) st rx ry e3 hm
              · cases ev
            · cases ev
          · cases ev
        · cases ev
    | _ => simp [chkC] at h
  | .chain o1 o2 ca cb cc, sc, cf, X, ok, e, h, ρ, a, ρ', ev => by
    cases e with
    | Compare x ops cs p =>
      match ops, cs, h with
      | [], _, h => simp [chkC] at h
      | [_], _, h => simp [chkC] at h
      | _ :: _ :: _ :: _, _, h => simp [chkC] at h
      | [_, _], [], h => simp [chkC] at h
      | [_, _], [_], h => simp [chkC] at h
      | [_, _], _ :: _ :: _ :: _, h => simp [chkC] at h
      | [p1, p2], [y, z], h =>
        simp only [chkC, Bool.and_eq_true, decide_eq_true_eq, Bool.not_eq_true'] at h
        obtain ⟨⟨⟨⟨⟨rfl, rfl⟩, hm⟩, h2⟩, h3⟩, h4⟩ := h
        simp only [evC] at ev
        split at ev
        · rename_i tx ρ1 e1
          split at ev
          · rename_i ty ρ2 e2
            split at ev
            · rename_i e3
              cases ev
              exact s_chainF ok.units (sndC ca ok h2 e1) (sndC cb ok h3 e2) e3 hm
            · rename_i e3
              split at ev
              · rename_i tz ρ3 e4
                obtain ⟨t, e5, e6⟩ := Option.map_eq_some_iff.mp ev
                cases e6
                exact s_chainT ok.units (sndC ca ok h2 e1) (sndC cb ok h3 e2) e3 (sndC cc ok h4 e4) e5 hm
              · cases ev
            · cases ev
          · cases ev
        · cases ev
    | _ => simp [chkC] at h
  | .ite ct ca cb, sc, cf, X, ok, e, h, ρ, a, ρ', ev => by
    cases e with
    | IfExp t x y p =>
      simp only [chkC, Bool.and_eq_true] at h
      obtain ⟨⟨h1, h2⟩, h3⟩ := h
      simp only [evC] at ev
      have fin : ∀ {w : Bool}, PE X (.IfExp t x y p) (tE X.K iov ρ a ρ' (ct.wr || (ca.wr || cb.wr))) → PE X (.IfExp t x y p) (tE X.K iov ρ a ρ' (C.ite ct ca cb).wr) := fun {w} q => tE.more q (by simp only [C.wr, Bool.or_assoc]; exact id)
      split at ev
      · rename_i ρ1 e1
        exact fin (w := true) (s_ite (tc := fun _ _ _ => False) (sndT ct ok h1 e1) (fun _ => tE.more (sndC ca ok h2 ev) (by intro z; rw [z]; rfl)) (fun z => nomatch z))
      · rename_i ρ1 e1
        exact fin (w := true) (s_ite (tc := fun _ _ _ => False) (sndT ct ok h1 e1) (fun z => nomatch z) (fun _ => tE.more (sndC cb ok h3 ev) (by intro z; rw [z, Bool.or_true])))
      · cases ev
    | _ => simp [chkC] at h
  | .ix ca ci, sc, cf, X, ok, e, h, ρ, a, ρ', ev => by
    cases e with
    | Subscript x y p =>
      simp only [chkC, Bool.and_eq_true] at h
      obtain ⟨⟨h1, h2⟩, h3⟩ := h
      simp only [evC] at ev
      split at ev
      · rename_i va ρ1 e1
        split at ev
        · rename_i ti ρ2 e2
          split at ev
          · rename_i st
            split at ev
            · rename_i tx rx
              split at ev
              · rename_i ks ts hd
                obtain ⟨d, e3, e4⟩ := Option.map_eq_some_iff.mp ev
                cases e4
                exact s_dix ok.units (plainIx_noSl h1) (sndC ca ok h2 e1) (sndC ci ok h3 e2) st rx hd e3
              · obtain ⟨v, e3, e4⟩ := Option.map_eq_some_iff.mp ev
                cases e4
                obtain ⟨t, k, e5⟩ := ixVal_get rx e3
                exact s_ix h1 (sndC ca ok h2 e1) (sndC ci ok h3 e2) st rx e5 e3
            · cases ev
          · cases ev
        · cases ev
      · cases ev
    | _ => simp [chkC] at h
  | .sl ca lo hi, sc, cf, X, ok, e, h, ρ, a, ρ', ev => by
    cases e with
    | Subscript x y p =>
      cases y with
      | Slice l u st p2 =>
        cases st with
        | some _ => simp [chkC] at h
        | none =>
          simp only [chkC, Bool.and_eq_true] at h
          obtain ⟨⟨h1, h2⟩, h3⟩ := h
          simp only [evC] at ev
          split at ev
          · rename_i va ρ1 e1
            split at ev
            · rename_i l' ρ2 e2
              split at ev
              · rename_i u' ρ3 e3
                split at ev
                · rename_i st
                  simp only [Bool.and_eq_true] at st
                  split at ev
                  · rename_i tx rx
                    obtain ⟨t, e4, e5⟩ := Option.map_eq_some_iff.mp ev
                    cases e5
                    exact tE.more (s_sl (sndC ca ok h1 e1) (sndO lo ok h2 e2) (sndO hi ok h3 e3) st.1.1 rx e4) (by simp only [C.wr, Bool.or_assoc]; exact id)
                  · cases ev
                · cases ev
              · cases ev
            · cases ev
          · cases ev
      | _ => simp [chkC] at h
    | _ => simp [chkC] at h
  | .call k cs, sc, cf, X, ok, e, h, ρ, a, ρ', ev => by
    cases e with
    | Call f args kws p =>
      cases f with
      | Name nm p2 =>
        match args, kws, h with
        | [], _, h => simp [chkC] at h
        | _ :: _, _ :: _, h => simp [chkC] at h
        | x :: xs, [], h =>
          simp only [chkC, Bool.and_eq_true] at h
          obtain ⟨⟨⟨h1, h2⟩, h3⟩, h4⟩ := h
          simp only [evC] at ev
          split at ev
          · rename_i fn hf
            split at ev
            · rename_i vs ρ1 e1
              obtain ⟨t, rfl, e2⟩ := callF_1 ev
              split at h1
              · rename_i n pk hn
                obtain ⟨ps, kb⟩ := pk
                have h1 : n = nm := by simpa using h1
                subst h1
                obtain ⟨_, a2, a3⟩ := sndCs cs ok h4 e1
                simp only [List.all_cons, Bool.and_eq_true] at a2
                exact s_call (ok.fn k fn n ps kb hf hn) ok.gd (ok.glob h2) (nmOk_1 h3).1 a2.1 (plain_back p X.env a2.2) a3 e2
              · cases h1
            · cases ev
          · cases ev
      | _ => simp [chkC] at h
    | _ => simp [chkC] at h
  | .callk k perm cs, sc, cf, X, ok, e, h, ρ, a, ρ', ev => by
    cases e with
    | Call f args kws p =>
      cases f with
      | Name nm p2 =>
        cases args with
        | cons _ _ => simp [chkC] at h
        | nil =>
          simp only [chkC, Bool.and_eq_true, decide_eq_true_eq] at h
          obtain ⟨⟨⟨⟨h1, hnd⟩, h2⟩, h3⟩, h4⟩ := h
          simp only [evC] at ev
          split at ev
          · rename_i fn hf
            split at ev
            · rename_i vs ρ1 e1
              split at ev
              · rename_i ws e5
                obtain ⟨t, rfl, e2⟩ := callF_1 ev
                split at h1
                · rename_i n ps kb hn
                  simp only [Bool.and_eq_true, decide_eq_true_eq] at h1
                  obtain ⟨rfl, h1⟩ := h1
                  obtain ⟨q, hq, hq2⟩ := List.any_eq_true.mp h1
                  simp only [Bool.and_eq_true, decide_eq_true_eq] at hq2
                  obtain ⟨ks, pm⟩ := q
                  obtain ⟨hq2, rfl⟩ := hq2
                  obtain ⟨a1, a3⟩ := sndK cs ok h4 e1
                  have hkl : kws.length = ks.length := by have := congrArg List.length hq2; simpa using this
                  exact s_callk (ok.fn k fn n ps kb hf hn) ok.gd (ok.glob h2) (nmOk_1 h3).1 hq hq2 hkl (by rw [a1, hkl]) a3 e5 hnd e2
                · cases h1
              · cases ev
            · cases ev
          · cases ev
      | _ => simp [chkC] at h
    | _ => simp [chkC] at h
  | .blt f cs, sc, cf, X, ok, e, h, ρ, a, ρ', ev => by
    cases e with
    | Call g args kws p =>
      cases g with
      | Name nm p2 =>
        match args, kws, h with
        | [], _, h => simp [chkC] at h
        | _ :: _, _ :: _, h => simp [chkC] at h
        | x :: xs, [], h =>
          unfold chkC at h
          simp only [Bool.and_eq_true, decide_eq_true_eq] at h
          obtain ⟨⟨⟨⟨h1, h2⟩, h3⟩, rfl⟩, h5⟩ := h
          simp only [evC] at ev
          split at ev
          · rename_i vs ρ1 e1
            split at ev
            · rename_i ts e2
              obtain ⟨t, e3, e4⟩ := Option.map_eq_some_iff.mp ev
              cases e4
              split at h5
              · rename_i hty
                obtain ⟨_, a2, a3⟩ := sndCs cs ok h5 e1
                simp only [List.all_cons, Bool.and_eq_true] at a2
                exact s_blt ok.calm ok.units ok.gd rfl (ok.glob h1) (ok.bltn h3) a2.1 (plain_back p X.env a2.2) a3 e2 e3 hty
              · rename_i Ty hty
                split at h5
                · rename_i tn p3
                  simp only [Bool.and_eq_true, decide_eq_true_eq] at h5
                  obtain ⟨⟨⟨b1, rfl⟩, b3⟩, b4⟩ := h5
                  split at b4
                  · rename_i c
                    simp only [Bool.and_eq_true] at b4
                    rw [bltN_isi hty] at *
                    obtain ⟨q1, q2, q3⟩ := tyNm_boot hty
                    simp only [evs] at e1
                    split at e1
                    · rename_i v ρ2 e5
                      try simp only at e1
                      split at e1
                      · cases e1
                        have e2' := e2
                        simp only [resolves] at e2'
                        split at e2'
                        · rename_i t1 ts1 r1 r2
                          cases r2
                          cases e2'
                          exact tE.more (s_isi hty q1 (ok.glob h1) (ok.bltn h3) (ok.glob b1) (ok.bltn b3) q2 q3 b4.1 (sndC c ok b4.2 e5) r1 e3) (by simp only [C.wr, Cs.wr, Bool.or_false]; exact id)
                        · cases e2'
                      · cases e1
                    · cases e1
                  · cases b4
                · cases h5
            · cases ev
          · cases ev
      | _ => simp [chkC] at h
    | _ => simp [chkC] at h
  | .ext o cs, sc, cf, X, ok, e, h, ρ, a, ρ', ev => by
    simp only [chkC] at h
    split at h
    · rename_i xs hx
      simp only [evC] at ev
      split at ev
      · rename_i vs ρ1 e1
        split at ev
        · rename_i hv
          split at ev
          · rename_i ts e2
            obtain ⟨t, e3, e4⟩ := Option.map_eq_some_iff.mp ev
            cases e4
            exact s_ext ok hx (sndE cs ok h e1) e2 e3 hv
          · cases ev
        · cases ev
      · cases ev
    · simp only [Bool.and_eq_true, decide_eq_true_eq] at h
      obtain ⟨rfl, h⟩ := h
      simp only [evC] at ev
      split at ev
      · rename_i vs ρ1 e1
        split at ev
        · split at ev
          · rename_i ts e2
            obtain ⟨t, e3, e4⟩ := Option.map_eq_some_iff.mp ev
            cases e4
            exact sndS1 cs ok h e1 e2 e3
          · cases ev
        · cases ev
      · cases ev
  | .get2 co ck cd, sc, cf, X, ok, e, h, ρ, a, ρ', ev => by
    cases e with
    | Call g args kws p =>
      cases g with
      | Attribute x m ap =>
        match args, kws, h with
        | [], _, h => simp [chkC] at h
        | [_], _, h => simp [chkC] at h
        | _ :: _ :: _ :: _, _, h => simp [chkC] at h
        | [_, _], _ :: _, h => simp [chkC] at h
        | [y, z], [], h =>
          simp only [chkC, Bool.and_eq_true, decide_eq_true_eq] at h
          obtain ⟨⟨⟨⟨⟨⟨⟨rfl, h1⟩, h2⟩, h3⟩, h4⟩, h5⟩, h6⟩, h7⟩ := h
          have m2 : M2 X x "get" ap y z p := ⟨base_ok h1 _ _ _, by rw [star_plain h2, star_plain h3]; rfl, h4, by rw [star_plain h2, star_plain h3]; rfl⟩
          simp only [evC] at ev
          split at ev
          · rename_i va ρ1 e1
            split at ev
            · rename_i key ρ2 e2
              split at ev
              · rename_i dft ρ3 e3
                split at ev
                · rename_i st
                  simp only [Bool.and_eq_true] at st
                  obtain ⟨p1, hp1⟩ := Option.isSome_iff_exists.mp st.2
                  obtain ⟨x1, r1, d1⟩ := Option.bind_eq_some_iff.mp hp1
                  split at ev
                  · rename_i ks ts kk q1 q2
                    obtain ⟨x3, r3, d3⟩ := Option.bind_eq_some_iff.mp q1
                    have go : ∀ d, ((findK kk ks ts = some (.fz d)) ∨ (findK kk ks ts = none ∧ d = dft)) → PE X (.Call (.Attribute x "get" ap) [y, z] [] p) (tE X.K iov ρ (.t (.fz d)) ρ3 (C.get2 co ck cd).wr) := fun d hd =>
                      tE.more (s_get2 ok.units m2 (sndC co ok h5 e1) (sndC ck ok h6 e2) (sndC cd ok h7 e3) st.1 r1 d1 r3 d3 q2 hd) (by simp only [C.wr, Bool.or_assoc]; exact id)
                    split at ev
                    · rename_i xx hf; cases ev; exact go _ (.inl hf)
                    · cases ev
                    · rename_i hf; cases ev; exact go _ (.inr ⟨hf, rfl⟩)
                  · cases ev
                · cases ev
              · cases ev
            · cases ev
          · cases ev
      | _ => simp [chkC] at h
    | _ => simp [chkC] at h
  | .get1 _ _, sc, cf, X, ok, e, h, ρ, a, ρ', ev => by simp [evC] at ev
  | .rv ca, sc, cf, X, ok, e, h, ρ, a, ρ', ev => by
    unfold chkC at h
    split at h <;> (try contradiction)
    rename_i heq
    cases heq
    simp only [evC] at ev
    split at ev
    · rename_i va ρ1 e1
      split at ev
      · rename_i x rx
        obtain ⟨ds, hf, e4⟩ := Option.map_eq_some_iff.mp ev
        cases e4
        exact s_rv (sndC ca ok h e1) rx hf
      · cases ev
    · cases ev
  | .lrg1 ca, sc, cf, X, ok, e, h, ρ, a, ρ', ev => by
    unfold chkC at h
    split at h <;> (try contradiction)
    rename_i heq
    cases heq
    simp only [Bool.and_eq_true, decide_eq_true_eq] at h
    obtain ⟨⟨⟨⟨⟨⟨⟨rfl, rfl⟩, g1⟩, g2⟩, m1⟩, m2⟩, hp⟩, hc⟩ := h
    simp only [evC] at ev
    split at ev
    · rename_i i ρ1 e1
      split at ev
      · rename_i hi
        cases ev
        exact s_lrg1 ok.calm (ok.glob g1) (ok.bltn m1) (ok.glob g2) (ok.bltn m2) hp (sndC ca ok hc e1) hi
      · cases ev
    · cases ev
  | .lrg2 ca cb, sc, cf, X, ok, e, h, ρ, a, ρ', ev => by
    unfold chkC at h
    split at h <;> (try contradiction)
    rename_i heq1 heq
    cases heq1
    cases heq
    simp only [Bool.and_eq_true, decide_eq_true_eq] at h
    obtain ⟨⟨⟨⟨⟨⟨⟨⟨⟨rfl, rfl⟩, g1⟩, g2⟩, m1⟩, m2⟩, hp⟩, hp2⟩, hc⟩, hc2⟩ := h
    simp only [evC] at ev
    split at ev
    · rename_i i ρ1 e1
      split at ev
      · rename_i j ρ2 e2
        split at ev
        · rename_i hi
          cases ev
          exact s_lrg2 ok.calm (ok.glob g1) (ok.bltn m1) (ok.glob g2) (ok.bltn m2) hp hp2 (sndC ca ok hc e1) (sndC cb ok hc2 e2) hi
        · cases ev
      · cases ev
    · cases ev
  | .cnt co ck, sc, cf, X, ok, e, h, ρ, a, ρ', ev => by
    unfold chkC at h
    split at h <;> (try contradiction)
    rename_i heq1 heq
    cases heq1
    cases heq
    simp only [Bool.and_eq_true, decide_eq_true_eq] at h
    obtain ⟨⟨⟨⟨⟨rfl, h1⟩, h2⟩, h4⟩, h5⟩, h6⟩ := h
    simp only [evC] at ev
    split at ev
    · rename_i va ρ1 e1
      split at ev
      · rename_i i ρ2 e2
        split at ev
        · rename_i st
          simp only [Bool.and_eq_true] at st
          obtain ⟨p1, hp1⟩ := Option.isSome_iff_exists.mp st.2
          obtain ⟨x1, r1, f1⟩ := Option.bind_eq_some_iff.mp hp1
          split at ev
          · rename_i ns q
            cases ev
            obtain ⟨ds2, q1, q2⟩ := Option.bind_eq_some_iff.mp q
            obtain ⟨x2, r2, f2⟩ := Option.bind_eq_some_iff.mp q1
            rw [intsOf_eq q2] at f2
            exact s_cnt (base_ok h1 _ _ _) h2 h4 (sndC co ok h5 e1) (sndC ck ok h6 e2) st.1 r1 f1 r2 f2
          · cases ev
        · cases ev
      · cases ev
    · cases ev
  | .thw cc, sc, cf, X, ok, e, h, ρ, a, ρ', ev => by
    unfold chkC at h
    simp only [evC] at ev
    split at ev
    · rename_i d ρz e1
      split at ev
      · rename_i hd
        cases ev
        exact s_thw (sndC cc ok h e1) hd
      · cases ev
    · cases ev
  | .cntd co ck, sc, cf, X, ok, e, h, ρ, a, ρ', ev => by
    unfold chkC at h
    split at h <;> (try contradiction)
    rename_i heq1 heq
    cases heq1
    cases heq
    simp only [Bool.and_eq_true, decide_eq_true_eq] at h
    obtain ⟨⟨⟨⟨⟨rfl, h1⟩, h2⟩, h4⟩, h5⟩, h6⟩ := h
    simp only [evC] at ev
    split at ev
    · rename_i va ρ1 e1
      split at ev
      · rename_i d ρ2 e2
        split at ev
        · rename_i st
          simp only [Bool.and_eq_true] at st
          obtain ⟨p1, hp1⟩ := Option.isSome_iff_exists.mp st.2
          obtain ⟨x1, r1, f1⟩ := Option.bind_eq_some_iff.mp hp1
          split at ev
          · rename_i ds q
            obtain ⟨x2, r2, f2⟩ := Option.bind_eq_some_iff.mp q
            split at ev
            · rename_i fl
              rw [Bool.and_eq_true] at fl
              cases ev
              exact s_cntd ok.units (base_ok h1 _ _ _) h2 h4 (sndC co ok h5 e1) (sndC ck ok h6 e2) st.1 r1 f1 r2 f2 fl.1 fl.2
            · cases ev
          · cases ev
        · cases ev
      · cases ev
    · cases ev
  | .idx co ck, sc, cf, X, ok, e, h, ρ, a, ρ', ev => by
    unfold chkC at h
    split at h <;> (try contradiction)
    rename_i heq1 heq
    cases heq1
    cases heq
    simp only [Bool.and_eq_true, decide_eq_true_eq] at h
    obtain ⟨⟨⟨⟨⟨rfl, h1⟩, h2⟩, h4⟩, h5⟩, h6⟩ := h
    simp only [evC] at ev
    split at ev
    · rename_i ds ρ1 e1
      split at ev
      · rename_i d ρ2 e2
        split at ev
        · rename_i fl
          rw [Bool.and_eq_true] at fl
          obtain ⟨j, hj, e4⟩ := Option.map_eq_some_iff.mp ev
          cases e4
          exact s_idxT ok.units (base_ok h1 _ _ _) h2 h4 (sndC co ok h5 e1) (sndC ck ok h6 e2) fl.1 fl.2 hj
        · cases ev
      · cases ev
    · rename_i va ρ1 _ e1
      split at ev
      · rename_i d ρ2 e2
        split at ev
        · rename_i st
          simp only [Bool.and_eq_true] at st
          obtain ⟨p1, hp1⟩ := Option.isSome_iff_exists.mp st.2
          obtain ⟨x1, r1, f1⟩ := Option.bind_eq_some_iff.mp hp1
          split at ev
          · rename_i ds q
            split at ev
            · rename_i fl
              obtain ⟨j, hj, e4⟩ := Option.map_eq_some_iff.mp ev
              cases e4
              obtain ⟨x2, r2, f2⟩ := Option.bind_eq_some_iff.mp q
              rw [Bool.or_eq_true] at fl
              rcases fl with fl | fl
              · rw [Bool.and_eq_true] at fl
                exact s_idx (base_ok h1 _ _ _) h2 h4 (sndC co ok h5 e1) (sndC ck ok h6 e2) st.1 r1 f1 r2 f2 fl.1 fl.2 hj
              · rw [Bool.and_eq_true] at fl
                exact s_idxD ok.units (base_ok h1 _ _ _) h2 h4 (sndC co ok h5 e1) (sndC ck ok h6 e2) st.1 r1 f1 r2 f2 fl.1 fl.2 hj
            · cases ev
          · cases ev
        · cases ev
      · cases ev
    · cases ev
  | .lc own tg it tests elt, sc, cf, X, ok, e, h, ρ, a, ρ', ev => by
    cases e with
    | ListComp el gens scope p =>
      match gens, h with
      | [], h => simp [chkC] at h
      | _ :: _ :: _, h => simp [chkC] at h
      | [⟨t, iter, ifs, n⟩], h =>
          simp only [chkC, Bool.and_eq_true, decide_eq_true_eq] at h
          obtain ⟨⟨⟨⟨⟨⟨⟨⟨rfl, h0⟩, h1⟩, h2⟩, h3⟩, h4⟩, h5⟩, h6⟩, h7⟩ := h
          simp only [evC] at ev
          split at ev
          · rename_i ds ρ1 e1
            split at ev
            · rename_i hown
              split at ev
              · rename_i ts ρ5 e2
                split at ev
                · rename_i hz
                  cases ev
                  refine s_lc (evt := evTo G tests) (eve := evC G elt) (wt := tests.wr) (we := elt.wr) (wb := !it.isBrw) ok.calm ok.nd (brw_t h0) (brw_e h0) (sndI it ok h5 e1) (by rw [ok.N, ok.sc]; exact blkOk_by h1) (fun i hi => by simpa using List.all_eq_true.mp h3 i hi)
                    (fun s H C cl fp ρ d ρ2 hb => tg_ok (ok.blk s H scope C cl fp) h4 hb) (fun s H C cl fp ρ b ρ2 hb => sndTo tests (ok.blk s H scope C cl fp) h6 hb)
                    (fun s H C cl fp ρ v ρ2 hb => sndC elt (ok.blk s H scope C cl fp) h7 hb) (notSet_ok h2 X.env) e2 (of_decide_eq_true hz) hown
                · cases ev
              · cases ev
            · cases ev
          · cases ev
    | _ => simp [chkC] at h
  | .lci own i tg tests elt, sc, cf, X, ok, e, h, ρ, a, ρ', ev => by
    cases e with
    | ListComp el gens scope p =>
      match gens, h with
      | [], h => simp [chkC] at h
      | _ :: _ :: _, h => simp [chkC] at h
      | [⟨t, iter, ifs, n⟩], h =>
        cases t with
        | Tuple elts kk tp =>
          cases iter with
          | Call f as kws cp =>
            cases f with
            | Attribute o m ap =>
              cases o with
              | Name nm np =>
                match as, kws, h with
                | _ :: _, _, h => simp [chkC] at h
                | [], _ :: _, h => simp [chkC] at h
                | [], [], h =>
                  simp only [chkC, Bool.and_eq_true, decide_eq_true_eq, Bool.not_eq_true'] at h
                  obtain ⟨⟨⟨⟨⟨⟨⟨⟨⟨⟨⟨rfl, rfl⟩, g1⟩, g2⟩, g3⟩, g4⟩, ⟨g5, g6⟩⟩, g7⟩, g8⟩, g9⟩, g10⟩, g11⟩ := h
                  simp only [evC] at ev
                  split at ev
                  · rename_i ks ts0 e1
                    split at ev
                    · rename_i ds e2
                      split at ev
                      · rename_i hq
                        rw [Bool.and_eq_true] at hq
                        split at ev
                        · rename_i ts ρ5 e3
                          split at ev
                          · rename_i hz
                            cases ev
                            exact s_lci (evt := evTo G tests) (eve := evC G elt) (wt := tests.wr) (we := elt.wr) ok.calm ok.nd (ok.ix g1) (ok.vis g2) (nmOk_1 g3).1 (nmOk_1 g3).2 g4 e1 e2 hq.1 g5 g6 (by rw [ok.N, ok.sc]; exact blkOk_by g7) (fun i hi => by simpa using List.all_eq_true.mp g8 i hi)
                              (fun s H C cl fp ρ d ρ2 hb => tg_ok (ok.blk s H scope C cl fp) g9 hb) (fun s H C cl fp ρ b ρ2 hb => sndTo tests (ok.blk s H scope C cl fp) g10 hb)
                              (fun s H C cl fp ρ v ρ2 hb => sndC elt (ok.blk s H scope C cl fp) g11 hb) e3 (of_decide_eq_true hz) hq.2
                          · cases ev
                        · cases ev
                      · cases ev
                    · cases ev
                  · cases ev
              | _ => simp [chkC] at h
            | _ => simp [chkC] at h
          | _ => simp [chkC] at h
        | _ => simp [chkC] at h
    | _ => simp [chkC] at h
theorem sndS1 : ∀ (c : Cs) {sc : Scope} {cf : Cf} {X : Cx} (ok : CtxOk sx G sc cf X) {e : Expr}, chkS1 sx sc c e = true → ∀ {ρ as ρ' ts t}, evs G c ρ = some (as, ρ') → resolves ρ' as = some ts → appX .lset ts = some t → PE X e (tE X.K iov ρ (.t t) ρ' c.wr)
  | .nil, sc, cf, X, ok, e, h, ρ, as, ρ', ts, t, ev, hr, ha => by simp [chkS1] at h
  | .cons c (.cons c2 cs), sc, cf, X, ok, e, h, ρ, as, ρ', ts, t, ev, hr, ha => by simp [chkS1] at h
  | .cons c .nil, sc, cf, X, ok, e, h, ρ, as, ρ', ts, t, ev, hr, ha => by
    simp only [chkS1] at h
    simp only [evs] at ev
    split at ev
    · rename_i v ρ1 e1
      split at ev
      · cases ev
        obtain ⟨x, hx, e3⟩ : ∃ x, Mv.resolve ρ' v = some x ∧ ts = [x] := by
          simp only [resolves] at hr
          split at hr
          · rename_i x _ h1 h2
            cases h2
            cases hr
            exact ⟨x, h1, rfl⟩
          · cases hr
        subst e3
        obtain ⟨hw, q⟩ := sndS2 c ok h e1 hx ha
        have : (Cs.cons c .nil).wr = true := by show (c.wr || _) = true; rw [hw]; rfl
        rw [this]
        exact q
      · cases ev
    · cases ev
theorem sndS2 : ∀ (c : C) {sc : Scope} {cf : Cf} {X : Cx} (ok : CtxOk sx G sc cf X) {e : Expr}, chkS2 sx sc c e = true → ∀ {ρ v ρ' x t}, evC G c ρ = some (v, ρ') → Mv.resolve ρ' v = some x → appX .lset [x] = some t → c.wr = true ∧ PE X e (tE X.K iov ρ (.t t) ρ' true)
  | .lc own tg it tests elt, sc, cf, X, ok, e, h, ρ, a, ρ', x, t', ev, hr, ha => by
    unfold chkS2 at h
    split at h <;> (try contradiction)
    rename_i heq1 heq
    cases heq1
    cases heq
    simp only [Bool.and_eq_true, decide_eq_true_eq] at h
    obtain ⟨⟨⟨⟨⟨⟨⟨⟨⟨⟨⟨rfl, g1⟩, g2⟩, rfl⟩, h0⟩, h1⟩, h2⟩, h3⟩, h4⟩, h5⟩, h6⟩, h7⟩ := h
    rw [show tgS2 tg = chkC.tgS tg by cases tg <;> rfl] at h3
    simp only [evC] at ev
    split at ev
    · rename_i ds ρ1 e1
      split at ev
      · rename_i hown
        split at ev
        · rename_i ts ρ5 e2
          split at ev
          · rename_i hz
            cases ev
            have hr : some (T.lst ts) = some x := hr
            cases hr
            refine ⟨rfl, s_lsc (evt := evTo G tests) (eve := evC G elt) (wt := tests.wr) (we := elt.wr) (wb := !it.isBrw) ok.calm ok.nd (ok.glob g1) (ok.bltn g2) (brw_t h0) (brw_e h0) (sndI it ok h5 e1) (by rw [ok.N, ok.sc]; exact blkOk_by h1) (fun i hi => by simpa using List.all_eq_true.mp h3 i hi)
              (fun s H C cl fp ρ d ρ2 hb => tg_ok (ok.blk s H _ C cl fp) h4 hb) (fun s H C cl fp ρ b ρ2 hb => sndTo tests (ok.blk s H _ C cl fp) h6 hb)
              (fun s H C cl fp ρ v ρ2 hb => sndC elt (ok.blk s H _ C cl fp) h7 hb) (notSet_ok h2 X.env) e2 hown ha⟩
          · cases ev
        · cases ev
      · cases ev
    · cases ev
  | .var _, sc, cf, X, ok, e, h, ρ, a, ρ', x, t', ev, hr, ha => by simp [chkS2] at h
  | .mv _, sc, cf, X, ok, e, h, ρ, a, ρ', x, t', ev, hr, ha => by simp [chkS2] at h
  | .kst _, sc, cf, X, ok, e, h, ρ, a, ρ', x, t', ev, hr, ha => by simp [chkS2] at h
  | .gl _, sc, cf, X, ok, e, h, ρ, a, ρ', x, t', ev, hr, ha => by simp [chkS2] at h
  | .fzv _, sc, cf, X, ok, e, h, ρ, a, ρ', x, t', ev, hr, ha => by simp [chkS2] at h
  | .tup _, sc, cf, X, ok, e, h, ρ, a, ρ', x, t', ev, hr, ha => by simp [chkS2] at h
  | .list _, sc, cf, X, ok, e, h, ρ, a, ρ', x, t', ev, hr, ha => by simp [chkS2] at h
  | .dict0, sc, cf, X, ok, e, h, ρ, a, ρ', x, t', ev, hr, ha => by simp [chkS2] at h
  | .bin _ _ _, sc, cf, X, ok, e, h, ρ, a, ρ', x, t', ev, hr, ha => by simp [chkS2] at h
  | .neg _, sc, cf, X, ok, e, h, ρ, a, ρ', x, t', ev, hr, ha => by simp [chkS2] at h
  | .notv _, sc, cf, X, ok, e, h, ρ, a, ρ', x, t', ev, hr, ha => by simp [chkS2] at h
  | .boolop _ _ _, sc, cf, X, ok, e, h, ρ, a, ρ', x, t', ev, hr, ha => by simp [chkS2] at h
  | .cmp _ _ _, sc, cf, X, ok, e, h, ρ, a, ρ', x, t', ev, hr, ha => by simp [chkS2] at h
  | .chain _ _ _ _ _, sc, cf, X, ok, e, h, ρ, a, ρ', x, t', ev, hr, ha => by simp [chkS2] at h
  | .ite _ _ _, sc, cf, X, ok, e, h, ρ, a, ρ', x, t', ev, hr, ha => by simp [chkS2] at h
  | .ix _ _, sc, cf, X, ok, e, h, ρ, a, ρ', x, t', ev, hr, ha => by simp [chkS2] at h
  | .sl _ _ _, sc, cf, X, ok, e, h, ρ, a, ρ', x, t', ev, hr, ha => by simp [chkS2] at h
  | .call _ _, sc, cf, X, ok, e, h, ρ, a, ρ', x, t', ev, hr, ha => by simp [chkS2] at h
  | .callk _ _ _, sc, cf, X, ok, e, h, ρ, a, ρ', x, t', ev, hr, ha => by simp [chkS2] at h
  | .blt _ _, sc, cf, X, ok, e, h, ρ, a, ρ', x, t', ev, hr, ha => by simp [chkS2] at h
  | .ext _ _, sc, cf, X, ok, e, h, ρ, a, ρ', x, t', ev, hr, ha => by simp [chkS2] at h
  | .get2 _ _ _, sc, cf, X, ok, e, h, ρ, a, ρ', x, t', ev, hr, ha => by simp [chkS2] at h
  | .get1 _ _, sc, cf, X, ok, e, h, ρ, a, ρ', x, t', ev, hr, ha => by simp [chkS2] at h
  | .rv _, sc, cf, X, ok, e, h, ρ, a, ρ', x, t', ev, hr, ha => by simp [chkS2] at h
  | .lrg1 _, sc, cf, X, ok, e, h, ρ, a, ρ', x, t', ev, hr, ha => by simp [chkS2] at h
  | .lrg2 _ _, sc, cf, X, ok, e, h, ρ, a, ρ', x, t', ev, hr, ha => by simp [chkS2] at h
  | .cnt _ _, sc, cf, X, ok, e, h, ρ, a, ρ', x, t', ev, hr, ha => by simp [chkS2] at h
  | .cntd _ _, sc, cf, X, ok, e, h, ρ, a, ρ', x, t', ev, hr, ha => by simp [chkS2] at h
  | .thw _, sc, cf, X, ok, e, h, ρ, a, ρ', x, t', ev, hr, ha => by simp [chkS2] at h
  | .idx _ _, sc, cf, X, ok, e, h, ρ, a, ρ', x, t', ev, hr, ha => by simp [chkS2] at h
  | .lci _ _ _ _ _, sc, cf, X, ok, e, h, ρ, a, ρ', x, t', ev, hr, ha => by simp [chkS2] at h
theorem sndT : ∀ (c : Tc) {sc : Scope} {cf : Cf} {X : Cx} (ok : CtxOk sx G sc cf X) {e : Expr}, chkT sx sc c e = true → ∀ {ρ b ρ'}, evT G c ρ = some (b, ρ') → PT X e (tT X.K iov ρ b ρ' c.wr)
  | .val c, sc, cf, X, ok, e, h, ρ, b, ρ', ev => by
    have h : (valB e && chkC sx sc c e) = true := by simpa only [chkT] using h
    simp only [Bool.and_eq_true] at h
    simp only [evT] at ev
    split at ev
    · rename_i v ρ1 e1
      split at ev
      · rename_i t e2
        obtain ⟨q, e3, e4⟩ := Option.map_eq_some_iff.mp ev
        cases e4
        exact t_val (sndC c ok h.2 e1) e2 e3 (val_ok h.1 X.env)
      · cases ev
    · cases ev
  | .not c, sc, cf, X, ok, e, h, ρ, b, ρ', ev => by
    cases e with
    | UnaryOp op x p =>
      cases op with
      | Not =>
        simp only [chkT] at h
        simp only [evT] at ev
        obtain ⟨q, e3, e4⟩ := Option.map_eq_some_iff.mp ev
        cases e4
        exact t_not (sndT c ok h e3)
      | _ => simp [chkT] at h
    | _ => simp [chkT] at h
  | .bool op ts, sc, cf, X, ok, e, h, ρ, b, ρ', ev => by
    cases e with
    | BoolOp op' xs p =>
      simp only [chkT, Bool.and_eq_true, decide_eq_true_eq] at h
      obtain ⟨rfl, h⟩ := h
      simp only [evT] at ev
      exact (sndTs ts ok h ev).pt
    | _ => simp [chkT] at h
  | .cmp op ca cb, sc, cf, X, ok, e, h, ρ, b, ρ', ev => by
    cases e with
    | Compare x ops cs p =>
      match ops, cs, h with
      | [], _, h => simp [chkT] at h
      | [_], [], h => simp [chkT] at h
      | [_], _ :: _ :: _, h => simp [chkT] at h
      | _ :: _ :: _, _, h => simp [chkT] at h
      | [op'], [y], h =>
        simp only [chkT, Bool.and_eq_true, decide_eq_true_eq, Bool.not_eq_true'] at h
        obtain ⟨⟨⟨rfl, hm⟩, h2⟩, h3⟩ := h
        simp only [evT] at ev
        split at ev
        · rename_i va ρ1 e1
          split at ev
          · rename_i vb ρ2 e2
            split at ev
            · rename_i st
              split at ev
              · rename_i tx ty rx ry
                obtain ⟨t, e3, e4⟩ := Option.map_eq_some_iff.mp ev
                cases e4
                exact s_cmpT ok.units (sndC ca ok h2 e1) (sndC cb ok h3 e2) st rx ry e3 hm
              · cases ev
            · cases ev
          · cases ev
        · cases ev
    | _ => simp [chkT] at h
  | .inr neg ca cb, sc, cf, X, ok, e, h, ρ, b, ρ', ev => by
    unfold chkT at h
    split at h <;> (try contradiction)
    rename_i heq1 heq
    cases heq1
    cases heq
    simp only [Bool.and_eq_true, decide_eq_true_eq, Bool.not_eq_true'] at h
    obtain ⟨⟨⟨⟨⟨⟨⟨ho, hn⟩, g⟩, m⟩, hp⟩, hk⟩, h1⟩, h2⟩ := h
    simp only [evT] at ev
    split at ev
    · rename_i va ρ1 e1
      split at ev
      · rename_i vb ρ2 e2
        split at ev
        · rename_i st
          split at ev
          · rename_i i n rx ry
            cases ev
            exact s_inrT ho hn (ok.glob g) (ok.bltn m) hp (sndC ca ok h1 e1) (sndC cb ok h2 e2) st rx ry hk
          · cases ev
        · cases ev
      · cases ev
    · cases ev
  | .chain o1 o2 ca cb cc, sc, cf, X, ok, e, h, ρ, b, ρ', ev => by
    cases e with
    | Compare x ops cs p =>
      match ops, cs, h with
      | [], _, h => simp [chkT] at h
      | [_], _, h => simp [chkT] at h
      | _ :: _ :: _ :: _, _, h => simp [chkT] at h
      | [_, _], [], h => simp [chkT] at h
      | [_, _], [_], h => simp [chkT] at h
      | [_, _], _ :: _ :: _ :: _, h => simp [chkT] at h
      | [p1, p2], [y, z], h =>
        simp only [chkT, Bool.and_eq_true, decide_eq_true_eq, Bool.not_eq_true'] at h
        obtain ⟨⟨⟨⟨⟨rfl, rfl⟩, hm⟩, h2⟩, h3⟩, h4⟩ := h
        simp only [evT] at ev
        split at ev
        · rename_i tx ρ1 e1
          split at ev
          · rename_i ty ρ2 e2
            split at ev
            · rename_i e3
              cases ev
              exact t_chainF ok.units (sndC ca ok h2 e1) (sndC cb ok h3 e2) e3 hm
            · rename_i e3
              split at ev
              · rename_i tz ρ3 e4
                obtain ⟨t, e5, e6⟩ := Option.map_eq_some_iff.mp ev
                cases e6
                exact t_chainT ok.units (sndC ca ok h2 e1) (sndC cb ok h3 e2) e3 (sndC cc ok h4 e4) e5 hm
              · cases ev
            · cases ev
          · cases ev
        · cases ev
    | _ => simp [chkT] at h
theorem sndTs : ∀ (c : Tcs) {sc : Scope} {cf : Cf} {X : Cx} (ok : CtxOk sx G sc cf X) {es : List Expr} {op : BoolOp} {pos : Pos}, chkTs sx sc c es = true → ∀ {ρ b ρ'}, evB G op c ρ = some (b, ρ') → PW X (.BoolOp op es pos) (tT X.K iov ρ b ρ' c.wr)
  | .one t, sc, cf, X, ok, es, op, pos, h, ρ, b, ρ', ev => by
    match es, h with
    | [], h => simp [chkTs] at h
    | _ :: _ :: _, h => simp [chkTs] at h
    | [e], h =>
      simp only [chkTs] at h
      simp only [evB] at ev
      exact t_bool1 (sndT t ok h ev)
  | .cons t ts, sc, cf, X, ok, es, op, pos, h, ρ, b, ρ', ev => by
    match es, h with
    | [], h => simp [chkTs] at h
    | [e], h => simp only [chkTs, Bool.and_eq_true] at h; exact absurd h.2 (by cases ts <;> simp [chkTs])
    | e :: e2 :: es, h =>
      simp only [chkTs, Bool.and_eq_true] at h
      simp only [evB] at ev
      split at ev
      · rename_i k ρ1 e1
        by_cases hk : (decide (op = .And)) = k
        · rw [if_pos hk] at ev
          exact t_bool (sndT t ok h.1 e1) (fun _ => sndTs ts ok h.2 ev) (fun z => absurd hk z)
        · rw [if_neg hk] at ev
          cases ev
          exact t_bool (sndT t ok h.1 e1) (fun z => absurd z hk) (fun _ => ⟨rfl, rfl⟩)
      · cases ev
theorem sndTo : ∀ (c : Tco) {sc : Scope} {cf : Cf} {X : Cx} (ok : CtxOk sx G sc cf X) {es : List Expr}, chkTo sx sc c es = true → ∀ {ρ b ρ'}, evTo G c ρ = some (b, ρ') → PTs X es (tT X.K iov ρ b ρ' c.wr)
  | .none, sc, cf, X, ok, es, h, ρ, b, ρ', ev => by
    match es, h with
    | _ :: _, h => simp [chkTo] at h
    | [], h =>
      simp only [evTo, Option.some.injEq, Prod.mk.injEq] at ev
      obtain ⟨rfl, rfl⟩ := ev
      exact PTs.imp' pts_nil fun σ H Q ⟨F, fp, S, k⟩ => k H F fp S (.refl S)
  | .some t, sc, cf, X, ok, es, h, ρ, b, ρ', ev => by
    match es, h with
    | [], h => simp [chkTo] at h
    | _ :: _ :: _, h => simp [chkTo] at h
    | [e], h =>
      simp only [chkTo] at h
      simp only [evTo] at ev
      exact pts_one (sndT t ok h ev)
theorem sndCs : ∀ (c : Cs) {sc : Scope} {cf : Cf} {X : Cx} (ok : CtxOk sx G sc cf X) {es : List Expr}, chkCs sx sc c es = true → ∀ {ρ as ρ'}, evs G c ρ = some (as, ρ') → as.length = es.length ∧ es.all plainE = true ∧ PA X es (tA X.K iov ρ as ρ' c.wr)
  | .nil, sc, cf, X, ok, es, h, ρ, as, ρ', ev => by
    match es, h with
    | _ :: _, h => simp [chkCs] at h
    | [], h =>
      simp only [evs, Option.some.injEq, Prod.mk.injEq] at ev
      obtain ⟨rfl, rfl⟩ := ev
      exact ⟨rfl, rfl, a_nil⟩
  | .cons c cs, sc, cf, X, ok, es, h, ρ, as, ρ', ev => by
    match es, h with
    | [], h => simp [chkCs] at h
    | e :: es, h =>
      simp only [chkCs, Bool.and_eq_true] at h
      simp only [evs] at ev
      split at ev
      · rename_i v ρ1 e1
        split at ev
        · rename_i vs ρ2 e2
          split at ev
          · rename_i st
            cases ev
            obtain ⟨a1, a2, a3⟩ := sndCs cs ok h.2 e2
            exact ⟨by simp [a1], by simp [h.1.1, a2], a_cons h.1.1 (sndC c ok h.1.2 e1) a3 st⟩
          · cases ev
        · cases ev
      · cases ev
theorem sndE : ∀ (c : Cs) {sc : Scope} {cf : Cf} {X : Cx} (ok : CtxOk sx G sc cf X) {es : List Expr}, chkEs sx sc c es = true → ∀ {ρ as ρ'}, evs G c ρ = some (as, ρ') → PEs X iov es ρ as ρ' c.wr
  | .nil, sc, cf, X, ok, es, h, ρ, as, ρ', ev => by
    match es, h with
    | _ :: _, h => simp [chkEs] at h
    | [], h =>
      simp only [evs, Option.some.injEq, Prod.mk.injEq] at ev
      obtain ⟨rfl, rfl⟩ := ev
      exact .nil
  | .cons c cs, sc, cf, X, ok, es, h, ρ, as, ρ', ev => by
    match es, h with
    | [], h => simp [chkEs] at h
    | e :: es, h =>
      simp only [chkEs, Bool.and_eq_true] at h
      simp only [evs] at ev
      split at ev
      · rename_i v ρ1 e1
        split at ev
        · rename_i vs ρ2 e2
          split at ev
          · rename_i st
            cases ev
            exact .cons (sndC c ok h.1 e1) (sndE cs ok h.2 e2) st
          · cases ev
        · cases ev
      · cases ev
theorem sndK : ∀ (c : Cs) {sc : Scope} {cf : Cf} {X : Cx} (ok : CtxOk sx G sc cf X) {es : List Keyword}, chkK sx sc c es = true → ∀ {ρ as ρ'}, evs G c ρ = some (as, ρ') → as.length = es.length ∧ PK X es (tA X.K iov ρ as ρ' c.wr)
  | .nil, sc, cf, X, ok, es, h, ρ, as, ρ', ev => by
    match es, h with
    | _ :: _, h => simp [chkK] at h
    | [], h =>
      simp only [evs, Option.some.injEq, Prod.mk.injEq] at ev
      obtain ⟨rfl, rfl⟩ := ev
      exact ⟨rfl, k_nil⟩
  | .cons c cs, sc, cf, X, ok, es, h, ρ, as, ρ', ev => by
    match es, h with
    | [], h => simp [chkK] at h
    | ⟨nm, e, kp⟩ :: es, h =>
      simp only [chkK, Bool.and_eq_true] at h
      simp only [evs] at ev
      split at ev
      · rename_i v ρ1 e1
        split at ev
        · rename_i vs ρ2 e2
          split at ev
          · rename_i st
            cases ev
            obtain ⟨a1, a3⟩ := sndK cs ok h.2 e2
            exact ⟨by simp [a1], k_cons (sndC c ok h.1 e1) a3 st⟩
          · cases ev
        · cases ev
      · cases ev
theorem sndO : ∀ (c : Co) {sc : Scope} {cf : Cf} {X : Cx} (ok : CtxOk sx G sc cf X) {e : Option Expr}, chkO sx sc c e = true → ∀ {ρ l ρ'}, evO G c ρ = some (l, ρ') → PO X e (tO X.K iov ρ l ρ' c.wr)
  | .none, sc, cf, X, ok, e, h, ρ, l, ρ', ev => by
    cases e with
    | some _ => simp [chkO] at h
    | none =>
      simp only [evO, Option.some.injEq, Prod.mk.injEq] at ev
      obtain ⟨rfl, rfl⟩ := ev
      exact o_none
  | .some c, sc, cf, X, ok, e, h, ρ, l, ρ', ev => by
    cases e with
    | none => simp [chkO] at h
    | some e =>
      simp only [chkO] at h
      simp only [evO] at ev
      split at ev
      · rename_i i ρ1 e1
        cases ev
        exact o_some (sndC c ok h e1)
      · cases ev
theorem sndI : ∀ (c : I) {sc : Scope} {cf : Cf} {X : Cx} (ok : CtxOk sx G sc cf X) {tg e : Expr}, chkI sx sc tg c e = true → ∀ {ρ ds ρ'}, evI G c ρ = some (ds, ρ') → PI X tg e (tIW (!c.isBrw) X.K iov ρ ds ρ' true)
  | .seq c, sc, cf, X, ok, tg, e, h, ρ, ds, ρ', ev => by
    have h : chkC sx sc c e = true := by simpa only [chkI] using h
    simp only [evI] at ev
    split at ev
    · rename_i v ρ1 e1
      split at ev
      · rename_i t ρ2 e2
        split at ev
        · rename_i ds' e3
          cases ev
          exact tIW.of <| tI.more (i_list (sndC c ok h e1) e2 e3) fun _ => rfl
        · rename_i ds' e3
          cases ev
          exact tIW.of <| tI.more (i_tup (sndC c ok h e1) e2 e3) fun _ => rfl
        · cases ev
      · cases ev
    · cases ev
  | .brw c, sc, cf, X, ok, tg, e, h, ρ, ds, ρ', ev => by
    have h : chkC sx sc c e = true := by simpa only [chkI] using h
    simp only [evI] at ev
    split at ev
    · rename_i v ρ1 e1
      split at ev
      · rename_i t e2
        obtain ⟨ds', e3, e4⟩ := Option.map_eq_some_iff.mp ev
        cases e4
        exact tIW.more (i_brw (sndC c ok h e1) e2 e3) fun _ => rfl
      · cases ev
    · cases ev
  | .rng1 c, sc, cf, X, ok, tg, e, h, ρ, ds, ρ', ev => by
    cases e with
    | Call g args kws p =>
      cases g with
      | Name nm p2 =>
        match args, kws, h with
        | [], _, h => simp [chkI] at h
        | _ :: _ :: _, _, h => simp [chkI] at h
        | [_], _ :: _, h => simp [chkI] at h
        | [x], [], h =>
          simp only [chkI, Bool.and_eq_true, decide_eq_true_eq] at h
          obtain ⟨⟨⟨⟨rfl, h2⟩, h3⟩, h4⟩, h5⟩ := h
          simp only [evI] at ev
          split at ev
          · rename_i i ρ1 e1
            split at ev
            · rename_i hi
              cases ev
              exact tIW.of <| tI.more (i_rng1 (ok.glob h2) (ok.bltn h3) h4 (sndC c ok h5 e1) hi) fun _ => rfl
            · cases ev
          · cases ev
      | _ => simp [chkI] at h
    | _ => simp [chkI] at h
  | .rng2 ca cb, sc, cf, X, ok, tg, e, h, ρ, ds, ρ', ev => by
    cases e with
    | Call g args kws p =>
      cases g with
      | Name nm p2 =>
        match args, kws, h with
        | [], _, h => simp [chkI] at h
        | [_], _, h => simp [chkI] at h
        | _ :: _ :: _ :: _, _, h => simp [chkI] at h
        | [_, _], _ :: _, h => simp [chkI] at h
        | [x, y], [], h =>
          simp only [chkI, Bool.and_eq_true, decide_eq_true_eq] at h
          obtain ⟨⟨⟨⟨⟨⟨rfl, h2⟩, h3⟩, h4⟩, h5⟩, h6⟩, h7⟩ := h
          simp only [evI] at ev
          split at ev
          · rename_i i ρ1 e1
            split at ev
            · rename_i j ρ2 e2
              split at ev
              · rename_i hi
                simp only [Bool.and_eq_true] at hi
                cases ev
                exact tIW.of <| tI.more (i_rng2 (ok.glob h2) (ok.bltn h3) h4 h5 (sndC ca ok h6 e1) (sndC cb ok h7 e2) hi.1 hi.2) fun _ => rfl
              · cases ev
            · cases ev
          · cases ev
      | _ => simp [chkI] at h
    | _ => simp [chkI] at h
  | .rngd ca cb cc, sc, cf, X, ok, tg, e, h, ρ, ds, ρ', ev => by
    cases e with
    | Call g args kws p =>
      cases g with
      | Name nm p2 =>
        match args, kws, h with
        | [], _, h => simp [chkI] at h
        | [_], _, h => simp [chkI] at h
        | [_, _], _, h => simp [chkI] at h
        | _ :: _ :: _ :: _ :: _, _, h => simp [chkI] at h
        | [_, _, _], _ :: _, h => simp [chkI] at h
        | [x, y, z], [], h =>
          simp only [chkI, Bool.and_eq_true, decide_eq_true_eq] at h
          obtain ⟨⟨⟨⟨⟨⟨⟨⟨rfl, h2⟩, h3⟩, h4⟩, h5⟩, h6⟩, h7⟩, h8⟩, h9⟩ := h
          simp only [evI] at ev
          split at ev
          · rename_i i ρ1 e1
            split at ev
            · rename_i j ρ2 e2
              split at ev
              · rename_i k ρ3 e3
                split at ev
                · rename_i hi
                  simp only [Bool.and_eq_true, decide_eq_true_eq] at hi
                  obtain ⟨⟨hi, hj⟩, rfl⟩ := hi
                  cases ev
                  exact tIW.of <| tI.more (i_rngd (ok.glob h2) (ok.bltn h3) h4 h5 h6 (sndC ca ok h7 e1) (sndC cb ok h8 e2) (sndC cc ok h9 e3) hi hj) fun _ => rfl
                · cases ev
              · cases ev
            · cases ev
          · cases ev
      | _ => simp [chkI] at h
    | _ => simp [chkI] at h
  | .zip ca cb, sc, cf, X, ok, tg, e, h, ρ, ds, ρ', ev => by
    cases e with
    | Call g args kws p =>
      cases g with
      | Name nm p2 =>
        match args, kws, h with
        | [], _, h => simp [chkI] at h
        | [_], _, h => simp [chkI] at h
        | _ :: _ :: _ :: _, _, h => simp [chkI] at h
        | [_, _], _ :: _, h => simp [chkI] at h
        | [x, y], [], h =>
          simp only [chkI, Bool.and_eq_true, decide_eq_true_eq] at h
          obtain ⟨⟨⟨⟨⟨⟨⟨rfl, h2⟩, h3⟩, h4⟩, h5⟩, h6⟩, h7⟩, h8⟩ := h
          cases tg with
          | Tuple es kk tp =>
            simp only [evI] at ev
            split at ev
            · rename_i xs ρ1 e1
              split at ev
              · rename_i ys ρ2 e2
                cases ev
                exact tIW.of <| tI.more (i_zip (ok.glob h2) (ok.bltn h3) h4 h5 (.inl ⟨rfl, rfl⟩) (sndC ca ok h7 e1) (sndC cb ok h8 e2)) fun _ => rfl
              · cases ev
            · rename_i xs ρ1 e1
              split at ev
              · rename_i ys ρ2 e2
                cases ev
                exact tIW.of <| tI.more (i_zip (ok.glob h2) (ok.bltn h3) h4 h5 (.inr ⟨rfl, rfl⟩) (sndC ca ok h7 e1) (sndC cb ok h8 e2)) fun _ => rfl
              · rename_i ys ρ2 e2
                cases ev
                exact tIW.of <| tI.more (i_zipM (ok.glob h2) (ok.bltn h3) h4 h5 (sndC ca ok h7 e1) (sndC cb ok h8 e2)) fun _ => rfl
              · cases ev
            · cases ev
          | _ => simp at h6
      | _ => simp [chkI] at h
    | _ => simp [chkI] at h
  | .enum c, sc, cf, X, ok, tg, e, h, ρ, ds, ρ', ev => by
    cases e with
    | Call g args kws p =>
      cases g with
      | Name nm p2 =>
        match args, kws, h with
        | [], _, h => simp [chkI] at h
        | _ :: _ :: _, _, h => simp [chkI] at h
        | [_], _ :: _, h => simp [chkI] at h
        | [x], [], h =>
          simp only [chkI, Bool.and_eq_true, decide_eq_true_eq] at h
          obtain ⟨⟨⟨⟨⟨rfl, h2⟩, h3⟩, h4⟩, h6⟩, h5⟩ := h
          cases tg with
          | Tuple es kk tp =>
            simp only [evI] at ev
            split at ev
            · rename_i v ρ1 e1
              split at ev
              · rename_i t ρ2 e2
                split at ev
                · rename_i ds' e3
                  cases ev
                  exact tIW.of <| tI.more (i_enum (ok.glob h2) (ok.bltn h3) h4 (sndC c ok h5 e1) e2 e3) fun _ => rfl
                · cases ev
              · cases ev
            · cases ev
          | _ => simp at h6
      | _ => simp [chkI] at h
    | _ => simp [chkI] at h
end
end
end Mv

end
section
namespace Mv
open PySem PySem.Spec PyProof.Rows L2
def dEnv (sc : Scope) : PySem.Env := { scope := sc, locals := 0, globals := 0, cells := [], qual := "", func := none, code := .none, frame := none, builtins := 0 }
def pureOf {α : Type} : Sem α → Option α
  | .pure a => some a
  | _ => none
theorem pureOf_ok {α : Type} {m : Sem α} {a : α} (h : pureOf m = some a) : m = pure a := by
  cases m <;> first | (cases h; rfl) | cases h
theorem stores_env {env : PySem.Env} {sc : Scope} (hs : env.scope = sc) (ts : List Expr) (v : Expr) : swappedStores ts v env = swappedStores ts v (dEnv sc) := by
  subst hs; rfl
theorem swaps_env {env : PySem.Env} {sc : Scope} (hs : env.scope = sc) (e : Expr) (t : Option Expr) (l : Nat) : swapsWith e t l env = swapsWith e t l (dEnv sc) := by
  subst hs; rfl
theorem swapsSole_env {env : PySem.Env} {sc : Scope} (hs : env.scope = sc) (e : Expr) (t : List Expr) (l : Nat) : swapsWithSole t e l env = swapsWithSole t e l (dEnv sc) := by
  subst hs
  match t with
  | [] => rfl
  | [_] => rfl
  | _ :: _ :: _ => rfl
def swB (sc : Scope) (e : Expr) (t : Option Expr) (l : Nat) : Option Bool := pureOf (swapsWith e t l (dEnv sc))
def swS (sc : Scope) (t : List Expr) (e : Expr) (l : Nat) : Option Bool := pureOf (swapsWithSole t e l (dEnv sc))
def swN (sc : Scope) (t : List Expr) (e : Expr) : Option (Option (List Str)) := pureOf (swappedStores t e (dEnv sc))
def isLc : C → Bool
  | .lc _ _ _ _ _ => true
  | _ => false
mutual
def chkS (sx : Sx) (sc : Scope) (cf : Cf) : S → Stmt → Bool
  | .set i c, st => (match st with
    | .Assign [.Name nm p] e pos => decide (sx.N[i]? = some nm) && locB sc cf nm && chkC sx sc c e && (match swB sc e (some (.Name nm p)) pos.line with
      | some false => true
      | some true => isLc c && decide (sc.names.lookup nm = some .local)
      | none => false)
    | _ => false)
  | .setT is c, st => (match st with
    | .Assign [.Tuple ts kk p] e pos => chkTgN sx sc cf is ts && chkC sx sc c e && decide (swS sc [.Tuple ts kk p] e pos.line = some false) && decide (swN sc [.Tuple ts kk p] e = some none)
    | _ => false)
  | .setL is c, st => (match st with
    | .Assign [.Tuple ts kk p] e pos => chkTgN sx sc cf is ts && chkC sx sc c e && decide (swS sc [.Tuple ts kk p] e pos.line = some false) && decide (swN sc [.Tuple ts kk p] e = some none)
    | _ => false)
  | .unp is c, st => (match st with
    | .Assign [.Tuple ts kk p] e pos => chkTgN sx sc cf is ts && chkC sx sc c e && decide (swS sc [.Tuple ts kk p] e pos.line = some false) && decide (swN sc [.Tuple ts kk p] e = some none)
    | _ => false)
  | .par is es, st => (match st with
    | .Assign [.Tuple ts kk p] (.Tuple vs k2 p2) _ => chkTgN sx sc cf is ts && chkCs sx sc es vs && (match is, ts, vs with
      | [_, _], [.Name x px, .Name y py], [a, b] => decide (sc.names.lookup x = some .local) && decide (sc.names.lookup y = some .local) && decide (swN sc [.Tuple ts kk p] (.Tuple vs k2 p2) = some (some [x, y]))
      | [_, _, _], [.Name x px, .Name y py, .Name z pz], [a, b, c] => decide (sc.names.lookup x = some .local) && decide (sc.names.lookup y = some .local) && decide (sc.names.lookup z = some .local) && decide (swN sc [.Tuple ts kk p] (.Tuple vs k2 p2) = some (some [x, y, z]))
      | _, _, _ => false)
    | _ => false)
  | .sto b i c, st => (match st with
    | .Assign [.Subscript x y p] e pos => noSl y && decide (swB sc e (some (.Subscript x y p)) pos.line = some false) && chkC sx sc c e && chkC sx sc b x && chkC sx sc i y
    | _ => false)
  | .aug i op c, st => (match st with
    | .AugAssign (.Name nm _) op' e _ => decide (sx.N[i]? = some nm) && locB sc cf nm && decide (op = op') && (decide (op = .Add) || decide (op = .Sub) || decide (op = .Mult)) && chkC sx sc c e
    | _ => false)
  | .fgo x j no, st => (match st with
    | .For (.Name nx _) iter [.Expr (.Call (.Attribute (.Name nx2 _) m p2) [.Constant .none _ _] [] p4) _] [] _ => decide (nx2 = nx) && decide (m = "append") && (p2.endLine == p4.line) && decide (sx.N[x]? = some nx) && locB sc cf nx && visB sc nx && nmOk nx && (match no, iter with
      | none, .Name nj _ => decide (sx.N[j]? = some nj) && visB sc nj && nmOk nj
      | some n, .Subscript (.Name nj _) (.Slice none (some (.Constant (.int i) _ _)) none _) _ => decide (sx.N[j]? = some nj) && visB sc nj && nmOk nj && decide (i = (n : Int))
      | _, _ => false)
    | _ => false)
  | .augL i c, st => (match st with
    | .AugAssign (.Name nm _) op' e _ => decide (sx.N[i]? = some nm) && locB sc cf nm && decide (op' = .Add) && chkC sx sc c e
    | _ => false)
  | .augS b i op c, st => (match st with
    | .AugAssign (.Subscript x y _) op' e _ => decide (op = op') && (decide (op = .Add) || decide (op = .Sub)) && noSl y && chkC sx sc b x && chkC sx sc i y && chkC sx sc c e
    | _ => false)
  | .sdf b k v, st => (match st with
    | .Expr (.Call (.Attribute x m ap) [y, z] [] cp) pos => decide (m = "setdefault") && baseB x && plainE y && plainE z && (ap.endLine == cp.line) && decide (swB sc (.Call (.Attribute x m ap) [y, z] [] cp) none pos.line = some false) && chkC sx sc b x && chkC sx sc k y && chkC sx sc v z
    | _ => false)
  | .fori i tg b, st => (match st with
    | .For (.Tuple elts kk tp) (.Call (.Attribute (.Name nm _) m ap) [] [] cp) body [] _ => decide (m = "items") && decide (sx.N[i]? = some nm) && visB sc nm && nmOk nm && (ap.endLine == cp.line) && chkTg sx sc cf tg (.Tuple elts kk tp) && chkSs sx sc cf b body
    | _ => false)
  | .forl i tg b, st => (match st with
    | .For t (.Name nm _) body [] _ => decide (sx.N[i]? = some nm) && visB sc nm && nmOk nm && chkTg sx sc cf tg t && chkSs sx sc cf b body
    | _ => false)
  | .app b c, st => (match st with
    | .Expr (.Call (.Attribute x m p1) [y] [] p2) _ => decide (m = "append") && plainE y && baseB x && (p1.endLine == p2.line) && chkC sx sc b x && chkC sx sc c y
    | _ => false)
  | .exp c, st => (match st with
    | .Expr e pos => chkC sx sc c e && decide (swB sc e none pos.line = some false)
    | _ => false)
  | .ret c, st => (match st with
    | .Return (some e) _ => chkC sx sc c e
    | _ => false)
  | .retN, st => (match st with
    | .Return none _ => true
    | _ => false)
  | .ite c a b, st => (match st with
    | .If t x y _ => chkT sx sc c t && chkSs sx sc cf a x && chkSs sx sc cf b y
    | _ => false)
  | .for tg it b, st => (match st with
    | .For t iter body [] _ => chkTg sx sc cf tg t && notSet iter && (!it.isBrw && chkI sx sc t it iter) && chkSs sx sc cf b body
    | _ => false)
  | .while _ c b, st => (match st with
    | .While t body [] _ => chkT sx sc c t && chkSs sx sc cf b body
    | _ => false)
  | .pass, st => (match st with | .Pass _ => true | _ => false)
  | .cont, st => (match st with | .Continue _ => true | _ => false)
  | .brk, st => (match st with | .Break _ => true | _ => false)
  | .stuck, _ => true
def chkSs (sx : Sx) (sc : Scope) (cf : Cf) : Ss → List Stmt → Bool
  | .nil, [] => true
  | .cons s ss, st :: sts => chkS sx sc cf s st && chkSs sx sc cf ss sts
  | _, _ => false
end
section
variable {sx : Sx} {G : Gam} {iov : Nat → Option V} {sc : Scope} {cf : Cf} {X : Cx} {ρ ρ' : Env} {e : Expr} {pos : Pos}
theorem snd_set (ok : CtxOk sx G sc cf X) {i : Nat} {c : C} {nm : Str} {p : Pos} (h1 : sx.N[i]? = some nm) (h2 : locB sc cf nm = true) (h3 : chkC sx sc c e = true) (h4 : (match swB sc e (some (.Name nm p)) pos.line with
    | some false => true
    | some true => isLc c && decide (sc.names.lookup nm = some .local)
    | none => false) = true) {a : Val} {ρ1 : Env} (e1 : evC G c ρ = some (a, ρ1)) (e2 : bindS ρ1 i a = some ρ') : PS X (.Assign [.Name nm p] e pos) (tS X.K iov ρ (.nx ρ')) := by
  split at h4
  · rename_i hs
    exact st_set ok.nd (ok.ix h1) (ok.loc h2).1 (ok.loc h2).2 (sndC c ok h3 e1) e2 (by rw [swaps_env ok.sc]; exact pureOf_ok hs)
  · rename_i hs
    simp only [Bool.and_eq_true, decide_eq_true_eq] at h4
    cases c with
    | lc own tg it tests elt =>
      cases e with
      | ListComp el gens scope p' =>
        match gens, h3, hs with
        | [], h, _ => simp [chkC] at h
        | _ :: _ :: _, h, _ => simp [chkC] at h
        | [⟨t, iter, ifs, n⟩], h, hs =>
          simp only [chkC, Bool.and_eq_true, decide_eq_true_eq] at h
          obtain ⟨⟨⟨⟨⟨⟨⟨⟨rfl, g0⟩, g1⟩, g2⟩, g3⟩, g4⟩, g5⟩, g6⟩, g7⟩ := h
          simp only [evC] at e1
          split at e1
          · rename_i ds ρ2 i1
            split at e1
            · rename_i hown
              split at e1
              · rename_i ts ρ5 i2
                split at e1
                · rename_i hz
                  cases e1
                  exact st_setLc (evt := evTo G tests) (eve := evC G elt) (wt := tests.wr) (we := elt.wr) (wb := !it.isBrw) ok.calm ok.nd (ok.ix h1) (by rw [ok.sc]; exact h4.2) (by rw [swaps_env ok.sc]; exact pureOf_ok hs) (brw_t g0) (brw_e g0) (sndI it ok g5 i1) (by rw [ok.N, ok.sc]; exact blkOk_by g1) (fun i hi => by simpa using List.all_eq_true.mp g3 i hi)
                    (fun s H C cl fp ρ d ρ2 hb => tg_ok (ok.blk s H scope C cl fp) g4 hb) (fun s H C cl fp ρ b ρ2 hb => sndTo tests (ok.blk s H scope C cl fp) g6 hb)
                    (fun s H C cl fp ρ v ρ2 hb => sndC elt (ok.blk s H scope C cl fp) g7 hb) (notSet_ok g2 X.env) i2 (of_decide_eq_true hz) hown e2
                · cases e1
              · cases e1
            · cases e1
          · cases e1
      | _ => simp [chkC] at h3
    | _ => simp [isLc] at h4
  · cases h4
structure StOk (sx : Sx) (G : Gam) (sc : Scope) (cf : Cf) (X : Cx) : Prop extends CtxOk sx G sc cf X where
  own : PassesOwn (model X.prog X.w) X.A X.env X.xe
set_option maxHeartbeats 20000000
mutual
theorem sndS (ok : StOk sx G sc cf X) : ∀ (s : S) {st : Stmt}, chkS sx sc cf s st = true → ∀ {iov : Nat → Option V} {ρ o}, evS G s ρ = some o → PS X st (tS X.K iov ρ o)
  | .set i c, st, h, iov, ρ, o, ev => by
    simp only [chkS] at h
    split at h
    · rename_i nm p e pos
      simp only [Bool.and_eq_true, decide_eq_true_eq] at h
      obtain ⟨⟨⟨h1, h2⟩, h3⟩, h4⟩ := h
      simp only [evS] at ev
      split at ev
      · rename_i v ρ1 e1
        obtain ⟨ρ2, e2, rfl⟩ := Option.map_eq_some_iff.mp ev
        exact snd_set ok.toCtxOk h1 h2 h3 h4 e1 e2
      · cases ev
    · cases h
  | .setT is c, st, h, iov, ρ, o, ev => by
    simp only [chkS] at h
    split at h
    · rename_i es kk p e pos
      simp only [Bool.and_eq_true, decide_eq_true_eq] at h
      obtain ⟨⟨⟨h1, h2⟩, h3⟩, h4⟩ := h
      obtain ⟨g1, g2, g3⟩ := tgN_ok ok.toCtxOk h1
      obtain ⟨a1, a2⟩ := assignEach_plain X.env g2
      have q1 := pureOf_ok h3
      have q2 := pureOf_ok h4
      rw [← swapsSole_env ok.sc] at q1
      rw [← stores_env ok.sc] at q2
      simp only [evS] at ev
      split at ev
      · rename_i ds ρ1 e1
        obtain ⟨ρ2, e2, rfl⟩ := Option.map_eq_some_iff.mp ev
        exact st_setT ok.calm ok.nd g1 a1 a2 g3 q1 q2 (sndC c ok.toCtxOk h2 e1) rfl e2
      · rename_i ds ρ1 e1
        obtain ⟨ρ2, e2, rfl⟩ := Option.map_eq_some_iff.mp ev
        exact st_setT ok.calm ok.nd g1 a1 a2 g3 q1 q2 (sndC c ok.toCtxOk h2 e1) rfl e2
      · rename_i ts' ρ1 e1
        obtain ⟨ρ2, e2, rfl⟩ := Option.map_eq_some_iff.mp ev
        exact st_setT ok.calm ok.nd g1 a1 a2 g3 q1 q2 (sndC c ok.toCtxOk h2 e1) rfl e2
      · cases ev
    · cases h
  | .setL is c, st, h, iov, ρ, o, ev => by
    simp only [chkS] at h
    split at h
    · rename_i es kk p e pos
      simp only [Bool.and_eq_true, decide_eq_true_eq] at h
      obtain ⟨⟨⟨h1, h2⟩, h3⟩, h4⟩ := h
      obtain ⟨g1, g2, g3⟩ := tgN_ok ok.toCtxOk h1
      obtain ⟨a1, a2⟩ := assignEach_plain X.env g2
      have q1 := pureOf_ok h3
      have q2 := pureOf_ok h4
      rw [← swapsSole_env ok.sc] at q1
      rw [← stores_env ok.sc] at q2
      simp only [evS] at ev
      split at ev
      · rename_i t ρ1 e1
        split at ev
        · rename_i ds hf
          obtain ⟨ρ2, e2, rfl⟩ := Option.map_eq_some_iff.mp ev
          exact st_setL ok.calm ok.nd g1 a1 a2 g3 q1 q2 (sndC c ok.toCtxOk h2 e1) hf e2
        · cases ev
      · cases ev
    · cases h
  | .unp is c, st, h, iov, ρ, o, ev => by
    simp only [chkS] at h
    split at h
    · rename_i es kk p e pos
      simp only [Bool.and_eq_true, decide_eq_true_eq] at h
      obtain ⟨⟨⟨h1, h2⟩, h3⟩, h4⟩ := h
      obtain ⟨g1, g2, g3⟩ := tgN_ok ok.toCtxOk h1
      obtain ⟨a1, a2⟩ := assignEach_plain X.env g2
      have q1 := pureOf_ok h3
      have q2 := pureOf_ok h4
      rw [← swapsSole_env ok.sc] at q1
      rw [← stores_env ok.sc] at q2
      simp only [evS] at ev
      split at ev
      · rename_i j ρ1 e1
        split at ev
        · rename_i ts hf
          split at ev
          · rename_i hp
            obtain ⟨ρ2, e2, rfl⟩ := Option.map_eq_some_iff.mp ev
            exact st_unp ok.calm ok.nd g1 a1 a2 g3 q1 q2 (sndC c ok.toCtxOk h2 e1) hf hp e2
          · cases ev
        · cases ev
      · cases ev
    · cases h
  | .par is cs, st, h, iov, ρ, o, ev => by
    simp only [chkS] at h
    split at h
    · rename_i ts kk p vs k2 p2 pos
      simp only [Bool.and_eq_true] at h
      obtain ⟨⟨h1, h2⟩, h3⟩ := h
      obtain ⟨g1, g2, g3⟩ := tgN_ok ok.toCtxOk h1
      simp only [evS] at ev
      split at ev
      · rename_i us ρ1 e1
        split at ev
        · rename_i hp
          obtain ⟨ρ2, e2, rfl⟩ := Option.map_eq_some_iff.mp ev
          obtain ⟨pl1, pl2, pa⟩ := sndCs (iov := iov) cs ok.toCtxOk h2 e1
          split at h3
          · rename_i i j x px y py a b
            simp only [Bool.and_eq_true, decide_eq_true_eq] at h3
            obtain ⟨⟨k1, k2'⟩, k3⟩ := h3
            have q2 := pureOf_ok k3
            rw [← stores_env ok.sc] at q2
            obtain ⟨n1, _, z1, z2, _⟩ := g3 0 i _ rfl rfl
            obtain ⟨n2, _, z3, z4, _⟩ := g3 1 j _ rfl rfl
            cases z1; cases z3
            exact st_par2 ok.calm ok.nd z2 z4 (by rw [ok.sc]; exact k1) (by rw [ok.sc]; exact k2') pa hp e2 q2
          · rename_i i j l x px y py z pz a b c
            simp only [Bool.and_eq_true, decide_eq_true_eq] at h3
            obtain ⟨⟨⟨k1, k2'⟩, k4⟩, k3⟩ := h3
            have q2 := pureOf_ok k3
            rw [← stores_env ok.sc] at q2
            obtain ⟨n1, _, z1, z2, _⟩ := g3 0 i _ rfl rfl
            obtain ⟨n2, _, z3, z4, _⟩ := g3 1 j _ rfl rfl
            obtain ⟨n3, _, z5, z6, _⟩ := g3 2 l _ rfl rfl
            cases z1; cases z3; cases z5
            exact st_par3 ok.calm ok.nd z2 z4 z6 (by rw [ok.sc]; exact k1) (by rw [ok.sc]; exact k2') (by rw [ok.sc]; exact k4) pa hp e2 q2
          · cases h3
        · cases ev
      · cases ev
    · cases h
  | .sto b i c, st, h, iov, ρ, o, ev => by
    simp only [chkS] at h
    split at h
    · rename_i x y p e pos
      simp only [Bool.and_eq_true, decide_eq_true_eq] at h
      obtain ⟨⟨⟨⟨h1, h2⟩, h3⟩, h4⟩, h5⟩ := h
      simp only [evS] at ev
      split at ev
      · rename_i vc ρ1 e1
        split at ev
        · rename_i t ρ2 e2
          split at ev
          · rename_i j k ρ3 e3
            split at ev
            · rename_i vi ρ4 e4
              split at ev
              · rename_i hst
                split at ev
                · rename_i tx e5
                  split at ev
                  · rename_i ty e6
                    obtain ⟨ρ5, e7, rfl⟩ := Option.map_eq_some_iff.mp ev
                    exact st_sto (by have := ok.units; omega) h1 (by rw [swaps_env ok.sc]; exact pureOf_ok h2) (sndC c ok.toCtxOk h3 e1) e2 (sndC b ok.toCtxOk h4 e3) (sndC i ok.toCtxOk h5 e4) hst e5 e6 e7
                  · cases ev
                · cases ev
              · cases ev
            · cases ev
          · cases ev
        · cases ev
      · cases ev
    · cases h
  | .aug i op c, st, h, iov, ρ, o, ev => by
    simp only [chkS] at h
    split at h
    · rename_i nm p op' e pos
      simp only [Bool.and_eq_true, Bool.or_eq_true, decide_eq_true_eq] at h
      obtain ⟨⟨⟨⟨h1, h2⟩, rfl⟩, h4⟩, h5⟩ := h
      simp only [evS] at ev
      split at ev
      · rename_i tx e1
        split at ev
        · rename_i ty ρ1 e2
          split at ev
          · rename_i t e3
            obtain ⟨ρ2, e4, rfl⟩ := Option.map_eq_some_iff.mp ev
            unfold augT at e3
            split at e3
            · rename_i n m
              obtain ⟨r, e5, rfl⟩ := Option.map_eq_some_iff.mp e3
              rcases h4 with (rfl | rfl) | rfl
              · cases e5
                exact st_aug ok.nd (ok.ix h1) (ok.loc h2).1 (ok.loc h2).2 (ip_c ip_add n m) e1 (sndC c ok.toCtxOk h5 e2) e4
              · cases e5
                exact st_aug ok.nd (ok.ix h1) (ok.loc h2).1 (ok.loc h2).2 (ip_c ip_sub n m) e1 (sndC c ok.toCtxOk h5 e2) e4
              · simp only [Mv.intOp] at e5
                split at e5
                · rename_i hh
                  simp only [Bool.and_eq_true] at hh
                  cases e5
                  exact st_aug ok.nd (ok.ix h1) (ok.loc h2).1 (ok.loc h2).2 (ip_mulX hh.1 hh.2) e1 (sndC c ok.toCtxOk h5 e2) e4
                · cases e5
            · cases e3
          · cases ev
        · cases ev
      · cases ev
    · cases h
  | .augS b i op c, st, h, iov, ρ, o, ev => by
    simp only [chkS] at h
    split at h
    · rename_i x y tp op' e pos
      simp only [Bool.and_eq_true, Bool.or_eq_true, decide_eq_true_eq] at h
      obtain ⟨⟨⟨⟨⟨rfl, h2⟩, h3⟩, h4⟩, h5⟩, h6⟩ := h
      simp only [evS] at ev
      split at ev
      · rename_i j k ρ1 e1
        split at ev
        · rename_i vi ρ2 e2
          split at ev
          · rename_i hst
            split at ev
            · rename_i x1 e3
              split at ev
              · rename_i n e4
                split at ev
                · rename_i m ρ3 e5
                  split at ev
                  · rename_i x2 e6
                    split at ev
                    · rename_i r e7
                      split at ev
                      · rename_i y2 e8
                        obtain ⟨ρ5, e9, rfl⟩ := Option.map_eq_some_iff.mp ev
                        have hu := ok.units
                        rcases h2 with rfl | rfl
                        · cases e7
                          exact st_augS (by omega) h3 (ip_c ip_add n m) (sndC b ok.toCtxOk h4 e1) (sndC i ok.toCtxOk h5 e2) (sndC c ok.toCtxOk h6 e5) hst e3 e4 e6 e8 e9
                        · cases e7
                          exact st_augS (by omega) h3 (ip_c ip_sub n m) (sndC b ok.toCtxOk h4 e1) (sndC i ok.toCtxOk h5 e2) (sndC c ok.toCtxOk h6 e5) hst e3 e4 e6 e8 e9
                      · cases ev
                    · cases ev
                  · cases ev
                · cases ev
              · cases ev
            · cases ev
          · cases ev
        · cases ev
      · cases ev
    · cases h
  | .sdf b kc vc, st, h, iov, ρ, o, ev => by
    simp only [chkS] at h
    split at h
    · rename_i x m ap y z cp pos
      simp only [Bool.and_eq_true, decide_eq_true_eq] at h
      obtain ⟨⟨⟨⟨⟨⟨⟨⟨rfl, h1⟩, h2⟩, h3⟩, h4⟩, h5⟩, h6⟩, h7⟩, h8⟩ := h
      have m2 : M2 X x "setdefault" ap y z cp := ⟨base_ok h1 _ _ _, by rw [star_plain h2, star_plain h3]; rfl, h4, by rw [star_plain h2, star_plain h3]; rfl⟩
      simp only [evS] at ev
      split at ev
      · rename_i j k ρ1 e1
        split at ev
        · rename_i ks1 ts1 e2
          split at ev
          · rename_i dk ρ2 e3
            split at ev
            · rename_i d ρ3 e4
              split at ev
              · rename_i hst
                split at ev
                · rename_i ks ts e5
                  split at ev
                  · rename_i kk e6
                    split at ev
                    · rename_i hz
                      have fin : ∀ ρ5, ((∃ t0, findK kk ks ts = some t0) ∧ ρ5 = ρ3) ∨ (findK kk ks ts = none ∧ ∃ y, setIx (.dct ks ts) (.fz dk) (.fz d) = some y ∧ setPt (kIx ρ3 j k (.dct ks ts) (.fz dk)) j k y = some ρ5) → PS X (.Expr (.Call (.Attribute x "setdefault" ap) [y, z] [] cp) pos) (tS X.K iov ρ (.nx ρ5)) := fun ρ5 hf =>
                        st_sdf ok.units m2 (by rw [swaps_env ok.sc]; exact pureOf_ok h5) (sndC b ok.toCtxOk h6 e1) (sndC kc ok.toCtxOk h7 e3) (sndC vc ok.toCtxOk h8 e4) hst e2 e5 e6 (of_decide_eq_true hz) hf
                      split at ev
                      · rename_i t0 e7
                        cases ev
                        exact fin _ (.inl ⟨⟨t0, e7⟩, rfl⟩)
                      · rename_i e7
                        split at ev
                        · rename_i y2 e8
                          obtain ⟨ρ5, e9, rfl⟩ := Option.map_eq_some_iff.mp ev
                          exact fin _ (.inr ⟨e7, y2, e8, e9⟩)
                        · cases ev
                    · cases ev
                  · cases ev
                · cases ev
              · cases ev
            · cases ev
          · cases ev
        · cases ev
      · cases ev
    · cases h
  | .fori i tg b, st, h, iov, ρ, o, ev => by
    simp only [chkS] at h
    split at h
    · rename_i elts kk tp nm np m ap cp body pos
      simp only [Bool.and_eq_true, decide_eq_true_eq] at h
      obtain ⟨⟨⟨⟨⟨⟨rfl, h1⟩, h2⟩, h3⟩, h4⟩, h5⟩, h6⟩ := h
      simp only [nmOk, Bool.and_eq_true, Bool.not_eq_true'] at h3
      simp only [evS] at ev
      split at ev
      · rename_i ks ts0 e1
        split at ev
        · rename_i ds e2
          split at ev
          · rename_i hfl
            obtain ⟨o', e3, e4⟩ := Option.bind_eq_some_iff.mp ev
            exact st_fori ok.own ok.calm (ok.ix h1) ok.nd (ok.vis h2) h3.1 h3.2 h4 e1 e2 hfl (fun iov ρ d ρ2 hb => tg_ok ok.toCtxOk h5 hb) (fun iov ρ o hb => sndSs ok b h6 hb) e3 e4
          · cases ev
        · cases ev
      · cases ev
    · cases h
  | .forl i tg b, st, h, iov, ρ, o, ev => by
    simp only [chkS] at h
    split at h
    · rename_i t nm np body pos
      simp only [Bool.and_eq_true, decide_eq_true_eq] at h
      obtain ⟨⟨⟨⟨h1, h2⟩, h3⟩, h5⟩, h6⟩ := h
      simp only [nmOk, Bool.and_eq_true, Bool.not_eq_true'] at h3
      simp only [evS] at ev
      split at ev
      · rename_i ts e1
        split at ev
        · rename_i ds e2
          obtain ⟨o', e3, e4⟩ := Option.bind_eq_some_iff.mp ev
          exact st_forl ok.own ok.calm (ok.ix h1) ok.nd (ok.vis h2) h3.1 h3.2 e1 e2 (fun ρ d ρ2 hb => tg_ok ok.toCtxOk h5 hb) (fun ρ o hb => sndSs ok b h6 hb) e3 e4
        · cases ev
      · cases ev
    · cases h
  | .fgo x j no, st, h, iov, ρ, o, ev => by
    simp only [chkS] at h
    split at h
    · rename_i nx p0 iter nx2 p1 m p2 jj p3 p4 p5 pos
      simp only [Bool.and_eq_true, decide_eq_true_eq] at h
      obtain ⟨⟨⟨⟨⟨⟨⟨rfl, rfl⟩, h3⟩, h4⟩, h5⟩, h6⟩, h7⟩, h8⟩ := h
      simp only [nmOk, Bool.and_eq_true, Bool.not_eq_true'] at h7
      simp only [evS] at ev
      split at ev
      · rename_i ts e1
        split at ev
        · rename_i hz
          simp only [Bool.and_eq_true, decide_eq_true_eq, List.all_eq_true] at hz
          obtain ⟨⟨⟨z1, z2⟩, z3⟩, z4⟩ := hz
          cases ev
          have xs : ∃ s, ρ[x]? = some s := by
            cases q : ρ[x]? with
            | none => rw [q] at z2; cases z2
            | some s => exact ⟨s, rfl⟩
          have xr : ∀ s, ρ[x]? = some s → (∀ t, s ≠ .io t) ∧ s ≠ .lk := fun s q => by
            rw [q] at z2
            constructor
            · rintro t rfl; cases z2
            · rintro rfl; cases z2
          have kids : ∀ n, n ≤ ts.length → (∀ t ∈ ts.take n, kidOk n t = true) → ∀ k, k < n → ∃ us, ts[k]? = some (.lst us) ∧ us.length + n < sizeLine := fun n hn hk k hkn => by
            have e : (ts.take n)[k]? = some ts[k] := by rw [List.getElem?_take_of_lt hkn, List.getElem?_eq_getElem (by omega)]
            have q := hk _ (List.mem_of_getElem? e)
            cases c : ts[k] with
            | lst us => rw [c] at q; exact ⟨us, by rw [List.getElem?_eq_getElem (by omega), c], of_decide_eq_true q⟩
            | fz d => rw [c] at q; cases q
            | tup us => rw [c] at q; cases q
            | dct ks us => rw [c] at q; cases q
          split at h8
          · rename_i nj pj
            simp only [Bool.and_eq_true, decide_eq_true_eq] at h8
            obtain ⟨⟨g1, g2⟩, g3⟩ := h8
            simp only [nmOk, Bool.and_eq_true, Bool.not_eq_true'] at g3
            refine st_fgo (n := ts.length) ok.own ok.calm ok.nd (ok.ix h4) (ok.loc h5).1 (ok.loc h5).2 (ok.vis h6) h7.1 h7.2 (base_ok (o := .Name _ p1) rfl _ _ _) h3 e1 z1 xs xr (kids _ (Nat.le_refl _) z4) (pe_var (ok.ix g1) (ok.vis g2) g3.1 g3.2) (notSet_ok rfl X.env) fun σ H a vs Q q1 q2 q3 q4 => ⟨_, q1, q4 a H (fun _ _ e => e) (fun _ _ => rfl) (.inl rfl) ?_⟩
            rw [List.take_of_length_le (by omega)]; exact q2
          · rename_i n nj pj i k1 k2 k3 k4
            simp only [Bool.and_eq_true, decide_eq_true_eq] at h8
            obtain ⟨⟨⟨g1, g2⟩, g3⟩, rfl⟩ := h8
            simp only [nmOk, Bool.and_eq_true, Bool.not_eq_true'] at g3
            have z3 : n ≤ ts.length := z3
            refine st_fgo (n := n) ok.own ok.calm ok.nd (ok.ix h4) (ok.loc h5).1 (ok.loc h5).2 (ok.vis h6) h7.1 h7.2 (base_ok (o := .Name _ p1) rfl _ _ _) h3 e1 z1 xs xr (kids _ z3 z4) (pe_slice sl_list (pe_var (ok.ix g1) (ok.vis g2) g3.1 g3.2) po_none (po_some pe_int)) (notSet_ok rfl X.env) fun σ H a vs Q q1 q2 q3 q4 => ⟨_, q1, ⟨n, rfl, a, vs, rfl, .inl (.inl q2), fun p np => ?_⟩⟩
            rw [cutV_hi (by omega)]
            exact q4 p _ (fun c o e => by rw [upd_ne (ne_of_none e np)]; exact e) (fun c hc => upd_ne hc) (.inr np) upd_same
          · cases h8
        · cases ev
      · cases ev
    · cases h
  | .augL i c, st, h, iov, ρ, o, ev => by
    simp only [chkS] at h
    split at h
    · rename_i nm p op' e pos
      simp only [Bool.and_eq_true, decide_eq_true_eq] at h
      obtain ⟨⟨⟨h1, h2⟩, rfl⟩, h5⟩ := h
      simp only [evS] at ev
      split at ev
      · rename_i j e0
        split at ev
        · rename_i ts2 ρ1 e1
          split at ev
          · rename_i ds ts1 e2 e3
            split at ev
            · rename_i hz
              simp only [Bool.and_eq_true, decide_eq_true_eq, okLen] at hz
              obtain ⟨rfl, hz⟩ := hz
              obtain ⟨ρ5, e7, rfl⟩ := Option.map_eq_some_iff.mp ev
              exact st_augL ok.nd (ok.ix h1) (ok.loc h2).1 (ok.loc h2).2 e0 (sndC c ok.toCtxOk h5 e1) e2 e3 hz e7
            · cases ev
          · cases ev
        · cases ev
      · cases ev
    · cases h
  | .app b c, st, h, iov, ρ, o, ev => by
    simp only [chkS] at h
    split at h
    · rename_i x m p1 y p2 pos
      simp only [Bool.and_eq_true, decide_eq_true_eq] at h
      obtain ⟨⟨⟨⟨⟨rfl, h2⟩, h3⟩, h4⟩, h5⟩, h6⟩ := h
      simp only [evS] at ev
      split at ev
      · rename_i j k ρ1 e1
        split at ev
        · rename_i ts1 e2
          split at ev
          · rename_i v ρ2 e3
            split at ev
            · rename_i t ρ3 e4
              split at ev
              · rename_i hst
                split at ev
                · rename_i tx e5
                  split at ev
                  · rename_i ty e6
                    obtain ⟨ρ5, e7, rfl⟩ := Option.map_eq_some_iff.mp ev
                    exact st_app h2 (base_ok h3 _ _ _) h4 (sndC b ok.toCtxOk h5 e1) e2 (sndC c ok.toCtxOk h6 e3) e4 hst e5 e6 e7
                  · cases ev
                · cases ev
              · cases ev
            · cases ev
          · cases ev
        · cases ev
      · cases ev
    · cases h
  | .exp c, st, h, iov, ρ, o, ev => by
    simp only [chkS] at h
    split at h
    · rename_i e pos
      simp only [Bool.and_eq_true, decide_eq_true_eq] at h
      simp only [evS] at ev
      obtain ⟨⟨v, ρ1⟩, e1, rfl⟩ := Option.map_eq_some_iff.mp ev
      exact st_exp (sndC c ok.toCtxOk h.1 e1) (by rw [swaps_env ok.sc]; exact pureOf_ok h.2)
    · cases h
  | .ret c, st, h, iov, ρ, o, ev => by
    simp only [chkS] at h
    split at h
    · rename_i e pos
      simp only [evS] at ev
      split at ev
      · rename_i v ρ1 e1
        obtain ⟨⟨t, ρ2⟩, e2, rfl⟩ := Option.map_eq_some_iff.mp ev
        exact st_ret (sndC c ok.toCtxOk h e1) e2
      · cases ev
    · cases h
  | .retN, st, h, iov, ρ, o, ev => by
    simp only [chkS] at h
    split at h
    · skip
      simp only [evS, Option.some.injEq] at ev; subst ev; exact st_retN
    · cases h
  | .ite c a b, st, h, iov, ρ, o, ev => by
    simp only [chkS] at h
    split at h
    · rename_i t x y pos
      simp only [Bool.and_eq_true] at h
      obtain ⟨⟨h1, h2⟩, h3⟩ := h
      simp only [evS] at ev
      split at ev
      · rename_i ρ1 e1
        exact st_if (sndT c ok.toCtxOk h1 e1) (fun _ => sndSs ok a h2 ev) (fun z => nomatch z)
      · rename_i ρ1 e1
        exact st_if (sndT c ok.toCtxOk h1 e1) (fun z => nomatch z) (fun _ => sndSs ok b h3 ev)
      · cases ev
    · cases h
  | .for tg it b, st, h, iov, ρ, o, ev => by
    simp only [chkS] at h
    split at h
    · rename_i t iter body pos
      simp only [Bool.and_eq_true] at h
      obtain ⟨⟨⟨h1, h2⟩, h0, h3⟩, h4⟩ := h
      simp only [evS] at ev
      split at ev
      · rename_i ds ρ1 e1
        have hI := sndI (iov := iov) it ok.toCtxOk h3 e1
        rw [h0] at hI
        exact st_for ok.own ok.calm (tIW.toI hI) (fun ρ d ρ2 hb => tg_ok ok.toCtxOk h1 hb) (fun ρ o hb => sndSs ok b h4 hb) (notSet_ok h2 X.env) ev
      · cases ev
    · cases h
  | .while n c b, st, h, iov, ρ, o, ev => by
    simp only [chkS] at h
    split at h
    · rename_i t body pos
      simp only [Bool.and_eq_true] at h
      simp only [evS] at ev
      exact st_while ok.own (fun ρ d ρ2 hb => sndT c ok.toCtxOk h.1 hb) (fun ρ o hb => sndSs ok b h.2 hb) ev
    · cases h
  | .pass, st, h, iov, ρ, o, ev => by
    simp only [chkS] at h
    split at h
    · skip
      simp only [evS, Option.some.injEq] at ev; subst ev; exact st_pass
    · cases h
  | .cont, st, h, iov, ρ, o, ev => by
    simp only [chkS] at h
    split at h
    · skip
      simp only [evS, Option.some.injEq] at ev; subst ev; exact st_cont
    · cases h
  | .brk, st, h, iov, ρ, o, ev => by
    simp only [chkS] at h
    split at h
    · skip
      simp only [evS, Option.some.injEq] at ev; subst ev; exact st_brk
    · cases h
  | .stuck, st, h, iov, ρ, o, ev => by simp [evS] at ev
theorem sndSs (ok : StOk sx G sc cf X) : ∀ (s : Ss) {st : List Stmt}, chkSs sx sc cf s st = true → ∀ {iov : Nat → Option V} {ρ o}, evSs G s ρ = some o → PSs X st (tS X.K iov ρ o)
  | .nil, st, h, iov, ρ, o, ev => by
    cases st with
    | cons _ _ => simp [chkSs] at h
    | nil => simp only [evSs, Option.some.injEq] at ev; subst ev; exact sts_nil
  | .cons s ss, st, h, iov, ρ, o, ev => by
    cases st with
    | nil => simp [chkSs] at h
    | cons st sts =>
      simp only [chkSs, Bool.and_eq_true] at h
      simp only [evSs] at ev
      split at ev
      · rename_i ρ1 e1
        exact sts_cons (sndS ok s h.1 e1) (sndSs ok ss h.2 ev)
      · rename_i hn
        exact sts_end (sndS ok s h.1 ev) fun ρ' z => by subst z; exact hn _ ev
end
end
end Mv

end
section
namespace Mv
open PySem PySem.Spec PyProof.Rows L2
section
variable {P : Program} {w : World} {K : PySem.W.Frag} {mg : Str → Option Value} {base : Heap} {F F' : Addr → Prop} {H H' : Hp} {σ : L2.St} {ρ ρ' : Env} {fp fp' : Fp}
theorem fnG_of {lv : Nat} {ad : Addr} {nm ql : Str} {prm : Arguments} {bd : List Stmt} {sco : Scope} {d1 d2 d3 d4 cdv d5 d6 : Value} {an od : Option Addr} {osl : Array (Option Value)} {N ps : List Str} {sp : Sp}
    (lk : K.lookup ad = some ⟨d6, od, .func (PySem.W.fnOf nm ql prm bd sco d1 d2 d3 d4 an cdv d5), osl⟩) (hcd : PySem.W.codeIn K cdv ql = true) (fs : FnScope N ps sco) (len : ∀ vs H Q E, sp vs H Q E → vs.length = ps.length)
    (hb : ∀ (Ar : Around) (up : List PySem.Env) (st : Shared) (Hh : Hp) (vs : List V) (Qq : VK) (Ex : XK), Ar.guards = some [] → Room lv (Ar.deeper (envOfC ql sco st.heap.objs.size ad cdv)) → sp vs Hh Qq Ex →
      ∃ t, PSs (cxOf CX0 P w K mg base N ql sco ad cdv Ar up st Hh Ex).nox bd t ∧ t { nx := fun _ H1 => Qq .non H1, rt := Qq } (L2.start N vs) Hh) :
    FnG P w K mg base (lv + 1) ad (PySem.W.fnOf nm ql prm bd sco d1 d2 d3 d4 an cdv d5) ps sp := by
  refine ⟨len, fun Ar up st Hh args us vs Qq Ex hgd rm en bt rel hsp => ?_⟩
  have hlen := len _ _ _ _ hsp
  have kin : K.In st.heap := en.mod.kin.keeps fun b o e => (en.bs b o e).1
  have nol : st.heap.NoLimit := en.mod.nolimit.keeps fun b o e => (en.bs b o e).1
  refine codeAny_call_function rm.depth (kin _ _ lk) rfl fs.co fs.gen rfl (PySem.W.codeRec_of kin hcd) (bt _ _ _ _ ?_)
  refine wpAny_newFunctionEnv_cells fs.kind (fun ⟨n, v⟩ hy => (fs.par n (List.of_mem_zip hy).1).imp id fun q => ⟨q, PySem.W.cellsFrom_some _ _ _ (.inl q)⟩) fun env he s1 x => ?_
  subst he
  refine ⟨nol.keeps x.toInCall.keep, codeAny_func ?_⟩
  obtain ⟨t, ht, hq⟩ := hb Ar up st Hh vs Qq Ex hgd (rm.deeper _) hsp
  have I : Inv (cxOf CX0 P w K mg base N ql sco ad cdv Ar up st Hh Ex) [] (L2.start N vs) Hh s1 := inv_start fs rm.hd en hlen rel x
  refine wpAny_mono (ht.nox.run [] s1 (L2.start N vs) Hh _ I hq) (fun fl s' hs => ?_) fun e s' hs => hs
  cases fl with
  | ret u => obtain ⟨v, σ', H', J, rv, q⟩ := hs; exact ⟨v, H', J.os, J.bare, J.base, J.hok, rv, q⟩
  | next => obtain ⟨σ', H', J, q⟩ := hs; exact ⟨V.non, H', J.os, J.bare, J.base, J.hok, rfl, q⟩
  | brk => obtain ⟨_, _, _, q⟩ := hs; exact False.elim q
  | cont => obtain ⟨_, _, _, q⟩ := hs; exact False.elim q
theorem TReps.split : ∀ {ts : List T} {vs : List V} {fq : List Addr}, TReps K F H vs ts fq → ∃ fs : List (List Addr), fq = fs.flatten ∧ fs.length = ts.length ∧ ∀ (i : Nat) t v f, ts[i]? = some t → vs[i]? = some v → fs[i]? = some f → TRep K F H v t f
  | [], [], fq, h => ⟨[], by simp only [TReps] at h; subst h; rfl, rfl, fun i t v f e => by simp at e⟩
  | [], _ :: _, _, h => by simp only [TReps] at h
  | _ :: _, [], _, h => by simp only [TReps] at h
  | t :: ts, v :: vs, fq, h => by
    simp only [TReps] at h
    obtain ⟨f1, f2, rfl, h1, h2⟩ := h
    obtain ⟨fs, e1, e2, e3⟩ := TReps.split h2
    refine ⟨f1 :: fs, by rw [e1]; rfl, by simp [e2], fun i t' v' f' q1 q2 q3 => ?_⟩
    cases i with
    | zero => simp at q1 q2 q3; subst q1 q2 q3; exact h1
    | succ i => exact e3 i t' v' f' (by simpa using q1) (by simpa using q2) (by simpa using q3)
theorem flat_nodup : ∀ {fs : List (List Addr)}, fs.flatten.Nodup → (∀ (i : Nat) f, fs[i]? = some f → f.Nodup) ∧ ∀ (i j : Nat) f g b, fs[i]? = some f → fs[j]? = some g → b ∈ f → b ∈ g → i = j
  | [], _ => ⟨fun i f e => by simp at e, fun i j f g b e => by simp at e⟩
  | f0 :: fs, h => by
    have h : (f0 ++ fs.flatten).Nodup := h
    obtain ⟨n1, n2, n3⟩ := List.nodup_append.mp h
    obtain ⟨a1, a2⟩ := flat_nodup n2
    refine ⟨fun i f e => ?_, fun i j f g b e1 e2 hb hc => ?_⟩
    · cases i with
      | zero => simp at e; subst e; exact n1
      | succ i => exact a1 i f (by simpa using e)
    · cases i with
      | zero =>
        cases j with
        | zero => rfl
        | succ j =>
          simp at e1 e2; subst e1
          exact absurd rfl (n3 b hb b (List.mem_flatten.mpr ⟨g, List.mem_of_getElem? e2, hc⟩))
      | succ i =>
        cases j with
        | zero =>
          simp at e1 e2; subst e2
          exact absurd rfl (n3 b hc b (List.mem_flatten.mpr ⟨f, List.mem_of_getElem? e1, hb⟩))
        | succ j => rw [a2 i j f g b (by simpa using e1) (by simpa using e2) hb hc]
theorem start_SR {io : List Bool} {ts : List T} {vs : List V} {fq : List Addr} {N : List Str} {iov : Nat → Option V} (hr : TReps K F H vs ts fq) (nd : fq.Nodup) (hl : ts.length = io.length) (hn : ts.length ≤ N.length) (hiov : ∀ i, iov i = vs[i]?) (ht : ∀ b, F b → H b ≠ none) :
    ∃ fp0 : Fp, SR K iov [] F H (L2.start N vs) (start0 io ts ++ List.replicate (N.length - ts.length) .no) fp0 ∧ ∀ i b, b ∈ fp0 i → b ∈ fq := by
  obtain ⟨fs, rfl, e2, e3⟩ := hr.split
  obtain ⟨a1, a2⟩ := flat_nodup nd
  have hv := hr.len
  have l0 : (start0 io ts).length = ts.length := by simp [start0, hl]
  have val : ∀ {i : Nat} {v : V}, i < ts.length → vs[i]? = some v → (L2.start N vs)[i]? = some (some v) := fun {i v} hi e => by
    unfold L2.start
    rw [List.getElem?_append_left (by simp [hv, hi]), List.getElem?_map, e]; rfl
  refine ⟨fun i => (fs[i]?).getD [], ⟨by simp [l0, L2.start, hv], fun i s e _ => ?_, fun i h => (nomatch h), fun i e => ?_, fun i => ?_, fun i j b hb hc => ?_, ht⟩, fun i b hb => ?_⟩
  · by_cases hi : i < ts.length
    · rw [List.getElem?_append_left (by rw [l0]; exact hi)] at e
      unfold start0 at e
      rw [List.getElem?_map] at e
      have z1 : ts[i]? = some ts[i] := List.getElem?_eq_getElem hi
      have z2 : io[i]? = some (io[i]'(by omega)) := List.getElem?_eq_getElem _
      have z3 : vs[i]? = some (vs[i]'(by omega)) := List.getElem?_eq_getElem _
      have z4 : fs[i]? = some (fs[i]'(by omega)) := List.getElem?_eq_getElem _
      have z5 : (List.zip io ts)[i]? = some (io[i]'(by omega), ts[i]) := by
        rw [List.getElem?_zip_eq_some]; exact ⟨z2, z1⟩
      rw [z5] at e
      simp only [Option.map_some, Option.some.injEq] at e
      have r := e3 i _ _ _ z1 z3 z4
      split at e
      · subst e
        exact ⟨_, val hi z3, by rw [hiov, z3], by simp only [z4, Option.getD_some]; exact r⟩
      · subst e
        exact ⟨_, val hi z3, by simp only [z4, Option.getD_some]; exact r⟩
    · rw [List.getElem?_append_right (by rw [l0]; omega), List.getElem?_replicate] at e
      split at e
      · cases e
        show (fs[i]?).getD [] = []
        rw [List.getElem?_eq_none (by omega)]; rfl
      · cases e
  · show (fs[i]?).getD [] = []
    have : ts.length ≤ i := by
      have := List.getElem?_eq_none_iff.mp e
      simp [l0] at this
      omega
    rw [List.getElem?_eq_none (by omega)]; rfl
  · show ((fs[i]?).getD []).Nodup
    cases q : fs[i]? with
    | none => exact List.nodup_nil
    | some f => exact a1 i f q
  · cases q : fs[i]? with
    | none => simp [q] at hb
    | some f =>
      cases q2 : fs[j]? with
      | none => simp [q2] at hc
      | some g =>
        simp only [q, q2, Option.getD_some] at hb hc
        exact a2 i j f g b q q2 hb hc
  · cases q : fs[i]? with
    | none => simp [q] at hb
    | some f =>
      simp only [q, Option.getD_some] at hb
      exact List.mem_flatten.mpr ⟨f, List.mem_of_getElem? q, hb⟩
theorem io_outs {iov : Nat → Option V} (S : SR K iov [] F H σ ρ fp) : ∀ {io : List Bool} {vs : List V} {ios : List T} {i0 : Nat}, io.length = vs.length → (∀ n, vs[n]? = iov (i0 + n) ∨ io.length ≤ n) → ioOuts ρ io i0 = some ios → ∃ fpi, TReps K F H (pick io vs) ios fpi ∧ fpi.Nodup ∧ ∀ b ∈ fpi, ∃ i, i0 ≤ i ∧ b ∈ fp i
  | [], [], ios, i0, _, _, h => by cases h; exact ⟨[], by simp only [pick, TReps], List.nodup_nil, fun _ h => (nomatch h)⟩
  | [], _ :: _, _, _, h, _, _ => by simp at h
  | _ :: _, [], _, _, h, _, _ => by simp at h
  | true :: io, v :: vs, ios, i0, hl, hv, h => by
    unfold ioOuts at h
    split at h
    · rename_i t et
      obtain ⟨ts, e1, rfl⟩ := Option.map_eq_some_iff.mp h
      obtain ⟨fpi, r, nd, sub⟩ := io_outs S (vs := vs) (i0 := i0 + 1) (by simpa using hl) (fun n => by
        have := hv (n + 1)
        simpa [Nat.add_assoc, Nat.add_comm 1 n] using this) e1
      obtain ⟨v', h1, h2, h3⟩ := S.slot i0 _ et (by simp)
      have hv0 : iov i0 = some v := by
        have := hv 0
        simp at this
        exact this.symm
      rw [hv0] at h2; cases h2
      refine ⟨fp i0 ++ fpi, ?_, List.nodup_append.mpr ⟨S.nod i0, nd, fun a ha b hb e => ?_⟩, fun b hb => ?_⟩
      · show TReps K F H (v :: pick io vs) (t :: ts) _
        simp only [TReps]
        exact ⟨_, _, rfl, h3, r⟩
      · subst e
        obtain ⟨i, hi, z⟩ := sub a hb
        have := S.dis i0 i a ha z
        omega
      · rcases List.mem_append.mp hb with hb | hb
        · exact ⟨i0, Nat.le_refl _, hb⟩
        · obtain ⟨i, hi, z⟩ := sub b hb
          exact ⟨i, by omega, z⟩
    · cases h
  | false :: io, v :: vs, ios, i0, hl, hv, h => by
    obtain ⟨fpi, r, nd, sub⟩ := io_outs S (vs := vs) (i0 := i0 + 1) (by simpa using hl) (fun n => by
        have := hv (n + 1)
        simpa [Nat.add_assoc, Nat.add_comm 1 n] using this) (show ioOuts ρ io (i0 + 1) = some ios from h)
    exact ⟨fpi, r, nd, fun b hb => (sub b hb).elim fun i ⟨hi, z⟩ => ⟨i, by omega, z⟩⟩
structure Cl (P : Program) (w : World) (K : PySem.W.Frag) (mg : Str → Option Value) (base : Heap) (lv : Nat) (nm : Str) (ps : List Str) (kb : Kbs) (f : Fn) : Prop where
  ex : (∃ (a : Addr) (fd : FuncData), mg nm = some (.ref a) ∧ PySem.W.keepIn K (.ref a) = true ∧ BindsAll fd ps kb ∧ FnG P w K mg base lv a fd ps (spF K f)) ∨ (∃ l, lv = l + 1 ∧ kb = [] ∧ ClsAt P w K mg base l nm ps f)
  io : f.io.length = ps.length
theorem ClsAt.mono {i j : Nat} {nm : Str} {ps : List Str} {f : Fn} (c : ClsAt P w K mg base i nm ps f) (h : i ≤ j) : ClsAt P w K mg base j nm ps f := by
  obtain ⟨C, fi, fd, s0, fs, h1, h2, h3, h4, h5⟩ := c.ex
  exact ⟨C, fi, fd, s0, fs, h1, h2, h3, h4.mono h, h5⟩
theorem Cl.mono {i j : Nat} {nm : Str} {ps : List Str} {kb : Kbs} {f : Fn} (c : Cl P w K mg base i nm ps kb f) (h : i ≤ j) : Cl P w K mg base j nm ps kb f := by
  rcases c.ex with ⟨a, fd, h1, h2, h3, h4⟩ | ⟨l, rfl, hk, hc⟩
  · exact ⟨.inl ⟨a, fd, h1, h2, h3, h4.mono h⟩, c.io⟩
  · exact ⟨.inr ⟨j - 1, by omega, hk, hc.mono (by omega)⟩, c.io⟩
def GlK (K : PySem.W.Frag) (mg : Str → Option Value) (nm : Str) (d : D) : Prop := ∃ u v, mg nm = some u ∧ RelV v u ∧ RepD K (fun _ => False) (fun _ => none) v d
structure Ctx (P : Program) (w : World) (K : PySem.W.Frag) (mg : Str → Option Value) (base : Heap) (lv : Nat) (sx : Sx) (G : Gam) : Prop where
  blt : ∀ nm ∈ sx.blts, mg nm = none
  fn : ∀ (k : Nat) (f : Fn) (nm : Str) (ps : List Str) (kb : Kbs), G.fns[k]? = some f → sx.fns[k]? = some (nm, ps, kb) → Cl P w K mg base lv nm ps kb f
  gl : ∀ (g : Nat) (d : D) (nm : Str), G.gls[g]? = some d → sx.gls[g]? = some nm → GlK K mg nm d
theorem def_G {lv : Nat} {sx : Sx} {G : Gam} {nm ql : Str} {st : Stmt} {ad : Addr} {fd : FuncData} {ps : List Str} {io : List Bool} {body : Ss} (F : Fun K nm ql st ad fd) (fs : FnScope sx.N ps (defScope st)) (c : Ctx P w K mg base lv sx G) (hio : io.length = ps.length)
    (hchk : chkSs sx (defScope st) (fun _ => true) body (defBody st) = true) : FnG P w K mg base (lv + 1) ad fd ps (spF K ⟨io, runDef G io sx.N.length body⟩) := by
  obtain ⟨oc, od, d2, d3, d4, an, cdv, d5, osl, rfl, lk, hcd⟩ := F.ex
  have hpl : ps.length ≤ sx.N.length := by have := congrArg List.length fs.pre; rw [List.length_take] at this; omega
  refine fnG_of lk hcd fs (fun vs H Q E h => h.1.trans hio) fun Ar up s Hh vs Qq Ex hgd rm hsp => ?_
  obtain ⟨hvl, F0, ts, fpa, t, ios, hr, hnd, htr, hrun, kk⟩ := hsp
  have hrun : runDef G io sx.N.length body ts = some (t, ios) := hrun
  have hvl : vs.length = io.length := hvl
  unfold runDef at hrun
  split at hrun
  case isFalse => cases hrun
  rename_i hl
  let X : Cx := (cxOf CX0 P w K mg base sx.N ql (defScope st) ad cdv Ar up s Hh Ex).nox
  have ok : StOk sx G (defScope st) (fun _ => true) X := by
    refine ⟨⟨rfl, fs.nd, rfl, rfl, ?_, hgd, c.blt, fun k f nm ps' kb h1 h2 => ?_, fun g d nm h1 h2 => c.gl g d nm h1 h2, fun _ _ => rfl⟩, PassesOwn.never⟩
    · have := rm.un
      show (Ar.deeper _).units + 65 < cLine
      omega
    · rcases (c.fn k f nm ps' kb h1 h2).ex with ⟨a', fd', q1, q2, q3, q4⟩ | ⟨l, e, hk, hc⟩
      · exact ⟨.inl ⟨a', fd', lv, q1, q2, rm, q3, q4⟩, (c.fn k f nm ps' kb h1 h2).io⟩
      · exact ⟨.inr ⟨l, by rw [← e]; exact rm, hk, hc⟩, (c.fn k f nm ps' kb h1 h2).io⟩
  obtain ⟨fp0, S0, sub0⟩ := start_SR (N := sx.N) (iov := fun i => vs[i]?) hr hnd hl (by rw [hl, hio]; exact hpl) (fun _ => rfl) htr
  have fin : ∀ {v : V} {σ' : L2.St} {ρ' : Env} {H' : Hp} {F' : Addr → Prop} {fp' : Fp} {fpv : List Addr} {t' : T}, SR K (fun i => vs[i]?) [] F' H' σ' ρ' fp' → TRep K F' H' v t' fpv → Post F0 Hh fp0 F' H' fp' fpv true → (ioOuts ρ' io 0).map (fun os => (t', os)) = some (t, ios) → Qq v H' := by
    intro v σ' ρ' H' F' fp' fpv t' S' tr P' ho
    obtain ⟨os, e1, e2⟩ := Option.map_eq_some_iff.mp ho
    cases e2
    obtain ⟨fpi, ri, ni, si⟩ := io_outs S' (vs := vs) (i0 := 0) hvl.symm (fun n => .inl (by simp)) e1
    have fr : ∀ b ∈ fpv ++ fpi, b ∈ fpa ∨ Hh b = none := fun b hb => by
      rcases List.mem_append.mp hb with hb | hb
      · exact (P'.freshv b hb).imp (fun ⟨j, z⟩ => sub0 j b z) id
      · obtain ⟨i, _, z⟩ := si b hb
        exact (P'.fresh i b z).imp (fun ⟨j, z⟩ => sub0 j b z) id
    refine kk v H' F' fpv fpi P'.sub (fun b hb => (P'.new b hb).imp id fun z => z.imp (fun ⟨i, z⟩ => sub0 i b z) id) (fun b o e hn => P'.keep b o e (.inr fun i hi => hn (sub0 i b hi))) P'.there S'.trk tr ri (List.nodup_append.mpr ⟨P'.nodv, ni, fun a ha b hb e => ?_⟩) fr
    subst e
    obtain ⟨i, _, z⟩ := si a hb
    exact P'.disv i a z ha
  split at hrun
  · rename_i t' ρ' e1
    refine ⟨_, sndSs (X := X) (iov := fun i => vs[i]?) ok body hchk e1, F0, fp0, ?_, fun v σ' H' F' fp' fpv S' tr P' => fin S' tr P' hrun⟩
    exact S0
  · rename_i ρ' e1
    refine ⟨_, sndSs (X := X) (iov := fun i => vs[i]?) ok body hchk e1, F0, fp0, ?_, fun σ' H' F' fp' S' P' => fin (fpv := []) S' (by simp only [TRep, RepD, and_self]) P' hrun⟩
    exact S0
  · cases hrun
def chkInit (s0 : Str) : List Str → List Str → List Stmt → Bool
  | [], [], [] => true
  | f :: fs, p :: ps, .Assign [.Attribute (.Name s _) g _] (.Name q _) _ :: st => decide (s = s0) && decide (g = f) && decide (q = p) && nmOk p && chkInit s0 fs ps st
  | _, _, _ => false
end
end Mv

end
section
namespace Mv
open PySem PySem.Spec PyProof.Rows L2
theorem law_callG {P : Program} {w : World} {K : PySem.W.Frag} {mg mb : Str → Option Value} {lv : Nat} {fa a : Addr} {fd : FuncData} {x : Str} {f : Fn} {s₁ : Shared} {us : List Value} {ns : List Int}
    (kx : K.In s₁.heap) (hm : s₁.heap.Ns mainGlobals mg) (hB : s₁.heap.Ns builtinsNs mb) (hbo : ∀ x : Str, x ≠ "__name__" → mb x = bootBuiltins x) (hno : s₁.heap.NoLimit) (hgen : s₁.gens = #[])
    (hob : s₁.heap.get? a = some { cls := .type "list", data := .seq us.toArray }) (hin : IntsAre us ns) (hle : ns.length ≤ sizeLine) (rm : Room lv callerA)
    (G : ∀ base : Heap, K.In base → base.Ns mainGlobals mg → FnG P w K mg base lv fa fd [x] (spF K f)) (hbi : ∀ (s : Shared) (u : Value), BindsTo s fd ⟨[u], []⟩ [(x, u)]) (hio : f.io = [false])
    (hrun : f.run [.fz (.list (ns.map D.int))] = some (.fz (.bool true), [])) :
    codeAny (model P w) callerA (.call (.ref fa) ⟨[.ref a], []⟩) (fun r s' => r = .ok (.ret (.bool true)) ∧ OldK s₁.heap s'.heap ∧ s'.os = s₁.os ∧ AllBare s'.gens) s₁ := by
  have vi := vals_ints hin
  have li := hin.length
  have main : ∀ H : Hp, Only H → LstF K (fun b => H b ≠ none) H a (ns.map V.int) → HOk P w H s₁.heap → (∀ b, H b ≠ none → b = a) → (H a ≠ none → K.lookup a = none) →
      codeAny (model P w) callerA (.call (.ref fa) ⟨[.ref a], []⟩) (fun r s' => r = .ok (.ret (.bool true)) ∧ OldK s₁.heap s'.heap ∧ s'.os = s₁.os ∧ AllBare s'.gens) s₁ := by
    intro H onl ls hk only nk
    have down : ∀ {b : Addr} {o : Obj}, s₁.heap.get? b = some o → H b = none → (hidT s₁.heap H).get? b = some o := fun e n => hidT_get e n
    have away : ∀ {b : Addr} {o : Obj} {es : Array DictEntry} {ep : Nat}, s₁.heap.get? b = some o → o.data = .dict es ep → H b = none := fun {b o es ep} e d => by
      cases q : H b with
      | none => rfl
      | some u =>
        obtain rfl := only b (by rw [q]; simp)
        rw [hob] at e; cases e
        exact absurd (show Data.seq us.toArray _ = Data.dict es ep from d) (by simp)
    have nsD : ∀ {b : Addr} {m : Str → Option Value}, s₁.heap.Ns b m → (hidT s₁.heap H).Ns b m := fun {b m} ⟨o, es, ep, e, d, r⟩ => ⟨o, es, ep, down e (away e d), d, r⟩
    have kD : K.In (hidT s₁.heap H) := fun b o e => down (kx b o e) (by
      cases q : H b with
      | none => rfl
      | some u =>
        obtain rfl := only b (by rw [q]; simp)
        rw [nk (by rw [q]; simp)] at e; cases e)
    have md : Mod K mg (hidT s₁.heap H) := ⟨kD, nsD hm, ⟨mb, nsD hB, hbo⟩, let ⟨mc, h1, h2⟩ := hno; ⟨mc, nsD h1, h2⟩⟩
    have en : Env0 P w K mg (hidT s₁.heap H) callerA [] s₁ H := ⟨rfl, md, fun b o e => of_hidT e, Nat.le_of_eq (hidT_size _ _), trivial, fun b hb => absurd (show b ∈ ([] : List Addr) from hb) (by simp), hk, .of_eq hgen⟩
    have reps : ∀ (l : List Int), RepDs K (fun b => H b ≠ none) H (l.map V.int) (l.map D.int) := fun l => by
      induction l with
      | nil => simp only [List.map_nil, RepDs]
      | cons z l ih => simp only [List.map_cons, RepDs, RepD, true_and]; exact ih
    have hsp : spF K f [.ref a] H (fun v _ => v = .bl true) (fun _ _ _ => False) := by
      refine ⟨by rw [hio]; rfl, fun b => H b ≠ none, [.fz (.list (ns.map D.int))], [], _, _, ?_, List.nodup_nil, fun b h => h, hrun, fun v H' F' fpv fpi _ _ _ _ _ tv _ _ _ => trep_bool tv⟩
      simp only [TReps, TRep, RepD]
      exact ⟨[], [], rfl, ⟨rfl, a, _, rfl, ls, reps ns⟩, rfl⟩
    refine codeAny_mono ((G _ kD (nsD hm)).run callerA [] s₁ H ⟨[.ref a], []⟩ [.ref a] [.ref a] _ _ rfl rm en (hbi s₁ (.ref a)) (.cons rfl .nil) hsp) fun r s' h => ?_
    cases r with
    | error e => exact False.elim h
    | ok fl =>
      cases fl with
      | next => exact False.elim h
      | brk => exact False.elim h
      | cont => exact False.elim h
      | ret u =>
        obtain ⟨v, H', os, br, un, ok', rl, e1⟩ := h
        have e1 : v = .bl true := e1
        subst e1
        obtain rfl : u = Value.bool true := rl
        refine ⟨rfl, OldK.of_keep fun b o e => ?_, os, br⟩
        cases q : H b with
        | none => exact un.keep b o e q (by intro z; exact absurd (show b ∈ ([] : List Addr) from z) (by simp)) (by simp)
        | some u =>
          rcases onl b with z | ⟨ob, xs, z⟩
          · rw [q] at z; cases z
          · obtain ⟨e2, _⟩ := hk b _ z
            obtain ⟨e3, _⟩ := ok' b _ (un.frzs b ob _ z)
            rw [e] at e2; cases e2
            exact e3
  cases hka : K.lookup a with
  | some o =>
    have e := kx a o hka
    rw [hob] at e
    cases e
    exact main (fun _ => none) (fun _ => .inl rfl) (.inr ⟨_, us.toArray, _, hka, rfl, rfl, rfl, by rw [List.size_toArray, li]; exact hle, by simpa using vi⟩) (fun b u z => nomatch z) (fun b z => absurd rfl z) fun z => absurd rfl z
  | none =>
    have at_a : ∀ {b : Addr} {u : HO}, (if b = a then some (HO.frz { cls := .type "list", data := .seq us.toArray } (.lst (ns.map V.int))) else none) = some u → b = a ∧ u = .frz { cls := .type "list", data := .seq us.toArray } (.lst (ns.map V.int)) := fun {b u} z => by
      split at z
      · rename_i hb; cases z; exact ⟨hb, rfl⟩
      · cases z
    refine main (fun b => if b = a then some (.frz { cls := .type "list", data := .seq us.toArray } (.lst (ns.map V.int))) else none) (fun b => ?_) (.inl ⟨by simp, .inr ⟨_, if_pos rfl⟩⟩) (fun b u z => ?_) (fun b z => ?_) fun _ => hka
    · by_cases hb : b = a
      · exact .inr ⟨_, _, if_pos hb⟩
      · exact .inl (if_neg hb)
    · obtain ⟨rfl, rfl⟩ := at_a z
      exact ⟨hob, by rw [List.length_map]; exact hle, us, _, vi, hob⟩
    · cases q : (if b = a then some (HO.frz { cls := .type "list", data := .seq us.toArray } (.lst (ns.map V.int))) else none) with
      | none => exact absurd q z
      | some u => exact (at_a q).1
theorem walkG {l : PySem.W.OpenLaw} {n lv : Nat} {q : Program} {loose : List Str} {XP : (Str → Option Value) → Heap → Prop} {YP : World → Heap → Prop} {d : DefRec} {K : Params → PySem.W.Frag} {x : Str} {f : Fn}
    (hn : l.most = some n) (hn2 : n ≤ sizeLine) (hdf : d.params.defaults = []) (rm : Room lv callerA) (hY : ∀ (w : World) (h : Heap), YP w h → (K w.params).In h)
    (F : ∀ (w : World) (mg : Str → Option Value) (fa : Addr) (h : Heap), (K w.params).In h → h.Ns mainGlobals mg → mg d.name = some (.ref fa) →
      ∃ fd : FuncData, (∀ (s : Shared) (u : Value), BindsTo s fd ⟨[u], []⟩ [(x, u)]) ∧ ∀ base : Heap, (K w.params).In base → base.Ns mainGlobals mg → FnG l.prog w (K w.params) mg base lv fa fd [x] (spF (K w.params) f))
    (hio : f.io = [false]) (hrun : ∀ ns : List Int, ns.length ≤ n → (∀ z ∈ ns, Builtin.Int.intBits z ≤ 1048576) → f.run [.fz (.list (ns.map D.int))] = some (.fz (.bool true), [])) :
    PySem.W.WalkO q loose XP YP l.row.toRowW d [] (fun f vs => PySem.call f vs) := by
  refine Att.attach_callB hn hdf fun w s₀ s₁ mg mb fa o pm cd doc a vs ns G Y ho hd hcd hmg hobj hints hlen hbits hg => ?_
  have kx := hY w _ Y
  obtain ⟨fd, hb, hF⟩ := F w mg fa _ kx G.T.g hmg
  exact law_callG kx G.T.g G.T.b G.T.builtins G.T.nolimit hg hobj hints (Nat.le_trans hlen hn2) rm hF hb hio (hrun ns hlen hbits)
end Mv

end
section
namespace Mv
open PySem L2
def oQ {α : Type} (o : Option α) (Q : α → Prop) : Prop := match o with
  | some a => Q a
  | none => False
theorem oQ_ok {α : Type} {o : Option α} {Q : α → Prop} (h : oQ o Q) : ∃ a, o = some a ∧ Q a := by
  cases o with
  | none => exact h.elim
  | some a => exact ⟨a, rfl, h⟩
def fD (d : D) (Q : D → Prop) : Prop := match d with
  | .none => Q .none | .bool b => Q (.bool b) | .int i => Q (.int i) | .str s => Q (.str s) | .list l => Q (.list l) | .tup l => Q (.tup l) | .dict a b => Q (.dict a b) | .ins a b => Q (.ins a b) | .ltp a => Q (.ltp a)
theorem fD_el {d : D} {Q : D → Prop} (h : fD d Q) : Q d := by cases d <;> exact h
theorem fD_in {d : D} {Q : D → Prop} (h : Q d) : fD d Q := by cases d <;> exact h
mutual
def fT : T → (T → Prop) → Prop
  | .fz d, Q => fD d fun d => Q (.fz d)
  | .lst ts, Q => fTs ts fun ts => Q (.lst ts)
  | .tup ts, Q => fTs ts fun ts => Q (.tup ts)
  | .dct ks ts, Q => Q (.dct ks ts)
def fTs : List T → (List T → Prop) → Prop
  | [], Q => Q []
  | t :: ts, Q => fT t fun t => fTs ts fun ts => Q (t :: ts)
end
mutual
theorem fT_el : ∀ (t : T) {Q : T → Prop}, fT t Q → Q t
  | .fz d, Q, h => by simp only [fT] at h; exact fD_el h
  | .lst ts, Q, h => by simp only [fT] at h; exact fTs_el ts h
  | .tup ts, Q, h => by simp only [fT] at h; exact fTs_el ts h
  | .dct ks ts, Q, h => by simpa only [fT] using h
theorem fTs_el : ∀ (ts : List T) {Q : List T → Prop}, fTs ts Q → Q ts
  | [], Q, h => by simpa only [fTs] using h
  | t :: ts, Q, h => by simp only [fTs] at h; exact fTs_el ts (fT_el t h)
end
mutual
theorem fT_in : ∀ (t : T) {Q : T → Prop}, Q t → fT t Q
  | .fz d, Q, h => by simp only [fT]; exact fD_in h
  | .lst ts, Q, h => by simp only [fT]; exact fTs_in ts h
  | .tup ts, Q, h => by simp only [fT]; exact fTs_in ts h
  | .dct ks ts, Q, h => by simpa only [fT] using h
theorem fTs_in : ∀ (ts : List T) {Q : List T → Prop}, Q ts → fTs ts Q
  | [], Q, h => by simpa only [fTs] using h
  | t :: ts, Q, h => by simp only [fTs]; exact fT_in t (fTs_in ts h)
end
def fS (s : Slot) (Q : Slot → Prop) : Prop := match s with
  | .no => Q .no | .ow t => fT t fun t => Q (.ow t) | .io t => fT t fun t => Q (.io t) | .al i k => Q (.al i k) | .lk => Q .lk
theorem fS_el {s : Slot} {Q : Slot → Prop} (h : fS s Q) : Q s := by
  cases s with
  | no => exact h
  | ow t => exact fT_el t (Q := fun t => Q (.ow t)) h
  | io t => exact fT_el t (Q := fun t => Q (.io t)) h
  | al i k => exact h
  | lk => exact h
theorem fS_in {s : Slot} {Q : Slot → Prop} (h : Q s) : fS s Q := by
  cases s with
  | no => exact h
  | ow t => exact fT_in t (Q := fun t => Q (.ow t)) h
  | io t => exact fT_in t (Q := fun t => Q (.io t)) h
  | al i k => exact h
  | lk => exact h
def fE : Env → (Env → Prop) → Prop
  | [], Q => Q []
  | s :: ρ, Q => fS s fun s => fE ρ fun ρ => Q (s :: ρ)
theorem fE_el : ∀ (ρ : Env) {Q : Env → Prop}, fE ρ Q → Q ρ
  | [], Q, h => h
  | s :: ρ, Q, h => fE_el ρ (Q := fun ρ => Q (s :: ρ)) (fS_el (s := s) (Q := fun s => fE ρ fun ρ => Q (s :: ρ)) h)
theorem fE_in : ∀ (ρ : Env) {Q : Env → Prop}, Q ρ → fE ρ Q
  | [], Q, h => h
  | s :: ρ, Q, h => fS_in (Q := fun s => fE ρ fun ρ => Q (s :: ρ)) (fE_in ρ (Q := fun ρ => Q (s :: ρ)) h)
def vT (v : Val) (K : T → Prop) : Prop := match v with
  | .t t => K t
  | _ => False
def vInt (v : Val) (K : Int → Prop) : Prop := match v with
  | .t (.fz (.int i)) => K i
  | _ => False
def vBool (v : Val) (K : Bool → Prop) : Prop := match v with
  | .t (.fz (.bool i)) => K i
  | _ => False
def vFz (v : Val) (K : D → Prop) : Prop := match v with
  | .t (.fz d) => K d
  | _ => False
def vPt (v : Val) (K : Nat → Option Nat → Prop) : Prop := match v with
  | .pt j k => K j k
  | _ => False
def vTup (v : Val) (K : List T → Prop) : Prop := match v with
  | .t (.fz (.tup ds)) => K (fzs ds)
  | .t (.fz (.ltp ds)) => K (fzs ds)
  | .t (.tup ts) => K ts
  | _ => False
def dSeq (d : D) (K : List D → Prop) : Prop := match d with
  | .list ds => K ds
  | .tup ds => K ds
  | _ => False
def dList (d : D) (K : List D → Prop) : Prop := match d with
  | .list ds => K ds
  | _ => False
theorem vT_el {v : Val} {K} (h : vT v K) : ∃ t, v = .t t ∧ K t := by
  cases v with
  | t t => exact ⟨t, rfl, h⟩
  | pt j k => exact h.elim
theorem vPt_el {v : Val} {K} (h : vPt v K) : ∃ j k, v = .pt j k ∧ K j k := by
  cases v with
  | t t => exact h.elim
  | pt j k => exact ⟨j, k, rfl, h⟩
theorem vInt_el {v : Val} {K} (h : vInt v K) : ∃ i, v = .t (.fz (.int i)) ∧ K i := by
  unfold vInt at h; split at h
  · exact ⟨_, rfl, h⟩
  · exact h.elim
theorem vBool_el {v : Val} {K} (h : vBool v K) : ∃ i, v = .t (.fz (.bool i)) ∧ K i := by
  unfold vBool at h; split at h
  · exact ⟨_, rfl, h⟩
  · exact h.elim
theorem vFz_el {v : Val} {K} (h : vFz v K) : ∃ d, v = .t (.fz d) ∧ K d := by
  unfold vFz at h; split at h
  · exact ⟨_, rfl, h⟩
  · exact h.elim
theorem vTup_el {v : Val} {K} (h : vTup v K) : (∃ ds, v = .t (.fz (.tup ds)) ∧ K (fzs ds)) ∨ (∃ ds, v = .t (.fz (.ltp ds)) ∧ K (fzs ds)) ∨ ∃ ts, v = .t (.tup ts) ∧ K ts := by
  unfold vTup at h; split at h
  · exact .inl ⟨_, rfl, h⟩
  · exact .inr (.inl ⟨_, rfl, h⟩)
  · exact .inr (.inr ⟨_, rfl, h⟩)
  · exact h.elim
def IdxOk (va : Val) (ρ1 ρ2 : Env) (w : Bool) (d : D) (ds : List D) : Prop :=
  (va = .t (.fz (.tup ds)) ∧ (d.shp 60 && D.shps 60 ds) = true) ∨ ((stands va w && ((resolve ρ1 va).bind T.flat).isSome) = true ∧ (resolve ρ2 va).bind T.flat = some ds ∧ ((flatD d && ds.all flatD) || (d.shp 60 && D.shps 60 ds)) = true)
theorem dSeq_el {d : D} {K} (h : dSeq d K) : ∃ ds, (d = .list ds ∨ d = .tup ds) ∧ K ds := by
  unfold dSeq at h; split at h
  · exact ⟨_, .inl rfl, h⟩
  · exact ⟨_, .inr rfl, h⟩
  · exact h.elim
theorem dList_el {d : D} {K} (h : dList d K) : ∃ ds, d = .list ds ∧ K ds := by
  unfold dList at h; split at h
  · exact ⟨_, rfl, h⟩
  · exact h.elim
def wIx (ρ : Env) (va : Val) (x vi : T) (K : Val → Prop) : Prop := match dictOf x with
  | some (ks, ts) => ∃ d, dGet ks ts vi = some d ∧ K (.t (.fz d))
  | none => ∃ v, ixVal ρ va vi = some v ∧ K v
def seqK (w : Env → (Out → Prop) → Prop) (Q : Out → Prop) (o : Out) : Prop := match o with
  | .nx ρ1 => fE ρ1 fun ρ1 => w ρ1 Q
  | o => Q o
structure LoopF (f : Env → D → Option Out) (ρ : Env) (ds : List D) (Q : Out → Prop) : Prop where
  h : ∃ o, forLoop f ρ ds = some o ∧ Q o
structure LoopW (t : Env → Option (Bool × Env)) (f : Env → Option Out) (n : Nat) (ρ : Env) (Q : Out → Prop) : Prop where
  h : ∃ o, whLoop t f n ρ = some o ∧ Q o
structure LoopC (f : Env → D → Option (Option T × Env)) (own : List Nat) (ρ : Env) (ds : List D) (Q : List T → Env → Prop) : Prop where
  h : ∃ ts ρ5, lcLoop f own ρ ds [] = some (ts, ρ5) ∧ Q ts ρ5
def wBin (op : Operator) (x y : T) (Q : T → Prop) : Prop := match op, x, y with
  | .Add, .fz (.int i), .fz (.int j) => Q (.fz (.int (i + j)))
  | .Sub, .fz (.int i), .fz (.int j) => Q (.fz (.int (i - j)))
  | .Mult, .fz (.int i), .fz (.int j) => okI i = true ∧ okI j = true ∧ Q (.fz (.int (i * j)))
  | .FloorDiv, .fz (.int i), .fz (.int j) => 0 < j ∧ okI j = true ∧ Q (.fz (.int (i / j)))
  | .Mod, .fz (.int i), .fz (.int j) => 0 < j ∧ Q (.fz (.int (i % j)))
  | .Pow, .fz (.int i), .fz (.int j) => 0 ≤ j ∧ j ≤ 1000 ∧ okI i = true ∧ Q (.fz (.int (i ^ j.toNat)))
  | op, x, y => ∃ t, Mv.binT op x y = some t ∧ Q t
theorem wBin_ok {op : Operator} {x y : T} {Q : T → Prop} (h : wBin op x y Q) : ∃ t, Mv.binT op x y = some t ∧ Q t := by
  unfold wBin at h
  split at h
  · exact ⟨_, rfl, h⟩
  · exact ⟨_, rfl, h⟩
  · exact ⟨_, by simp only [Mv.binT, mulT, h.1, h.2.1]; rfl, h.2.2⟩
  · exact ⟨_, by simp only [Mv.binT, arT, Mv.intOp, h.2.1, decide_eq_true h.1]; rfl, h.2.2⟩
  · exact ⟨_, by simp only [Mv.binT, arT, Mv.intOp, decide_eq_true h.1]; rfl, h.2⟩
  · exact ⟨_, by simp only [Mv.binT, arT, Mv.intOp, decide_eq_true h.1, decide_eq_true h.2.1, h.2.2.1]; rfl, h.2.2.2⟩
  · exact h
def wCmp (op : CmpOp) (x y : T) (Q : Bool → Prop) : Prop := match op, x, y with
  | .Eq, .fz (.int i), .fz (.int j) => Q (decide (i = j))
  | .NotEq, .fz (.int i), .fz (.int j) => Q (!decide (i = j))
  | .Lt, .fz (.int i), .fz (.int j) => Q (decide (i < j))
  | .LtE, .fz (.int i), .fz (.int j) => Q (decide (i ≤ j))
  | .Gt, .fz (.int i), .fz (.int j) => Q (decide (j < i))
  | .GtE, .fz (.int i), .fz (.int j) => Q (decide (j ≤ i))
  | .Is, x, .fz .none => Q (isNone x)
  | .IsNot, x, .fz .none => Q (!isNone x)
  | op, x, y => ∃ b, cmpT op x y = some b ∧ Q b
theorem deq_int (i j : Int) : deq (.int i) (.int j) = some (decide (i = j)) := by
  simp only [deq, D.shp, Bool.and_self, if_true, D.toPy]
  congr 1
theorem wCmp_ok {op : CmpOp} {x y : T} {Q : Bool → Prop} (h : wCmp op x y Q) : ∃ b, cmpT op x y = some b ∧ Q b := by
  unfold wCmp at h
  split at h
  · exact ⟨_, deq_int _ _, h⟩
  · exact ⟨_, by simp only [cmpT, T.toD, deq_int]; rfl, h⟩
  · exact ⟨_, rfl, h⟩
  · exact ⟨_, rfl, h⟩
  · exact ⟨_, rfl, h⟩
  · exact ⟨_, rfl, h⟩
  · exact ⟨_, rfl, h⟩
  · exact ⟨_, rfl, h⟩
  · exact h
def wBlt (f : Blt) (ts : List T) (Q : T → Prop) : Prop := match f, ts with
  | .len, [.fz (.list ds)] => Q (.fz (.int ds.length))
  | .len, [.fz (.tup ds)] => Q (.fz (.int ds.length))
  | .len, [.lst ts] => Q (.fz (.int ts.length))
  | .abs, [.fz (.int i)] => Q (.fz (.int (if i < 0 then -i else i)))
  | .int, [.fz (.int i)] => Q (.fz (.int i))
  | .int, [.fz (.bool b)] => Q (.fz (.int (if b then 1 else 0)))
  | .max2, [.fz (.int i), .fz (.int j)] => Q (.fz (.int (if j > i then j else i)))
  | .min2, [.fz (.int i), .fz (.int j)] => Q (.fz (.int (if j < i then j else i)))
  | f, ts => ∃ t, appB f ts = some t ∧ Q t
theorem wBlt_ok {f : Blt} {ts : List T} {Q : T → Prop} (h : wBlt f ts Q) : ∃ t, appB f ts = some t ∧ Q t := by
  unfold wBlt at h
  split at h
  · exact ⟨_, rfl, h⟩
  · exact ⟨_, rfl, h⟩
  · exact ⟨_, rfl, h⟩
  · exact ⟨_, rfl, h⟩
  · exact ⟨_, rfl, h⟩
  · exact ⟨_, rfl, h⟩
  · exact ⟨_, rfl, h⟩
  · exact ⟨_, rfl, h⟩
  · exact h
def wCall (f : Fn) (ρ : Env) (vs : List Val) (Q : T → Env → Prop) : Prop := ioOk f.io vs = true ∧ oQ (argTs ρ f.io vs) fun ts => ∃ t ios, f.run ts = some (t, ios) ∧
  ((rdSlots f.io vs).isEmpty || (t.imm && T.imms ios && brOk ρ (rdSlots f.io vs))) = true ∧ oQ (putIo (killAll ρ (ioSlots f.io vs)) f.io vs ios) fun ρ1 => fE ρ1 fun ρ1 => fT t fun t => Q t ρ1
theorem wCall_ok {f : Fn} {ρ : Env} {vs : List Val} {Q : T → Env → Prop} (h : wCall f ρ vs Q) : ∃ t ρ1, callF f ρ vs = some (t, ρ1) ∧ Q t ρ1 := by
  obtain ⟨h1, h2⟩ := h
  obtain ⟨ts, e1, t, ios, e2, h3, h4⟩ := oQ_ok h2
  obtain ⟨ρ1, e3, q⟩ := oQ_ok h4
  exact ⟨t, ρ1, by unfold callF; rw [if_pos h1, e1]; simp only [e2, h3, if_true, e3]; rfl, fT_el t (fE_el ρ1 q)⟩
mutual
def wC (G : Gam) : C → Env → (Val → Env → Prop) → Prop
  | .var i, ρ, Q => oQ (rdName ρ i) fun v => Q v ρ
  | .mv i, ρ, Q => match ρ[i]? with
    | some (.ow t) => Q (.t t) ((kills i .none ρ).set i .no)
    | _ => False
  | .kst d, ρ, Q => Q (.t (.fz d)) ρ
  | .gl g, ρ, Q => oQ G.gls[g]? fun d => Q (.t (.fz d)) ρ
  | .fzv c, ρ, Q => wC G c ρ fun v ρ1 => oQ (fzVal ρ1 v) fun p => Q (.t (.fz p.1.toD)) p.2
  | .tup es, ρ, Q => wCs G es ρ fun vs ρ1 => oQ (fzVals ρ1 vs) fun p => Q (.t (mkTup p.1)) p.2
  | .list es, ρ, Q => wCs G es ρ fun vs ρ1 => oQ (fzVals ρ1 vs) fun p => Q (.t (.lst p.1)) p.2
  | .dict0, ρ, Q => Q (.t (.dct [] [])) ρ
  | .bin op a b, ρ, Q => wC G a ρ fun va ρ1 => wC G b ρ1 fun vb ρ2 => stands va b.wr = true ∧ oQ (resolve ρ2 va) fun x => oQ (resolve ρ2 vb) fun y => wBin op x y fun t => Q (.t t) ρ2
  | .neg a, ρ, Q => wC G a ρ fun v ρ1 => vInt v fun i => Q (.t (.fz (.int (-i)))) ρ1
  | .notv a, ρ, Q => wC G a ρ fun v ρ1 => vBool v fun b => Q (.t (.fz (.bool (!b)))) ρ1
  | .boolop op a b, ρ, Q => wC G a ρ fun v ρ1 => vBool v fun k => (k = decide (op = .And) → wC G b ρ1 Q) ∧ (k = !decide (op = .And) → Q (.t (.fz (.bool (!decide (op = .And))))) ρ1)
  | .cmp op a b, ρ, Q => wC G a ρ fun va ρ1 => wC G b ρ1 fun vb ρ2 => stands va b.wr = true ∧ oQ (resolve ρ2 va) fun x => oQ (resolve ρ2 vb) fun y => wCmp op x y fun k => Q (.t (.fz (.bool k))) ρ2
  | .chain o1 o2 a b c, ρ, Q => wC G a ρ fun va ρ1 => wC G b ρ1 fun vb ρ2 => vT va fun x => vT vb fun y => wCmp o1 x y fun k => (k = false → Q (.t (.fz (.bool false))) ρ2) ∧ (k = true → wC G c ρ2 fun vc ρ3 => vT vc fun z => wCmp o2 y z fun k => Q (.t (.fz (.bool k))) ρ3)
  | .ite c a b, ρ, Q => wT G c ρ fun k ρ1 => (k = true → wC G a ρ1 Q) ∧ (k = false → wC G b ρ1 Q)
  | .ix a i, ρ, Q => wC G a ρ fun va ρ1 => wC G i ρ1 fun vi ρ2 => vT vi fun vi => stands va i.wr = true ∧ oQ (resolve ρ2 va) fun x => wIx ρ2 va x vi fun v => Q v ρ2
  | .sl a lo hi, ρ, Q => wC G a ρ fun va ρ1 => wO G lo ρ1 fun l ρ2 => wO G hi ρ2 fun h ρ3 => stands va (lo.wr || hi.wr) = true ∧ okB l = true ∧ okB h = true ∧ oQ (resolve ρ3 va) fun x => ∃ t, slT x l h = some t ∧ Q (.t t) ρ3
  | .call k es, ρ, Q => wCs G es ρ fun vs ρ1 => oQ G.fns[k]? fun f => wCall f ρ1 vs fun t ρ2 => Q (.t t) ρ2
  | .callk k perm es, ρ, Q => wCs G es ρ fun vs ρ1 => oQ G.fns[k]? fun f => oQ (permV perm vs) fun ws => wCall f ρ1 ws fun t ρ2 => Q (.t t) ρ2
  | .blt f es, ρ, Q => wCs G es ρ fun vs ρ1 => oQ (resolves ρ1 vs) fun ts => wBlt f ts fun t => Q (.t t) ρ1
  | .ext o es, ρ, Q => wCs G es ρ fun vs ρ1 => (o.any || tailT vs) = true ∧ oQ (resolves ρ1 vs) fun ts => ∃ t, appX o ts = some t ∧ Q (.t t) ρ1
  | .get2 o k d, ρ, Q => wC G o ρ fun va ρ1 => wC G k ρ1 fun vk ρ2 => wC G d ρ2 fun vd ρ3 => vFz vk fun key => vFz vd fun dft => (stands va (k.wr || d.wr) && ((resolve ρ1 va).bind dictOf).isSome) = true ∧ oQ ((resolve ρ3 va).bind dictOf) fun p => oQ (keyOf key) fun kk => ∃ x, ((findK kk p.1 p.2 = some (.fz x)) ∨ (findK kk p.1 p.2 = none ∧ x = dft)) ∧ Q (.t (.fz x)) ρ3
  | .get1 _ _, _, _ => False
  | .rv a, ρ, Q => wC G a ρ fun va ρ1 => oQ (resolve ρ1 va) fun x => oQ x.flat fun ds => Q (.t (T.fl ds.reverse)) ρ1
  | .lrg1 a, ρ, Q => wC G a ρ fun v ρ1 => vInt v fun i => okRg 0 i = true ∧ Q (.t (T.fl (rangeD 0 i))) ρ1
  | .lrg2 a b, ρ, Q => wC G a ρ fun v ρ1 => wC G b ρ1 fun w ρ2 => vInt v fun i => vInt w fun j => okRg i j = true ∧ Q (.t (T.fl (rangeD i j))) ρ2
  | .cnt o k, ρ, Q => wC G o ρ fun va ρ1 => wC G k ρ1 fun vk ρ2 => vInt vk fun i => (stands va k.wr && ((resolve ρ1 va).bind T.flat).isSome) = true ∧ oQ (((resolve ρ2 va).bind T.flat).bind intsOf) fun ns => Q (.t (.fz (.int (ns.count i : Nat)))) ρ2
  | .thw c, ρ, Q => wC G c (frzAll ρ) fun v _ => vFz v fun d => d.scal = true ∧ Q (.t (.fz d)) ρ
  | .cntd o k, ρ, Q => wC G o ρ fun va ρ1 => wC G k ρ1 fun vk ρ2 => vFz vk fun d => (stands va k.wr && ((resolve ρ1 va).bind T.flat).isSome) = true ∧ oQ ((resolve ρ2 va).bind T.flat) fun ds => (d.shp 60 && D.shps 60 ds) = true ∧ Q (.t (.fz (.int ((ds.countP fun z => PyData.eqv z.toPy d.toPy : Nat) : Int)))) ρ2
  | .idx o k, ρ, Q => wC G o ρ fun va ρ1 => wC G k ρ1 fun vk ρ2 => vFz vk fun d => ∃ ds, IdxOk va ρ1 ρ2 k.wr d ds ∧ oQ (idxD d ds 0) fun j => Q (.t (.fz (.int (j : Nat)))) ρ2
  | .lc own tg it tests elt, ρ, Q => wI G it ρ fun ds ρ1 => ownOk ρ1 (own.map (·.2)) = true ∧ LoopC (lcStep tg (evTo G tests) (evC G elt)) (own.map (·.2)) (wipeE ρ1 (own.map (·.2))) ds fun ts ρ5 => ts.length ≤ sizeLine ∧ Q (.t (.lst ts)) (restore ρ1 (own.map (·.2)) ρ5)
  | .lci own i tg tests elt, ρ, Q => ∃ ks ts0 ds, ρ[i]? = some (Slot.ow (.dct ks ts0)) ∧ T.unfzs ts0 = some ds ∧ ds.all flatD = true ∧ ownOk ((kills i none ρ).set i .no) (own.map (·.2)) = true ∧ LoopC (lcStep tg (evTo G tests) (evC G elt)) (own.map (·.2)) (wipeE ((kills i none ρ).set i .no) (own.map (·.2))) (itemsD ks ds) fun ts ρ5 => ts.length ≤ sizeLine ∧ Q (.t (.lst ts)) ((kills i none (restore ((kills i none ρ).set i .no) (own.map (·.2)) ρ5)).set i (.ow (.dct ks ts0)))
def wCs (G : Gam) : Cs → Env → (List Val → Env → Prop) → Prop
  | .nil, ρ, Q => Q [] ρ
  | .cons c cs, ρ, Q => wC G c ρ fun v ρ1 => wCs G cs ρ1 fun vs ρ2 => stands v cs.wr = true ∧ Q (v :: vs) ρ2
def wO (G : Gam) : Co → Env → (Option Int → Env → Prop) → Prop
  | .none, ρ, Q => Q none ρ
  | .some c, ρ, Q => wC G c ρ fun v ρ1 => vInt v fun i => Q (some i) ρ1
def wT (G : Gam) : Tc → Env → (Bool → Env → Prop) → Prop
  | .not a, ρ, Q => wT G a ρ fun b ρ1 => Q (!b) ρ1
  | .bool op ts, ρ, Q => wB G op ts ρ Q
  | .inr neg a b, ρ, Q => wC G a ρ fun va ρ1 => wC G b ρ1 fun vb ρ2 => stands va b.wr = true ∧ ∃ i n : Int, resolve ρ2 va = some (.fz (.int i)) ∧ resolve ρ2 vb = some (.fz (.int n)) ∧ Q (neg != decide (0 ≤ i ∧ i < n)) ρ2
  | .cmp op a b, ρ, Q => wC G a ρ fun va ρ1 => wC G b ρ1 fun vb ρ2 => stands va b.wr = true ∧ oQ (resolve ρ2 va) fun x => oQ (resolve ρ2 vb) fun y => wCmp op x y fun k => Q k ρ2
  | .chain o1 o2 a b c, ρ, Q => wC G a ρ fun va ρ1 => wC G b ρ1 fun vb ρ2 => vT va fun x => vT vb fun y => wCmp o1 x y fun k => (k = false → Q false ρ2) ∧ (k = true → wC G c ρ2 fun vc ρ3 => vT vc fun z => wCmp o2 y z fun k => Q k ρ3)
  | .val c, ρ, Q => wC G c ρ fun v ρ1 => oQ (resolve ρ1 v) fun t => oQ (truT t) fun b => Q b ρ1
def wB (G : Gam) (op : BoolOp) : Tcs → Env → (Bool → Env → Prop) → Prop
  | .one t, ρ, Q => wT G t ρ Q
  | .cons t ts, ρ, Q => wT G t ρ fun b ρ1 => (b = decide (op = .And) → wB G op ts ρ1 Q) ∧ (b = !decide (op = .And) → Q (!decide (op = .And)) ρ1)
def wI (G : Gam) : I → Env → (List D → Env → Prop) → Prop
  | .seq c, ρ, Q => wC G c ρ fun v ρ1 => oQ (fzVal ρ1 v) fun p => dSeq p.1.toD fun ds => Q ds p.2
  | .brw c, ρ, Q => wC G c ρ fun v ρ1 => oQ (resolve ρ1 v) fun t => ∃ ds, t.flat = some ds ∧ Q ds ρ1
  | .rng1 a, ρ, Q => wC G a ρ fun v ρ1 => vInt v fun i => okR i = true ∧ Q (rangeD 0 i) ρ1
  | .rng2 a b, ρ, Q => wC G a ρ fun v ρ1 => wC G b ρ1 fun w ρ2 => vInt v fun i => vInt w fun j => okR i = true ∧ okR j = true ∧ Q (rangeD i j) ρ2
  | .zip a b, ρ, Q => wC G a ρ fun v ρ1 => wC G b ρ1 fun w ρ2 => ∃ xs ys, ((v = .t (.fz (.list xs)) ∧ w = .t (.fz (.list ys))) ∨ (v = .t (.fz (.tup xs)) ∧ w = .t (.fz (.tup ys))) ∨ (v = .t (.fz (.tup xs)) ∧ w = .t (.fz (.list ys)))) ∧ Q (zipD xs ys) ρ2
  | .rngd a b c, ρ, Q => wC G a ρ fun v ρ1 => wC G b ρ1 fun w ρ2 => wC G c ρ2 fun u ρ3 => vInt v fun i => vInt w fun j => vInt u fun k => okR0 i = true ∧ okR0 j = true ∧ k = -1 ∧ Q (rangeB i j) ρ3
  | .enum c, ρ, Q => wC G c ρ fun v ρ1 => oQ (fzVal ρ1 v) fun p => dList p.1.toD fun ds => Q (enumD 0 ds) p.2
end
section
variable {G : Gam}
theorem lci_eq {own : List (Str × Nat)} {i : Nat} {tg : Tgt} {tests : Tco} {elt : C} {ρ : Env} : evC G (.lci own i tg tests elt) ρ = (match ρ[i]? with
    | some (.ow (.dct ks ts0)) => match T.unfzs ts0 with
      | some ds => if ds.all flatD && ownOk ((kills i none ρ).set i .no) (own.map (·.2)) then
          match lcLoop (lcStep tg (evTo G tests) (evC G elt)) (own.map (·.2)) (wipeE ((kills i none ρ).set i .no) (own.map (·.2))) (itemsD ks ds) [] with
          | some (ts, ρ5) => if decide (ts.length ≤ sizeLine) then some (.t (.lst ts), (kills i none (restore ((kills i none ρ).set i .no) (own.map (·.2)) ρ5)).set i (.ow (.dct ks ts0))) else none
          | none => none
        else none
      | none => none
    | _ => none) := by
  rw [evC]
  rfl
theorem lc_eq {own : List (Str × Nat)} {tg : Tgt} {it : I} {tests : Tco} {elt : C} {ρ : Env} : evC G (.lc own tg it tests elt) ρ = (match evI G it ρ with
    | some (ds, ρ1) => if ownOk ρ1 (own.map (·.2)) then
        match lcLoop (lcStep tg (evTo G tests) (evC G elt)) (own.map (·.2)) (wipeE ρ1 (own.map (·.2))) ds [] with
        | some (ts, ρ5) => if decide (ts.length ≤ sizeLine) then some (.t (.lst ts), restore ρ1 (own.map (·.2)) ρ5) else none
        | none => none
      else none
    | none => none) := by
  rw [evC]
  rfl
set_option maxHeartbeats 20000000
mutual
theorem wC_ok : ∀ (c : C) {ρ : Env} {Q : Val → Env → Prop}, wC G c ρ Q → ∃ v ρ1, evC G c ρ = some (v, ρ1) ∧ Q v ρ1
  | .var i, ρ, Q, h => by
    simp only [wC] at h
    obtain ⟨v, e, q⟩ := oQ_ok h
    exact ⟨v, ρ, by simp only [evC, e]; rfl, q⟩
  | .mv i, ρ, Q, h => by
    simp only [wC] at h
    split at h
    · rename_i t e; exact ⟨_, _, by simp only [evC, e], h⟩
    · exact h.elim
  | .kst d, ρ, Q, h => ⟨.t (.fz d), ρ, by simp only [evC], by simpa only [wC] using h⟩
  | .gl g, ρ, Q, h => by
    simp only [wC] at h
    obtain ⟨v, e, q⟩ := oQ_ok h
    exact ⟨_, ρ, by simp only [evC, e]; rfl, q⟩
  | .fzv c, ρ, Q, h => by
    simp only [wC] at h
    obtain ⟨v, ρ1, e1, h⟩ := wC_ok c h
    obtain ⟨p, e2, q⟩ := oQ_ok h
    exact ⟨_, _, by simp only [evC, e1, e2]; rfl, q⟩
  | .tup es, ρ, Q, h => by
    simp only [wC] at h
    obtain ⟨v, ρ1, e1, h⟩ := wCs_ok es h
    obtain ⟨p, e2, q⟩ := oQ_ok h
    exact ⟨_, _, by simp only [evC, e1, e2]; rfl, q⟩
  | .list es, ρ, Q, h => by
    simp only [wC] at h
    obtain ⟨v, ρ1, e1, h⟩ := wCs_ok es h
    obtain ⟨p, e2, q⟩ := oQ_ok h
    exact ⟨_, _, by simp only [evC, e1, e2]; rfl, q⟩
  | .dict0, ρ, Q, h => ⟨.t (.dct [] []), ρ, by simp only [evC], by simpa only [wC] using h⟩
  | .bin op a b, ρ, Q, h => by
    simp only [wC] at h
    obtain ⟨va, ρ1, e1, h⟩ := wC_ok a h
    obtain ⟨vb, ρ2, e2, st, h⟩ := wC_ok b h
    obtain ⟨x, e3, h⟩ := oQ_ok h
    obtain ⟨y, e4, h⟩ := oQ_ok h
    obtain ⟨t, e5, q⟩ := wBin_ok h
    exact ⟨_, _, by simp only [evC, e1, e2, st, e3, e4, e5]; rfl, q⟩
  | .neg a, ρ, Q, h => by
    simp only [wC] at h
    obtain ⟨va, ρ1, e1, h⟩ := wC_ok a h
    obtain ⟨i, rfl, q⟩ := vInt_el h
    exact ⟨_, _, by simp only [evC, e1], q⟩
  | .notv a, ρ, Q, h => by
    simp only [wC] at h
    obtain ⟨va, ρ1, e1, h⟩ := wC_ok a h
    obtain ⟨i, rfl, q⟩ := vBool_el h
    exact ⟨_, _, by simp only [evC, e1], q⟩
  | .boolop op a b, ρ, Q, h => by
    simp only [wC] at h
    obtain ⟨va, ρ1, e1, h⟩ := wC_ok a h
    obtain ⟨k, rfl, h⟩ := vBool_el h
    by_cases hk : decide (op = .And) = k
    · obtain ⟨v, ρ2, e2, q⟩ := wC_ok b (h.1 hk.symm)
      exact ⟨v, ρ2, by simp only [evC, e1, if_pos hk, e2], q⟩
    · have hk' : k = !decide (op = .And) := by cases k <;> cases h' : decide (op = BoolOp.And) <;> simp_all
      refine ⟨_, _, by simp only [evC, e1, if_neg hk]; rfl, ?_⟩
      rw [hk']
      exact h.2 hk'
  | .cmp op a b, ρ, Q, h => by
    simp only [wC] at h
    obtain ⟨va, ρ1, e1, h⟩ := wC_ok a h
    obtain ⟨vb, ρ2, e2, st, h⟩ := wC_ok b h
    obtain ⟨x, e3, h⟩ := oQ_ok h
    obtain ⟨y, e4, h⟩ := oQ_ok h
    obtain ⟨t, e5, q⟩ := wCmp_ok h
    exact ⟨_, _, by simp only [evC, e1, e2, st, e3, e4, e5]; rfl, q⟩
  | .chain o1 o2 a b c, ρ, Q, h => by
    simp only [wC] at h
    obtain ⟨va, ρ1, e1, h⟩ := wC_ok a h
    obtain ⟨vb, ρ2, e2, h⟩ := wC_ok b h
    obtain ⟨x, ea, hA⟩ := vT_el h
    obtain ⟨y, eb, hB⟩ := vT_el hA
    subst ea eb
    obtain ⟨k, e3, h1, h2⟩ := wCmp_ok hB
    cases k with
    | false => exact ⟨_, _, by simp only [evC, e1, e2, e3], h1 rfl⟩
    | true =>
      obtain ⟨vc, ρ3, e4, hC⟩ := wC_ok c (h2 rfl)
      obtain ⟨z, ec, hD⟩ := vT_el hC
      subst ec
      obtain ⟨k, e5, q⟩ := wCmp_ok hD
      exact ⟨_, _, by simp only [evC, e1, e2, e3, e4, e5]; rfl, q⟩
  | .ite c a b, ρ, Q, h => by
    simp only [wC] at h
    obtain ⟨k, ρ1, e1, h1, h2⟩ := wT_ok c h
    cases k with
    | true =>
      obtain ⟨v, ρ2, e2, q⟩ := wC_ok a (h1 rfl)
      exact ⟨v, ρ2, by simp only [evC, e1, e2], q⟩
    | false =>
      obtain ⟨v, ρ2, e2, q⟩ := wC_ok b (h2 rfl)
      exact ⟨v, ρ2, by simp only [evC, e1, e2], q⟩
  | .ix a i, ρ, Q, h => by
    simp only [wC] at h
    obtain ⟨va, ρ1, e1, h⟩ := wC_ok a h
    obtain ⟨vi, ρ2, e2, h⟩ := wC_ok i h
    obtain ⟨vi, rfl, st, h⟩ := vT_el h
    obtain ⟨x, e3, h⟩ := oQ_ok h
    unfold wIx at h
    split at h
    · rename_i ks ts e4
      obtain ⟨d, e5, q⟩ := h
      exact ⟨_, _, by simp only [evC, e1, e2, st, e3, e4, e5]; rfl, q⟩
    · rename_i e4
      obtain ⟨v, e5, q⟩ := h
      exact ⟨_, _, by simp only [evC, e1, e2, st, e3, e4, e5]; rfl, q⟩
  | .sl a lo hi, ρ, Q, h => by
    simp only [wC] at h
    obtain ⟨va, ρ1, e1, h⟩ := wC_ok a h
    obtain ⟨l, ρ2, e2, h⟩ := wO_ok lo h
    obtain ⟨u, ρ3, e3, st, b1, b2, h⟩ := wO_ok hi h
    obtain ⟨x, e4, t, e5, q⟩ := oQ_ok h
    exact ⟨_, _, by simp only [evC, e1, e2, e3, st, b1, b2, e4, e5]; rfl, q⟩
  | .call k es, ρ, Q, h => by
    simp only [wC] at h
    obtain ⟨vs, ρ1, e1, h⟩ := wCs_ok es h
    obtain ⟨f, e2, h⟩ := oQ_ok h
    obtain ⟨t, ρ2, e3, q⟩ := wCall_ok h
    exact ⟨_, _, by simp only [evC, e1, e2, e3]; rfl, q⟩
  | .callk k perm es, ρ, Q, h => by
    simp only [wC] at h
    obtain ⟨vs, ρ1, e1, h⟩ := wCs_ok es h
    obtain ⟨f, e2, h⟩ := oQ_ok h
    obtain ⟨ws, e4, h⟩ := oQ_ok h
    obtain ⟨t, ρ2, e3, q⟩ := wCall_ok h
    exact ⟨_, _, by simp only [evC, e1, e2, e4, e3]; rfl, q⟩
  | .blt f es, ρ, Q, h => by
    simp only [wC] at h
    obtain ⟨vs, ρ1, e1, h⟩ := wCs_ok es h
    obtain ⟨ts, e2, h⟩ := oQ_ok h
    obtain ⟨t, e3, q⟩ := wBlt_ok h
    exact ⟨_, _, by simp only [evC, e1, e2, e3]; rfl, q⟩
  | .ext o es, ρ, Q, h => by
    simp only [wC] at h
    obtain ⟨vs, ρ1, e1, hv, h⟩ := wCs_ok es h
    obtain ⟨ts, e2, t, e3, q⟩ := oQ_ok h
    exact ⟨_, _, by simp only [evC, e1, hv, if_true, e2, e3]; rfl, q⟩
  | .get2 o k d, ρ, Q, h => by
    simp only [wC] at h
    obtain ⟨va, ρ1, e1, h⟩ := wC_ok o h
    obtain ⟨vk, ρ2, e2, h⟩ := wC_ok k h
    obtain ⟨vd, ρ3, e3, h⟩ := wC_ok d h
    obtain ⟨key, ea, hA⟩ := vFz_el h
    obtain ⟨dft, eb, hB⟩ := vFz_el hA
    subst ea eb
    obtain ⟨st, hC⟩ := hB
    obtain ⟨⟨ks, ts⟩, e4, hD⟩ := oQ_ok hC
    obtain ⟨kk, e5, x, hE, q⟩ := oQ_ok hD
    rcases hE with hf | ⟨hf, rfl⟩
    · have hf : findK kk ks ts = some (.fz x) := hf
      exact ⟨_, _, by simp only [evC, e1, e2, e3, st, e4, e5, hf]; rfl, q⟩
    · have hf : findK kk ks ts = none := hf
      exact ⟨_, _, by simp only [evC, e1, e2, e3, st, e4, e5, hf]; rfl, q⟩
  | .get1 _ _, ρ, Q, h => by simp only [wC] at h
  | .rv a, ρ, Q, h => by
    simp only [wC] at h
    obtain ⟨va, ρ1, e1, h⟩ := wC_ok a h
    obtain ⟨x, e2, h⟩ := oQ_ok h
    obtain ⟨ds, e3, q⟩ := oQ_ok h
    exact ⟨_, _, by simp only [evC, e1, e2, e3]; rfl, q⟩
  | .lrg1 a, ρ, Q, h => by
    simp only [wC] at h
    obtain ⟨v, ρ1, e1, h⟩ := wC_ok a h
    obtain ⟨i, ea, h2⟩ := vInt_el h
    subst ea
    exact ⟨_, _, by simp only [evC, e1, h2.1]; rfl, h2.2⟩
  | .lrg2 a b, ρ, Q, h => by
    simp only [wC] at h
    obtain ⟨v, ρ1, e1, h⟩ := wC_ok a h
    obtain ⟨w, ρ2, e2, h⟩ := wC_ok b h
    obtain ⟨i, ea, h2⟩ := vInt_el h
    obtain ⟨j, eb, h3⟩ := vInt_el h2
    subst ea eb
    exact ⟨_, _, by simp only [evC, e1, e2, h3.1]; rfl, h3.2⟩
  | .cnt o k, ρ, Q, h => by
    simp only [wC] at h
    obtain ⟨va, ρ1, e1, h⟩ := wC_ok o h
    obtain ⟨vk, ρ2, e2, h⟩ := wC_ok k h
    obtain ⟨i, ea, h2⟩ := vInt_el h
    subst ea
    obtain ⟨ns, e3, q⟩ := oQ_ok h2.2
    exact ⟨_, _, by simp only [evC, e1, e2, h2.1, e3]; rfl, q⟩
  | .thw c, ρ, Q, h => by
    simp only [wC] at h
    obtain ⟨v, ρ1, e1, h⟩ := wC_ok c h
    obtain ⟨d, ea, h2⟩ := vFz_el h
    subst ea
    exact ⟨_, _, by simp only [evC, e1, h2.1]; rfl, h2.2⟩
  | .cntd o k, ρ, Q, h => by
    simp only [wC] at h
    obtain ⟨va, ρ1, e1, h⟩ := wC_ok o h
    obtain ⟨vk, ρ2, e2, h⟩ := wC_ok k h
    obtain ⟨d, ea, h2⟩ := vFz_el h
    subst ea
    obtain ⟨ds, e3, q⟩ := oQ_ok h2.2
    exact ⟨_, _, by simp only [evC, e1, e2, h2.1, e3, q.1]; rfl, q.2⟩
  | .idx o k, ρ, Q, h => by
    simp only [wC] at h
    obtain ⟨va, ρ1, e1, h⟩ := wC_ok o h
    obtain ⟨vk, ρ2, e2, h⟩ := wC_ok k h
    obtain ⟨d, ea, h2⟩ := vFz_el h
    subst ea
    obtain ⟨ds, hi, h3⟩ := h2
    obtain ⟨j, e4, q⟩ := oQ_ok h3
    rcases hi with ⟨rfl, hs⟩ | ⟨g1, g2, g3⟩
    · exact ⟨_, _, by simp only [evC, e1, e2, hs, e4]; rfl, q⟩
    · refine ⟨_, _, ?_, q⟩
      simp only [evC, e1]
      split
      · rename_i heq
        cases heq
        rw [Bool.and_eq_true] at g1
        have := g1.2
        simp [resolve, T.flat] at this
      · rename_i heq
        cases heq
        simp only [e2, g1, if_true, g2, g3, e4]
        rfl
      · rename_i heq; cases heq
  | .lc own tg it tests elt, ρ, Q, h => by
    simp only [wC] at h
    obtain ⟨ds, ρ1, e1, ho, ⟨ts, ρ5, e2, hz, q⟩⟩ := wI_ok it h
    refine ⟨_, _, ?_, q⟩
    rw [lc_eq, e1]
    simp only [ho, if_true]
    rw [e2]
    simp only [decide_eq_true hz, if_true]
  | .lci own i tg tests elt, ρ, Q, h => by
    simp only [wC] at h
    obtain ⟨ks, ts0, ds, e1, e2, e3, ho, ⟨ts, ρ5, e4, hz, q⟩⟩ := h
    refine ⟨_, _, ?_, q⟩
    rw [lci_eq, e1]
    simp only [e2, e3, ho, Bool.and_self, if_true]
    rw [e4]
    simp only [decide_eq_true hz, if_true]
theorem wCs_ok : ∀ (c : Cs) {ρ : Env} {Q : List Val → Env → Prop}, wCs G c ρ Q → ∃ v ρ1, evs G c ρ = some (v, ρ1) ∧ Q v ρ1
  | .nil, ρ, Q, h => ⟨[], ρ, by simp only [evs], by simpa only [wCs] using h⟩
  | .cons c cs, ρ, Q, h => by
    simp only [wCs] at h
    obtain ⟨v, ρ1, e1, h⟩ := wC_ok c h
    obtain ⟨vs, ρ2, e2, st, q⟩ := wCs_ok cs h
    exact ⟨_, _, by simp only [evs, e1, e2, st]; rfl, q⟩
theorem wO_ok : ∀ (c : Co) {ρ : Env} {Q : Option Int → Env → Prop}, wO G c ρ Q → ∃ v ρ1, evO G c ρ = some (v, ρ1) ∧ Q v ρ1
  | .none, ρ, Q, h => ⟨none, ρ, by simp only [evO], by simpa only [wO] using h⟩
  | .some c, ρ, Q, h => by
    simp only [wO] at h
    obtain ⟨v, ρ1, e1, h⟩ := wC_ok c h
    obtain ⟨i, rfl, q⟩ := vInt_el h
    exact ⟨_, _, by simp only [evO, e1], q⟩
theorem wT_ok : ∀ (c : Tc) {ρ : Env} {Q : Bool → Env → Prop}, wT G c ρ Q → ∃ v ρ1, evT G c ρ = some (v, ρ1) ∧ Q v ρ1
  | .not a, ρ, Q, h => by
    simp only [wT] at h
    obtain ⟨v, ρ1, e1, q⟩ := wT_ok a h
    exact ⟨_, _, by simp only [evT, e1]; rfl, q⟩
  | .bool op ts, ρ, Q, h => by
    simp only [wT] at h
    obtain ⟨v, ρ1, e1, q⟩ := wB_ok ts h
    exact ⟨_, _, by simp only [evT, e1], q⟩
  | .inr neg a b, ρ, Q, h => by
    simp only [wT] at h
    obtain ⟨va, ρ1, e1, h⟩ := wC_ok a h
    obtain ⟨vb, ρ2, e2, st, i, n, e3, e4, q⟩ := wC_ok b h
    exact ⟨_, _, by simp only [evT, e1, e2, st, e3, e4]; rfl, q⟩
  | .cmp op a b, ρ, Q, h => by
    simp only [wT] at h
    obtain ⟨va, ρ1, e1, h⟩ := wC_ok a h
    obtain ⟨vb, ρ2, e2, st, h⟩ := wC_ok b h
    obtain ⟨x, e3, h⟩ := oQ_ok h
    obtain ⟨y, e4, h⟩ := oQ_ok h
    obtain ⟨t, e5, q⟩ := wCmp_ok h
    exact ⟨_, _, by simp only [evT, e1, e2, st, e3, e4, e5]; rfl, q⟩
  | .chain o1 o2 a b c, ρ, Q, h => by
    simp only [wT] at h
    obtain ⟨va, ρ1, e1, h⟩ := wC_ok a h
    obtain ⟨vb, ρ2, e2, h⟩ := wC_ok b h
    obtain ⟨x, ea, hA⟩ := vT_el h
    obtain ⟨y, eb, hB⟩ := vT_el hA
    subst ea eb
    obtain ⟨k, e3, h1, h2⟩ := wCmp_ok hB
    cases k with
    | false => exact ⟨_, _, by simp only [evT, e1, e2, e3], h1 rfl⟩
    | true =>
      obtain ⟨vc, ρ3, e4, hC⟩ := wC_ok c (h2 rfl)
      obtain ⟨z, ec, hD⟩ := vT_el hC
      subst ec
      obtain ⟨k, e5, q⟩ := wCmp_ok hD
      exact ⟨_, _, by simp only [evT, e1, e2, e3, e4, e5]; rfl, q⟩
  | .val c, ρ, Q, h => by
    simp only [wT] at h
    obtain ⟨v, ρ1, e1, h⟩ := wC_ok c h
    obtain ⟨t, e2, h⟩ := oQ_ok h
    obtain ⟨b, e3, q⟩ := oQ_ok h
    exact ⟨_, _, by simp only [evT, e1, e2, e3]; rfl, q⟩
theorem wB_ok {op : BoolOp} : ∀ (c : Tcs) {ρ : Env} {Q : Bool → Env → Prop}, wB G op c ρ Q → ∃ v ρ1, evB G op c ρ = some (v, ρ1) ∧ Q v ρ1
  | .one t, ρ, Q, h => by
    simp only [wB] at h
    obtain ⟨v, ρ1, e1, q⟩ := wT_ok t h
    exact ⟨_, _, by simp only [evB, e1], q⟩
  | .cons t ts, ρ, Q, h => by
    simp only [wB] at h
    obtain ⟨k, ρ1, e1, h1, h2⟩ := wT_ok t h
    by_cases hk : decide (op = .And) = k
    · obtain ⟨v, ρ2, e2, q⟩ := wB_ok ts (h1 hk.symm)
      exact ⟨v, ρ2, by simp only [evB, e1, if_pos hk, e2], q⟩
    · have hk' : k = !decide (op = .And) := by cases k <;> cases h' : decide (op = BoolOp.And) <;> simp_all
      refine ⟨_, _, by simp only [evB, e1, if_neg hk]; rfl, ?_⟩
      rw [hk']
      exact h2 hk'
theorem wI_ok : ∀ (c : I) {ρ : Env} {Q : List D → Env → Prop}, wI G c ρ Q → ∃ v ρ1, evI G c ρ = some (v, ρ1) ∧ Q v ρ1
  | .seq c, ρ, Q, h => by
    simp only [wI] at h
    obtain ⟨v, ρ1, e1, h⟩ := wC_ok c h
    obtain ⟨p, e2, h⟩ := oQ_ok h
    obtain ⟨ds, e3, q⟩ := dSeq_el h
    rcases e3 with e3 | e3
    · exact ⟨_, _, by simp only [evI, e1, e2, e3], q⟩
    · exact ⟨_, _, by simp only [evI, e1, e2, e3], q⟩
  | .brw c, ρ, Q, h => by
    simp only [wI] at h
    obtain ⟨v, ρ1, e1, h⟩ := wC_ok c h
    obtain ⟨t, e2, ds, e3, q⟩ := oQ_ok h
    exact ⟨_, _, by simp only [evI, e1, e2, e3]; rfl, q⟩
  | .rng1 a, ρ, Q, h => by
    simp only [wI] at h
    obtain ⟨v, ρ1, e1, h⟩ := wC_ok a h
    obtain ⟨i, rfl, h⟩ := vInt_el h
    exact ⟨_, _, by simp only [evI, e1, h.1]; rfl, h.2⟩
  | .rng2 a b, ρ, Q, h => by
    simp only [wI] at h
    obtain ⟨v, ρ1, e1, h⟩ := wC_ok a h
    obtain ⟨w, ρ2, e2, h⟩ := wC_ok b h
    obtain ⟨i, ea, hA⟩ := vInt_el h
    obtain ⟨j, eb, hB⟩ := vInt_el hA
    subst ea eb
    exact ⟨_, _, by simp only [evI, e1, e2, hB.1, hB.2.1]; rfl, hB.2.2⟩
  | .rngd a b c, ρ, Q, h => by
    simp only [wI] at h
    obtain ⟨v, ρ1, e1, h⟩ := wC_ok a h
    obtain ⟨w, ρ2, e2, h⟩ := wC_ok b h
    obtain ⟨u, ρ3, e3, h⟩ := wC_ok c h
    obtain ⟨i, ea, hA⟩ := vInt_el h
    obtain ⟨j, eb, hB⟩ := vInt_el hA
    obtain ⟨k, ec, hC⟩ := vInt_el hB
    subst ea eb ec
    obtain ⟨k1, k2, rfl, q⟩ := hC
    exact ⟨_, _, by simp only [evI, e1, e2, e3, k1, k2]; rfl, q⟩
  | .zip a b, ρ, Q, h => by
    simp only [wI] at h
    obtain ⟨v, ρ1, e1, h⟩ := wC_ok a h
    obtain ⟨w, ρ2, e2, xs, ys, hk, q⟩ := wC_ok b h
    rcases hk with ⟨rfl, rfl⟩ | ⟨rfl, rfl⟩ | ⟨rfl, rfl⟩
    · exact ⟨_, _, by simp only [evI, e1, e2], q⟩
    · exact ⟨_, _, by simp only [evI, e1, e2], q⟩
    · exact ⟨_, _, by simp only [evI, e1, e2], q⟩
  | .enum c, ρ, Q, h => by
    simp only [wI] at h
    obtain ⟨v, ρ1, e1, h⟩ := wC_ok c h
    obtain ⟨p, e2, h⟩ := oQ_ok h
    obtain ⟨ds, e3, q⟩ := dList_el h
    exact ⟨_, _, by simp only [evI, e1, e2, e3], q⟩
end
mutual
def wS (G : Gam) : S → Env → (Out → Prop) → Prop
  | .set i c, ρ, Q => wC G c ρ fun v ρ1 => oQ (bindS ρ1 i v) fun ρ2 => Q (.nx ρ2)
  | .setT is c, ρ, Q => wC G c ρ fun v ρ1 => vTup v fun ts => oQ (bindTs ρ1 is ts) fun ρ2 => Q (.nx ρ2)
  | .setL is c, ρ, Q => wC G c ρ fun v ρ1 => vT v fun t => oQ t.flat fun ds => oQ (bindTs ρ1 is (fzs ds)) fun ρ2 => Q (.nx ρ2)
  | .unp is c, ρ, Q => wC G c ρ fun v ρ1 => ∃ j ts, v = .pt j none ∧ getPt ρ1 j none = some (.lst ts) ∧ parOk is (kidsV j 0 ts) = true ∧ oQ (bindVs ρ1 is (kidsV j 0 ts)) fun ρ2 => Q (.nx ρ2)
  | .par is es, ρ, Q => wCs G es ρ fun vs ρ1 => parOk is vs = true ∧ oQ (bindVs ρ1 is vs) fun ρ2 => Q (.nx ρ2)
  | .sto b i c, ρ, Q => wC G c ρ fun vc ρ1 => oQ (fzVal ρ1 vc) fun p => wC G b p.2 fun vb ρ3 => wC G i ρ3 fun vi ρ4 => vPt vb fun j k => vT vi fun vi => stands (.pt j k) i.wr = true ∧ oQ (getPt ρ4 j k) fun x => ∃ y, setIx x vi p.1 = some y ∧ oQ (setPt (kIx ρ4 j k x vi) j k y) fun ρ5 => Q (.nx ρ5)
  | .aug i op c, ρ, Q => oQ (rdName ρ i) fun vx => wC G c ρ fun vy ρ1 => vT vx fun x => vT vy fun y => ∃ t, augT op x y = some t ∧ oQ (bindS ρ1 i (.t t)) fun ρ2 => Q (.nx ρ2)
  | .augS b i op c, ρ, Q => wC G b ρ fun vb ρ1 => wC G i ρ1 fun vi ρ2 => vPt vb fun j k => vT vi fun vi => stands (.pt j k) (i.wr || c.wr) = true ∧ oQ (getPt ρ2 j k) fun x => ∃ n, rdInt x vi = some n ∧ wC G c ρ2 fun vc ρ3 => vInt vc fun m => oQ (getPt ρ3 j k) fun x => ∃ r, augT op (.fz (.int n)) (.fz (.int m)) = some r ∧ ∃ y, setIx x vi r = some y ∧ oQ (setPt (kIx ρ3 j k x vi) j k y) fun ρ4 => Q (.nx ρ4)
  | .sdf b kc vc, ρ, Q => wC G b ρ fun vb ρ1 => vPt vb fun j k => (∃ ks ts, getPt ρ1 j k = some (.dct ks ts)) ∧ wC G kc ρ1 fun vk ρ2 => wC G vc ρ2 fun vd ρ3 => vFz vk fun dk => vFz vd fun d => stands (.pt j k) (kc.wr || vc.wr) = true ∧ ∃ ks ts kk, getPt ρ3 j k = some (.dct ks ts) ∧ keyOf dk = some kk ∧ ks.length < sizeLine ∧ ((∃ t0, findK kk ks ts = some t0) → Q (.nx ρ3)) ∧ (findK kk ks ts = none → ∃ y, setIx (.dct ks ts) (.fz dk) (.fz d) = some y ∧ oQ (setPt (kIx ρ3 j k (.dct ks ts) (.fz dk)) j k y) fun ρ4 => Q (.nx ρ4))
  | .fori i tg b, ρ, Q => ∃ ks ts0 ds, ρ[i]? = some (.ow (.dct ks ts0)) ∧ T.unfzs ts0 = some ds ∧ ds.all flatD = true ∧ LoopF (fun ρ d => (bindD ρ tg d).bind fun ρ2 => evSs G b ρ2) ((kills i .none ρ).set i .lk) (itemsD ks ds) fun o => ∃ o', foriEnd i (.dct ks ts0) o = some o' ∧ Q o'
  | .forl i tg b, ρ, Q => ∃ ts ds, ρ[i]? = some (.io (.lst ts)) ∧ T.unfzs ts = some ds ∧ LoopF (fun ρ d => (bindD ρ tg d).bind fun ρ2 => evSs G b ρ2) ((kills i .none ρ).set i .lk) ds fun o => ∃ o', forlEnd i (.lst ts) o = some o' ∧ Q o'
  | .fgo x j no, ρ, Q => ∃ ts, ρ[j]? = some (.ow (.lst ts)) ∧ (decide (x ≠ j) && frSl ρ[x]? && decide (no.getD ts.length ≤ ts.length) && (ts.take (no.getD ts.length)).all (kidOk (no.getD ts.length))) = true ∧ Q (.nx ((kills x .none ((kills j .none ρ).set j .no)).set x .no))
  | .augL i c, ρ, Q => oQ (rdName ρ i) fun vx => wC G c ρ fun vy ρ1 => vx = .pt i none ∧ ∃ ts2 ds ts1, vy = .t (.lst ts2) ∧ T.unfzs ts2 = some ds ∧ getPt ρ1 i none = some (.lst ts1) ∧ okLen (ts1.length + ds.length) = true ∧ oQ (setPt ρ1 i none (.lst (ts1 ++ fzs ds))) fun ρ2 => Q (.nx ρ2)
  | .app b c, ρ, Q => wC G b ρ fun vb ρ1 => vPt vb fun j k => (∃ ts, getPt ρ1 j k = some (.lst ts)) ∧ wC G c ρ1 fun v ρ2 => oQ (fzVal ρ2 v) fun p => stands (.pt j k) c.wr = true ∧ oQ (getPt p.2 j k) fun x => ∃ y, appT x p.1 = some y ∧ oQ (setPt p.2 j k y) fun ρ4 => Q (.nx ρ4)
  | .exp c, ρ, Q => wC G c ρ fun _ ρ1 => Q (.nx ρ1)
  | .ret c, ρ, Q => wC G c ρ fun v ρ1 => oQ (fzVal ρ1 v) fun p => Q (.rt p.1 p.2)
  | .retN, ρ, Q => Q (.rt (.fz .none) ρ)
  | .ite c a b, ρ, Q => wT G c ρ fun k ρ1 => (k = true → wSs G a ρ1 Q) ∧ (k = false → wSs G b ρ1 Q)
  | .for tg it b, ρ, Q => wI G it ρ fun ds ρ1 => LoopF (fun ρ d => (bindD ρ tg d).bind fun ρ2 => evSs G b ρ2) ρ1 ds Q
  | .while n c b, ρ, Q => LoopW (evT G c) (evSs G b) n ρ Q
  | .pass, ρ, Q => Q (.nx ρ)
  | .cont, ρ, Q => Q (.ct ρ)
  | .brk, ρ, Q => Q (.bk ρ)
  | .stuck, _, _ => False
def wSs (G : Gam) : Ss → Env → (Out → Prop) → Prop
  | .nil, ρ, Q => Q (.nx ρ)
  | .cons s ss, ρ, Q => wS G s ρ (seqK (wSs G ss) Q)
end
mutual
theorem wS_ok : ∀ (s : S) {ρ : Env} {Q : Out → Prop}, wS G s ρ Q → ∃ o, evS G s ρ = some o ∧ Q o
  | .set i c, ρ, Q, h => by
    simp only [wS] at h
    obtain ⟨v, ρ1, e1, h⟩ := wC_ok c h
    obtain ⟨ρ2, e2, q⟩ := oQ_ok h
    exact ⟨_, by simp only [evS, e1, e2]; rfl, q⟩
  | .setL is c, ρ, Q, h => by
    simp only [wS] at h
    obtain ⟨v, ρ1, e1, h⟩ := wC_ok c h
    obtain ⟨t, ea, h⟩ := vT_el h
    subst ea
    obtain ⟨ds, e2, h⟩ := oQ_ok h
    obtain ⟨ρ2, e3, q⟩ := oQ_ok h
    exact ⟨_, by simp only [evS, e1, e2, e3]; rfl, q⟩
  | .setT is c, ρ, Q, h => by
    simp only [wS] at h
    obtain ⟨v, ρ1, e1, h⟩ := wC_ok c h
    rcases vTup_el h with ⟨ds, rfl, h⟩ | ⟨ds, rfl, h⟩ | ⟨ts, rfl, h⟩
    · obtain ⟨ρ2, e2, q⟩ := oQ_ok h
      exact ⟨_, by simp only [evS, e1, e2]; rfl, q⟩
    · obtain ⟨ρ2, e2, q⟩ := oQ_ok h
      exact ⟨_, by simp only [evS, e1, e2]; rfl, q⟩
    · obtain ⟨ρ2, e2, q⟩ := oQ_ok h
      exact ⟨_, by simp only [evS, e1, e2]; rfl, q⟩
  | .unp is c, ρ, Q, h => by
    simp only [wS] at h
    obtain ⟨v, ρ1, e1, j, ts, rfl, hg, hp, h⟩ := wC_ok c h
    obtain ⟨ρ2, e2, q⟩ := oQ_ok h
    exact ⟨_, by simp only [evS, e1, hg, hp, e2]; rfl, q⟩
  | .par is es, ρ, Q, h => by
    simp only [wS] at h
    obtain ⟨vs, ρ1, e1, hp, h⟩ := wCs_ok es h
    obtain ⟨ρ2, e2, q⟩ := oQ_ok h
    exact ⟨_, by simp only [evS, e1, hp, e2]; rfl, q⟩
  | .sto b i c, ρ, Q, h => by
    simp only [wS] at h
    obtain ⟨vc, ρ1, e1, h⟩ := wC_ok c h
    obtain ⟨⟨t, ρ2⟩, e2, h⟩ := oQ_ok h
    obtain ⟨vb, ρ3, e3, h⟩ := wC_ok b h
    obtain ⟨vi, ρ4, e4, h⟩ := wC_ok i h
    obtain ⟨j, k, ea, hA⟩ := vPt_el h
    obtain ⟨vi, eb, st, hB⟩ := vT_el hA
    subst ea eb
    obtain ⟨x, e5, y, e6, hC⟩ := oQ_ok hB
    obtain ⟨ρ5, e7, q⟩ := oQ_ok hC
    exact ⟨_, by simp only [evS, e1, e2, e3, e4, st, e5, e6, e7]; rfl, q⟩
  | .aug i op c, ρ, Q, h => by
    simp only [wS] at h
    obtain ⟨vx, e1, h⟩ := oQ_ok h
    obtain ⟨vy, ρ1, e2, h⟩ := wC_ok c h
    obtain ⟨x, ea, hA⟩ := vT_el h
    obtain ⟨y, eb, t, e3, hB⟩ := vT_el hA
    subst ea eb
    obtain ⟨ρ2, e4, q⟩ := oQ_ok hB
    exact ⟨_, by simp only [evS, e1, e2, e3, e4]; rfl, q⟩
  | .augS b i op c, ρ, Q, h => by
    simp only [wS] at h
    obtain ⟨vb, ρ1, e1, h⟩ := wC_ok b h
    obtain ⟨vi, ρ2, e2, h⟩ := wC_ok i h
    obtain ⟨j, k, ea, hA⟩ := vPt_el h
    obtain ⟨vi, eb, st, hB⟩ := vT_el hA
    subst ea eb
    obtain ⟨x1, e3, n, e4, hC⟩ := oQ_ok hB
    obtain ⟨vc, ρ3, e5, hD⟩ := wC_ok c hC
    obtain ⟨m, ec, hE⟩ := vInt_el hD
    subst ec
    obtain ⟨x2, e6, r, e7, y, e8, hF⟩ := oQ_ok hE
    obtain ⟨ρ4, e9, q⟩ := oQ_ok hF
    exact ⟨_, by simp only [evS, e1, e2, st, e3, e4, e5, e6, e7, e8, e9]; rfl, q⟩
  | .sdf b kc vc, ρ, Q, h => by
    simp only [wS] at h
    obtain ⟨vb, ρ1, e1, h⟩ := wC_ok b h
    obtain ⟨j, k, rfl, h⟩ := vPt_el h
    obtain ⟨⟨ks1, ts1, e2⟩, h⟩ := h
    obtain ⟨vk, ρ2, e3, hA⟩ := wC_ok kc h
    obtain ⟨vd, ρ3, e4, hB⟩ := wC_ok vc hA
    obtain ⟨dk, ek, hC⟩ := vFz_el hB
    obtain ⟨d, ed, st, ks, ts, kk, e5, e6, hz, h1, h2⟩ := vFz_el hC
    subst ek ed
    cases e7 : findK kk ks ts with
    | some t0 => exact ⟨_, by simp only [evS, e1, e2, e3, e4, st, e5, e6, decide_eq_true hz, e7]; rfl, h1 ⟨t0, e7⟩⟩
    | none =>
      obtain ⟨y, e8, hD⟩ := h2 e7
      obtain ⟨ρ4, e9, q⟩ := oQ_ok hD
      exact ⟨_, by simp only [evS, e1, e2, e3, e4, st, e5, e6, decide_eq_true hz, e7, e8, e9]; rfl, q⟩
  | .fori i tg b, ρ, Q, h => by
    simp only [wS] at h
    obtain ⟨ks, ts0, ds, e1, e2, e3, ⟨o, e4, o', e5, q⟩⟩ := h
    exact ⟨o', by simp only [evS, e1, e2, e3, if_true, e4, Option.bind_some, e5], q⟩
  | .forl i tg b, ρ, Q, h => by
    simp only [wS] at h
    obtain ⟨ts, ds, e1, e2, ⟨o, e4, o', e5, q⟩⟩ := h
    exact ⟨o', by simp only [evS, e1, e2, e4, Option.bind_some, e5], q⟩
  | .fgo x j no, ρ, Q, h => by
    simp only [wS] at h
    obtain ⟨ts, e1, e2, q⟩ := h
    exact ⟨_, by simp only [evS, e1]; rw [if_pos e2], q⟩
  | .augL i c, ρ, Q, h => by
    simp only [wS] at h
    obtain ⟨vx, e0, h⟩ := oQ_ok h
    obtain ⟨vy, ρ1, e1, h⟩ := wC_ok c h
    obtain ⟨rfl, ts2, ds, ts1, rfl, e2, e3, hz, h⟩ := h
    obtain ⟨ρ4, e7, q⟩ := oQ_ok h
    exact ⟨_, by simp only [evS, e0, e1, e2, e3, hz, e7, decide_true, Bool.and_self, if_true]; rfl, q⟩
  | .app b c, ρ, Q, h => by
    simp only [wS] at h
    obtain ⟨vb, ρ1, e1, h⟩ := wC_ok b h
    obtain ⟨j, k, rfl, h⟩ := vPt_el h
    obtain ⟨⟨ts, e2⟩, h⟩ := h
    obtain ⟨v, ρ2, e3, h⟩ := wC_ok c h
    obtain ⟨⟨t, ρ3⟩, e4, st, h⟩ := oQ_ok h
    obtain ⟨x, e5, y, e6, h⟩ := oQ_ok h
    obtain ⟨ρ4, e7, q⟩ := oQ_ok h
    exact ⟨_, by simp only [evS, e1, e2, e3, e4, st, e5, e6, e7]; rfl, q⟩
  | .exp c, ρ, Q, h => by
    simp only [wS] at h
    obtain ⟨v, ρ1, e1, q⟩ := wC_ok c h
    exact ⟨_, by simp only [evS, e1]; rfl, q⟩
  | .ret c, ρ, Q, h => by
    simp only [wS] at h
    obtain ⟨v, ρ1, e1, h⟩ := wC_ok c h
    obtain ⟨p, e2, q⟩ := oQ_ok h
    exact ⟨_, by simp only [evS, e1, e2]; rfl, q⟩
  | .retN, ρ, Q, h => ⟨_, by simp only [evS]; rfl, by simpa only [wS] using h⟩
  | .ite c a b, ρ, Q, h => by
    simp only [wS] at h
    obtain ⟨k, ρ1, e1, h1, h2⟩ := wT_ok c h
    cases k with
    | true =>
      obtain ⟨o, e2, q⟩ := wSs_ok a (h1 rfl)
      exact ⟨o, by simp only [evS, e1, e2], q⟩
    | false =>
      obtain ⟨o, e2, q⟩ := wSs_ok b (h2 rfl)
      exact ⟨o, by simp only [evS, e1, e2], q⟩
  | .for tg it b, ρ, Q, h => by
    simp only [wS] at h
    obtain ⟨ds, ρ1, e1, ⟨o, e2, q⟩⟩ := wI_ok it h
    exact ⟨o, by simp only [evS, e1]; exact e2, q⟩
  | .while n c b, ρ, Q, h => by
    simp only [wS] at h
    obtain ⟨o, e2, q⟩ := h.h
    exact ⟨o, by simp only [evS]; exact e2, q⟩
  | .pass, ρ, Q, h => ⟨_, by simp only [evS]; rfl, by simpa only [wS] using h⟩
  | .cont, ρ, Q, h => ⟨_, by simp only [evS]; rfl, by simpa only [wS] using h⟩
  | .brk, ρ, Q, h => ⟨_, by simp only [evS]; rfl, by simpa only [wS] using h⟩
  | .stuck, ρ, Q, h => by simp only [wS] at h
theorem wSs_ok : ∀ (s : Ss) {ρ : Env} {Q : Out → Prop}, wSs G s ρ Q → ∃ o, evSs G s ρ = some o ∧ Q o
  | .nil, ρ, Q, h => ⟨_, by simp only [evSs]; rfl, by simpa only [wSs] using h⟩
  | .cons s ss, ρ, Q, h => by
    simp only [wSs] at h
    obtain ⟨o, e1, h⟩ := wS_ok s h
    cases o with
    | nx ρ1 =>
      obtain ⟨o, e2, q⟩ := wSs_ok ss (fE_el ρ1 h)
      exact ⟨o, by simp only [evSs, e1]; exact e2, q⟩
    | rt t ρ1 => exact ⟨_, by simp only [evSs, e1], h⟩
    | bk ρ1 => exact ⟨_, by simp only [evSs, e1], h⟩
    | ct ρ1 => exact ⟨_, by simp only [evSs, e1], h⟩
end
theorem w_var {ρ : Env} {Q : Val → Env → Prop} {i : Nat} (h : oQ (rdName ρ i) fun v => Q v ρ) : wC G (.var i) ρ Q := by simpa only [wC] using h
theorem w_kst {ρ : Env} {Q : Val → Env → Prop} {d : D} (h : Q (.t (.fz d)) ρ) : wC G (.kst d) ρ Q := by simpa only [wC] using h
theorem w_gl {ρ : Env} {Q : Val → Env → Prop} {g : Nat} (h : oQ G.gls[g]? fun d => Q (.t (.fz d)) ρ) : wC G (.gl g) ρ Q := by simpa only [wC] using h
theorem w_fzv {ρ : Env} {Q : Val → Env → Prop} {c : C} (h : wC G c ρ fun v ρ1 => oQ (fzVal ρ1 v) fun p => Q (.t (.fz p.1.toD)) p.2) : wC G (.fzv c) ρ Q := by simpa only [wC] using h
theorem w_list {ρ : Env} {Q : Val → Env → Prop} {es : Cs} (h : wCs G es ρ fun vs ρ1 => oQ (fzVals ρ1 vs) fun p => Q (.t (.lst p.1)) p.2) : wC G (.list es) ρ Q := by simpa only [wC] using h
theorem w_bin {ρ : Env} {Q : Val → Env → Prop} {op : Operator} {a b : C} (h : wC G a ρ fun va ρ1 => wC G b ρ1 fun vb ρ2 => stands va b.wr = true ∧ oQ (resolve ρ2 va) fun x => oQ (resolve ρ2 vb) fun y => wBin op x y fun t => Q (.t t) ρ2) : wC G (.bin op a b) ρ Q := by simpa only [wC] using h
theorem w_boolop {ρ : Env} {Q : Val → Env → Prop} {op : BoolOp} {a b : C} (h : wC G a ρ fun v ρ1 => vBool v fun k => (k = decide (op = .And) → wC G b ρ1 Q) ∧ (k = !decide (op = .And) → Q (.t (.fz (.bool (!decide (op = .And))))) ρ1)) : wC G (.boolop op a b) ρ Q := by simpa only [wC] using h
theorem w_cmp {ρ : Env} {Q : Val → Env → Prop} {op : CmpOp} {a b : C} (h : wC G a ρ fun va ρ1 => wC G b ρ1 fun vb ρ2 => stands va b.wr = true ∧ oQ (resolve ρ2 va) fun x => oQ (resolve ρ2 vb) fun y => wCmp op x y fun k => Q (.t (.fz (.bool k))) ρ2) : wC G (.cmp op a b) ρ Q := by simpa only [wC] using h
theorem w_ite {ρ : Env} {Q : Val → Env → Prop} {c : Tc} {a b : C} (h : wT G c ρ fun k ρ1 => (k = true → wC G a ρ1 Q) ∧ (k = false → wC G b ρ1 Q)) : wC G (.ite c a b) ρ Q := by simpa only [wC] using h
theorem w_ix {ρ : Env} {Q : Val → Env → Prop} {a i : C} (h : wC G a ρ fun va ρ1 => wC G i ρ1 fun vi ρ2 => vT vi fun vi => stands va i.wr = true ∧ oQ (resolve ρ2 va) fun x => wIx ρ2 va x vi fun v => Q v ρ2) : wC G (.ix a i) ρ Q := by simpa only [wC] using h
theorem w_sl {ρ : Env} {Q : Val → Env → Prop} {a : C} {lo hi : Co} (h : wC G a ρ fun va ρ1 => wO G lo ρ1 fun l ρ2 => wO G hi ρ2 fun h ρ3 => stands va (lo.wr || hi.wr) = true ∧ okB l = true ∧ okB h = true ∧ oQ (resolve ρ3 va) fun x => ∃ t, slT x l h = some t ∧ Q (.t t) ρ3) : wC G (.sl a lo hi) ρ Q := by simpa only [wC] using h
theorem w_call {ρ : Env} {Q : Val → Env → Prop} {k : Nat} {es : Cs} (h : wCs G es ρ fun vs ρ1 => oQ G.fns[k]? fun f => wCall f ρ1 vs fun t ρ2 => Q (.t t) ρ2) : wC G (.call k es) ρ Q := by simpa only [wC] using h
theorem w_callk {ρ : Env} {Q : Val → Env → Prop} {k : Nat} {perm : List Nat} {es : Cs} (h : wCs G es ρ fun vs ρ1 => oQ G.fns[k]? fun f => oQ (permV perm vs) fun ws => wCall f ρ1 ws fun t ρ2 => Q (.t t) ρ2) : wC G (.callk k perm es) ρ Q := by simpa only [wC] using h
theorem w_blt {ρ : Env} {Q : Val → Env → Prop} {f : Blt} {es : Cs} (h : wCs G es ρ fun vs ρ1 => oQ (resolves ρ1 vs) fun ts => wBlt f ts fun t => Q (.t t) ρ1) : wC G (.blt f es) ρ Q := by simpa only [wC] using h
theorem w_ext {ρ : Env} {Q : Val → Env → Prop} {o : Ox} {es : Cs} (h : wCs G es ρ fun vs ρ1 => (o.any || tailT vs) = true ∧ oQ (resolves ρ1 vs) fun ts => ∃ t, appX o ts = some t ∧ Q (.t t) ρ1) : wC G (.ext o es) ρ Q := by simpa only [wC] using h
theorem w_rv {ρ : Env} {Q : Val → Env → Prop} {a : C} (h : wC G a ρ fun va ρ1 => oQ (resolve ρ1 va) fun x => oQ x.flat fun ds => Q (.t (T.fl ds.reverse)) ρ1) : wC G (.rv a) ρ Q := by simpa only [wC] using h
def CntD (va : Val) (ρ1 ρ2 : Env) (w : Bool) (d : D) (Q : Val → Env → Prop) : Prop := (stands va w && ((resolve ρ1 va).bind T.flat).isSome) = true ∧ oQ ((resolve ρ2 va).bind T.flat) fun ds => (d.shp 60 && D.shps 60 ds) = true ∧ Q (.t (.fz (.int ((ds.countP fun z => PyData.eqv z.toPy d.toPy : Nat) : Int)))) ρ2
theorem w_lc {ρ : Env} {Q : Val → Env → Prop} {own : List (Str × Nat)} {tg : Tgt} {it : I} {tests : Tco} {elt : C} (h : wI G it ρ fun ds ρ1 => ownOk ρ1 (own.map (·.2)) = true ∧ LoopC (lcStep tg (evTo G tests) (evC G elt)) (own.map (·.2)) (wipeE ρ1 (own.map (·.2))) ds fun ts ρ5 => ts.length ≤ sizeLine ∧ Q (.t (.lst ts)) (restore ρ1 (own.map (·.2)) ρ5)) : wC G (.lc own tg it tests elt) ρ Q := by simpa only [wC] using h
theorem ws_nil {ρ : Env} {Q : List Val → Env → Prop}  (h : Q [] ρ) : wCs G (.nil) ρ Q := by simpa only [wCs] using h
theorem ws_cons {ρ : Env} {Q : List Val → Env → Prop} {c : C} {cs : Cs} (h : wC G c ρ fun v ρ1 => wCs G cs ρ1 fun vs ρ2 => stands v cs.wr = true ∧ Q (v :: vs) ρ2) : wCs G (.cons c cs) ρ Q := by simpa only [wCs] using h
theorem wo_none {ρ : Env} {Q : Option Int → Env → Prop}  (h : Q none ρ) : wO G (.none) ρ Q := by simpa only [wO] using h
theorem wo_some {ρ : Env} {Q : Option Int → Env → Prop} {c : C} (h : wC G c ρ fun v ρ1 => vInt v fun i => Q (some i) ρ1) : wO G (.some c) ρ Q := by simpa only [wO] using h
theorem wt_not {ρ : Env} {Q : Bool → Env → Prop} {a : Tc} (h : wT G a ρ fun b ρ1 => Q (!b) ρ1) : wT G (.not a) ρ Q := by simpa only [wT] using h
theorem wt_bool {ρ : Env} {Q : Bool → Env → Prop} {op : BoolOp} {ts : Tcs} (h : wB G op ts ρ Q) : wT G (.bool op ts) ρ Q := by simpa only [wT] using h
def wInr (neg : Bool) (i n : Int) (R : Bool → Prop) : Prop := R (neg != decide (0 ≤ i ∧ i < n))
theorem wt_cmp {ρ : Env} {Q : Bool → Env → Prop} {op : CmpOp} {a b : C} (h : wC G a ρ fun va ρ1 => wC G b ρ1 fun vb ρ2 => stands va b.wr = true ∧ oQ (resolve ρ2 va) fun x => oQ (resolve ρ2 vb) fun y => wCmp op x y fun k => Q k ρ2) : wT G (.cmp op a b) ρ Q := by simpa only [wT] using h
theorem wt_val {ρ : Env} {Q : Bool → Env → Prop} {c : C} (h : wC G c ρ fun v ρ1 => oQ (resolve ρ1 v) fun t => oQ (truT t) fun b => Q b ρ1) : wT G (.val c) ρ Q := by simpa only [wT] using h
theorem wi_seq {ρ : Env} {Q : List D → Env → Prop} {c : C} (h : wC G c ρ fun v ρ1 => oQ (fzVal ρ1 v) fun p => dSeq p.1.toD fun ds => Q ds p.2) : wI G (.seq c) ρ Q := by simpa only [wI] using h
theorem wi_brw {ρ : Env} {Q : List D → Env → Prop} {c : C} (h : wC G c ρ fun v ρ1 => oQ (resolve ρ1 v) fun t => ∃ ds, t.flat = some ds ∧ Q ds ρ1) : wI G (.brw c) ρ Q := by simpa only [wI] using h
theorem wi_rng1 {ρ : Env} {Q : List D → Env → Prop} {a : C} (h : wC G a ρ fun v ρ1 => vInt v fun i => okR i = true ∧ Q (rangeD 0 i) ρ1) : wI G (.rng1 a) ρ Q := by simpa only [wI] using h
theorem wi_enum {ρ : Env} {Q : List D → Env → Prop} {c : C} (h : wC G c ρ fun v ρ1 => oQ (fzVal ρ1 v) fun p => dList p.1.toD fun ds => Q (enumD 0 ds) p.2) : wI G (.enum c) ρ Q := by simpa only [wI] using h
theorem wp_set {ρ : Env} {Q : Out → Prop} {i : Nat} {c : C} (h : wC G c ρ fun v ρ1 => oQ (bindS ρ1 i v) fun ρ2 => Q (.nx ρ2)) : wS G (.set i c) ρ Q := by simpa only [wS] using h
theorem wp_par {ρ : Env} {Q : Out → Prop} {is : List Nat} {es : Cs} (h : wCs G es ρ fun vs ρ1 => parOk is vs = true ∧ oQ (bindVs ρ1 is vs) fun ρ2 => Q (.nx ρ2)) : wS G (.par is es) ρ Q := by simpa only [wS] using h
theorem wp_sto {ρ : Env} {Q : Out → Prop} {b i c : C} (h : wC G c ρ fun vc ρ1 => oQ (fzVal ρ1 vc) fun p => wC G b p.2 fun vb ρ3 => wC G i ρ3 fun vi ρ4 => vPt vb fun j k => vT vi fun vi => stands (.pt j k) i.wr = true ∧ oQ (getPt ρ4 j k) fun x => ∃ y, setIx x vi p.1 = some y ∧ oQ (setPt (kIx ρ4 j k x vi) j k y) fun ρ5 => Q (.nx ρ5)) : wS G (.sto b i c) ρ Q := by simpa only [wS] using h
theorem wp_app {ρ : Env} {Q : Out → Prop} {b c : C} (h : wC G b ρ fun vb ρ1 => vPt vb fun j k => (∃ ts, getPt ρ1 j k = some (.lst ts)) ∧ wC G c ρ1 fun v ρ2 => oQ (fzVal ρ2 v) fun p => stands (.pt j k) c.wr = true ∧ oQ (getPt p.2 j k) fun x => ∃ y, appT x p.1 = some y ∧ oQ (setPt p.2 j k y) fun ρ4 => Q (.nx ρ4)) : wS G (.app b c) ρ Q := by simpa only [wS] using h
theorem wp_exp {ρ : Env} {Q : Out → Prop} {c : C} (h : wC G c ρ fun _ ρ1 => Q (.nx ρ1)) : wS G (.exp c) ρ Q := by simpa only [wS] using h
theorem wp_ret {ρ : Env} {Q : Out → Prop} {c : C} (h : wC G c ρ fun v ρ1 => oQ (fzVal ρ1 v) fun p => Q (.rt p.1 p.2)) : wS G (.ret c) ρ Q := by simpa only [wS] using h
theorem wp_for {ρ : Env} {Q : Out → Prop} {tg : Tgt} {it : I} {b : Ss} (h : wI G it ρ fun ds ρ1 => LoopF (fun ρ d => (bindD ρ tg d).bind fun ρ2 => evSs G b ρ2) ρ1 ds Q) : wS G (.for tg it b) ρ Q := by simpa only [wS] using h
theorem wb_one {op : BoolOp} {t : Tc} {ρ : Env} {Q : Bool → Env → Prop} (h : wT G t ρ Q) : wB G op (.one t) ρ Q := by simpa only [wB] using h
theorem wb_cons {op : BoolOp} {t : Tc} {ts : Tcs} {ρ : Env} {Q : Bool → Env → Prop} (h : wT G t ρ fun b ρ1 => (b = decide (op = .And) → wB G op ts ρ1 Q) ∧ (b = !decide (op = .And) → Q (!decide (op = .And)) ρ1)) : wB G op (.cons t ts) ρ Q := by simpa only [wB] using h
theorem oQ_in {α : Type} {o : Option α} {a : α} {Q : α → Prop} (e : o = some a) (h : Q a) : oQ o Q := by subst e; exact h
theorem vT_in {v : Val} {t : T} {K : T → Prop} (e : v = .t t) (h : K t) : vT v K := by subst e; exact h
theorem vInt_in {v : Val} {i : Int} {K : Int → Prop} (e : v = .t (.fz (.int i))) (h : K i) : vInt v K := by subst e; exact h
theorem vBool_in {v : Val} {i : Bool} {K : Bool → Prop} (e : v = .t (.fz (.bool i))) (h : K i) : vBool v K := by subst e; exact h
theorem vPt_in {v : Val} {j : Nat} {k : Option Nat} {K : Nat → Option Nat → Prop} (e : v = .pt j k) (h : K j k) : vPt v K := by subst e; exact h
theorem dSeq_1 {d : D} {ds : List D} {K : List D → Prop} (e : d = .list ds) (h : K ds) : dSeq d K := by subst e; exact h
theorem dList_1 {d : D} {ds : List D} {K : List D → Prop} (e : d = .list ds) (h : K ds) : dList d K := by subst e; exact h
theorem wIx_2 {ρ : Env} {va v : Val} {x vi : T} {K : Val → Prop} (e : dictOf x = none) (e2 : ixVal ρ va vi = some v) (h : K v) : wIx ρ va x vi K := by
  unfold wIx; rw [e]; exact ⟨v, e2, h⟩
theorem seqK_rt {w : Env → (Out → Prop) → Prop} {Q : Out → Prop} {ρ : Env} {t : T} (h : Q (.rt t ρ)) : seqK w Q (.rt t ρ) := h
theorem wb_add {i j : Int} {Q : T → Prop} (h : Q (.fz (.int (i + j)))) : wBin .Add (.fz (.int i)) (.fz (.int j)) Q := h
theorem wb_sub {i j : Int} {Q : T → Prop} (h : Q (.fz (.int (i - j)))) : wBin .Sub (.fz (.int i)) (.fz (.int j)) Q := h
theorem wb_mul {i j : Int} {Q : T → Prop} (h1 : okI i = true) (h2 : okI j = true) (h : Q (.fz (.int (i * j)))) : wBin .Mult (.fz (.int i)) (.fz (.int j)) Q := And.intro h1 (And.intro h2 h)
theorem wb_div {i j : Int} {Q : T → Prop} (h1 : 0 < j) (h2 : okI j = true) (h : Q (.fz (.int (i / j)))) : wBin .FloorDiv (.fz (.int i)) (.fz (.int j)) Q := And.intro h1 (And.intro h2 h)
theorem wb_mod {i j : Int} {Q : T → Prop} (h1 : 0 < j) (h : Q (.fz (.int (i % j)))) : wBin .Mod (.fz (.int i)) (.fz (.int j)) Q := And.intro h1 h
theorem wb_pow {i j : Int} {n : Nat} {Q : T → Prop} (h0 : 0 ≤ j) (h1 : j ≤ 1000) (h2 : okI i = true) (e : j.toNat = n) (h : Q (.fz (.int (i ^ n)))) : wBin .Pow (.fz (.int i)) (.fz (.int j)) Q := by
  subst e
  exact And.intro h0 (And.intro h1 (And.intro h2 h))
theorem wb_addT {x y t : T} {Q : T → Prop} (e : addT x y = some t) (h : Q t) : wBin .Add x y Q := by
  unfold wBin
  split
  · cases e; exact h
  all_goals first | contradiction | exact Exists.intro t (And.intro e h)
theorem wc_lt {i j : Int} {Q : Bool → Prop} (h : Q (decide (i < j))) : wCmp .Lt (.fz (.int i)) (.fz (.int j)) Q := h
theorem wc_le {i j : Int} {Q : Bool → Prop} (h : Q (decide (i ≤ j))) : wCmp .LtE (.fz (.int i)) (.fz (.int j)) Q := h
theorem wc_ge {i j : Int} {Q : Bool → Prop} (h : Q (decide (j ≤ i))) : wCmp .GtE (.fz (.int i)) (.fz (.int j)) Q := h
theorem wc_is {x : T} {b : Bool} {Q : Bool → Prop} (e : isNone x = b) (h : Q b) : wCmp .Is x (.fz .none) Q := by subst e; cases x <;> exact h
theorem wl_abs {i : Int} {Q : T → Prop} (h : Q (.fz (.int (if i < 0 then -i else i)))) : wBlt .abs [.fz (.int i)] Q := h
theorem wl_int {i : Int} {Q : T → Prop} (h : Q (.fz (.int i))) : wBlt .int [.fz (.int i)] Q := h
theorem wl_intb {b : Bool} {Q : T → Prop} (h : Q (.fz (.int (if b then 1 else 0)))) : wBlt .int [.fz (.bool b)] Q := h
theorem wl_max {i j : Int} {Q : T → Prop} (h : Q (.fz (.int (if j > i then j else i)))) : wBlt .max2 [.fz (.int i), .fz (.int j)] Q := h
theorem wl_min {i j : Int} {Q : T → Prop} (h : Q (.fz (.int (if j < i then j else i)))) : wBlt .min2 [.fz (.int i), .fz (.int j)] Q := h
theorem wl_any {f : Blt} {ts : List T} {t : T} {Q : T → Prop} (e : appB f ts = some t) (h : Q t) : wBlt f ts Q := by
  unfold wBlt
  split <;> first | exact ⟨t, e, h⟩ | (cases e; exact h)
end
end Mv

end
section
set_option maxRecDepth 100000
namespace Mv
open PySem L2
inductive Done (p : Prop) : Prop | mk (h : p) : Done p
theorem okI_le {i : Int} (h1 : -(10 ^ 400) ≤ i) (h2 : i ≤ 10 ^ 400) : okI i = true := by
  unfold okI
  rw [decide_eq_true_eq]
  have e : (10 : Nat) ^ 400 < 2 ^ 8192 := by decide +kernel
  have : i.natAbs ≤ 10 ^ 400 := by
    have e2 : ((10 ^ 400 : Nat) : Int) = 10 ^ 400 := by norm_cast
    rw [← e2] at h1 h2
    generalize 10 ^ 400 = m at *
    omega
  exact Nat.lt_of_le_of_lt this e
theorem okI_nat {i b : Int} (h0 : 0 ≤ i) (h1 : i ≤ b) (h2 : decide (b ≤ 10 ^ 400) = true) : okI i = true := by
  have c : (0 : Int) ≤ 10 ^ 400 := by decide +kernel
  have h2 := of_decide_eq_true h2
  exact okI_le (by generalize (10 : Int) ^ 400 = z at *; omega) (by generalize (10 : Int) ^ 400 = z at *; omega)
abbrev iT (i : Int) : T := .fz (.int i)
def Src (c0 : Int) (t : T) : Prop := ∃ a b c : Int, t = .lst [iT a, iT b, iT c] ∧ 0 ≤ a ∧ 0 ≤ b ∧ b ≤ 1000000000000000000000000000000000000000000 ∧ 0 ≤ c ∧ c ≤ c0
end Mv
namespace Mv
open PySem L2
def Free (s : Slot) : Prop := s = .no ∨ ∃ z, s = .ow z
theorem Free.no : Free .no := .inl rfl
theorem Free.keep {o : Option Slot} : Free (keepS o) := by
  unfold keepS
  split
  · exact .inr ⟨_, rfl⟩
  · exact .inl rfl
theorem Free.ow {z : T} : Free (.ow z) := .inr ⟨z, rfl⟩
theorem kill_free {j : Nat} {k : Option Nat} {s : Slot} (hs : Free s) : kill j k s = s := by
  rcases hs with rfl | ⟨z, rfl⟩ <;> rfl
end Mv
namespace Mv
open PySem L2
theorem Free.kill {j : Nat} {k : Option Nat} {s : Slot} (hs : Free s) : Free (Mv.kill j k s) := by rw [kill_free hs]; exact hs
theorem lt_size {n : Nat} (h : n ≤ 1000000) : n < sizeLine := Nat.lt_of_le_of_lt h (by decide)
end Mv
namespace Mv
theorem Src.mono {c d : Int} {t : T} (h : Src c t) (e : c ≤ d) : Src d t := by
  obtain ⟨a, b, x, rfl, h1, h2, h3, h4, h5⟩ := h
  exact ⟨a, b, x, rfl, h1, h2, h3, h4, by omega⟩
end Mv
namespace Mv
theorem bindS_eq {ρ : Env} {i : Nat} {s : Slot} {t : T} (h : ρ[i]? = some s) (hs : Free s) : bindS ρ i (.t t) = some ((kills i .none ρ).set i (.ow t)) := by
  rcases hs with rfl | ⟨z, rfl⟩ <;> (unfold bindS; rw [h])
end Mv
namespace Mv
end Mv

end
section
namespace Mv
open PySem L2
section
variable {α : Type}
def getI (kv : List (Int × α)) (k : Int) : Option α := match kv with
  | [] => none
  | (k', v) :: r => if k' = k then some v else getI r k
def putI (kv : List (Int × α)) (k : Int) (v : α) : List (Int × α) := match kv with
  | [] => [(k, v)]
  | (k', v') :: r => if k' = k then (k', v) :: r else (k', v') :: putI r k v
theorem getI_put (kv : List (Int × α)) (k : Int) (v : α) (j : Int) : getI (putI kv k v) j = if k = j then some v else getI kv j := by
  induction kv with
  | nil => simp [putI, getI]
  | cons p r ih =>
    obtain ⟨k', v'⟩ := p
    unfold putI
    by_cases h : k' = k
    · subst h
      simp only [if_true, getI]
      split <;> rfl
    · simp only [if_neg h, getI, ih]
      by_cases h2 : k' = j
      · subst h2; simp [Ne.symm h]
      · simp [h2]
def dctT (e : α → D) (kv : List (Int × α)) : T := .dct (kv.map fun p => .inl p.1) (kv.map fun p => .fz (e p.2))
theorem unfzs_fl (ds : List D) : T.unfzs (fzs ds) = some ds := by
  induction ds with
  | nil => rfl
  | cons d ds ih =>
    show (match T.unfz (.fz d), T.unfzs (fzs ds) with
      | some d, some ds => some (d :: ds)
      | _, _ => none) = _
    rw [ih]; rfl
theorem toDs_fzs (ds : List D) : T.toDs (fzs ds) = ds := by
  induction ds with
  | nil => rfl
  | cons d ds ih =>
    show T.toD (.fz d) :: T.toDs (fzs ds) = d :: ds
    rw [ih]; rfl
theorem fl_toD (ds : List D) : (T.fl ds).toD = .list ds := by
  show D.list (T.toDs (fzs ds)) = _
  rw [toDs_fzs]
theorem flat_fl (ds : List D) : (T.fl ds).flat = some ds := unfzs_fl ds
theorem intsOf_map (l : List Int) : intsOf (l.map D.int) = some l := by
  induction l with
  | nil => rfl
  | cons x l ih => simp only [List.map_cons, intsOf, ih, Option.map_some]
end
end Mv

end
section
namespace Mv
open PySem L2
section
variable {α β σ : Type}
theorem bnd {o : Option α} {k : α → Option β} {r : β} (h : o.bind k = some r) : ∃ x, o = some x ∧ k x = some r := Option.bind_eq_some_iff.mp h
def mulG (a b : Int) : Option Int := if okI a && okI b then some (a * b) else none
def divG (a b : Int) : Option Int := if decide (0 < b) && okI b then some (a / b) else none
def modG (a b : Int) : Option Int := if 0 < b then some (a % b) else none
def powG (a : Int) (n : Nat) : Option Int := if okI a then some (a ^ n) else none
theorem mulG_some {a b x : Int} (h : mulG a b = some x) : okI a = true ∧ okI b = true ∧ x = a * b := by
  unfold mulG at h
  split at h
  · rename_i k; simp only [Bool.and_eq_true] at k; cases h; exact ⟨k.1, k.2, rfl⟩
  · cases h
theorem divG_some {a b x : Int} (h : divG a b = some x) : 0 < b ∧ okI b = true ∧ x = a / b := by
  unfold divG at h
  split at h
  · rename_i k; simp only [Bool.and_eq_true, decide_eq_true_eq] at k; cases h; exact ⟨k.1, k.2, rfl⟩
  · cases h
theorem modG_some {a b x : Int} (h : modG a b = some x) : 0 < b ∧ x = a % b := by
  unfold modG at h
  split at h
  · cases h; exact ⟨‹_›, rfl⟩
  · cases h
theorem powG_some {a x : Int} {n : Nat} (h : powG a n = some x) : okI a = true ∧ x = a ^ n := by
  unfold powG at h
  split at h
  · cases h; exact ⟨‹_›, rfl⟩
  · cases h
def appG (l : List α) (x : α) : Option (List α) := if l.length < sizeLine then some (l ++ [x]) else none
theorem appG_some {l r : List α} {x : α} (h : appG l x = some r) : l.length < sizeLine ∧ r = l ++ [x] := by
  unfold appG at h
  split at h
  · cases h; exact ⟨‹_›, rfl⟩
  · cases h
def catG (l m : List α) : Option (List α) := if l.length + m.length ≤ sizeLine then some (l ++ m) else none
theorem catG_some {l m r : List α} (h : catG l m = some r) : l.length + m.length ≤ sizeLine ∧ r = l ++ m := by
  unfold catG at h
  split at h
  · cases h; exact ⟨‹_›, rfl⟩
  · cases h
def repG (l : List α) (n : Int) : Option (List α) := if -(2 ^ 63) ≤ n ∧ n < 2 ^ 63 ∧ l.length * n.toNat ≤ sizeLine then some (List.replicate n.toNat l).flatten else none
def ixG (l : List α) (i : Int) : Option α := (place i l.length).bind fun k => l[k]?
def stoG (l : List α) (i : Int) (x : α) : Option (List α) := (place i l.length).map fun k => l.set k x
def sliG (l : List α) (lo hi : Option Int) : Option (List α) := if okB lo && okB hi then some ((l.drop (HT.sIx l.length 0 lo)).take (HT.sIx l.length l.length hi - HT.sIx l.length 0 lo)) else none
theorem sliG_some {l r : List α} {lo hi : Option Int} (h : sliG l lo hi = some r) : okB lo = true ∧ okB hi = true ∧ r = (l.drop (HT.sIx l.length 0 lo)).take (HT.sIx l.length l.length hi - HT.sIx l.length 0 lo) := by
  unfold sliG at h
  split at h
  · rename_i k; simp only [Bool.and_eq_true] at k; cases h; exact ⟨k.1, k.2, rfl⟩
  · cases h
def rngI (lo hi : Int) : List Int := (List.range (hi - lo).toNat).map fun (n : Nat) => lo + (n : Int)
def rngG (lo hi : Int) : Option (List Int) := if okR lo && okR hi then some (rngI lo hi) else none
theorem rngG_some {lo hi : Int} {r : List Int} (h : rngG lo hi = some r) : okR lo = true ∧ okR hi = true ∧ r = rngI lo hi := by
  unfold rngG at h
  split at h
  · rename_i k; simp only [Bool.and_eq_true] at k; cases h; exact ⟨k.1, k.2, rfl⟩
  · cases h
def rngDn (lo hi : Int) : List Int := (List.range (lo - hi).toNat).map fun (n : Nat) => lo - (n : Int)
def rngBG (lo hi : Int) : Option (List Int) := if okR0 lo && okR0 hi then some (rngDn lo hi) else none
def enumI : Nat → List α → List (Int × α)
  | _, [] => []
  | n, x :: l => ((n : Int), x) :: enumI (n + 1) l
def putG (kv : List (Int × α)) (k : Int) (v : α) : Option (List (Int × α)) := if kv.length < sizeLine then some (putI kv k v) else none
def reprG (d : D) : Option Str := if reprOk d then some d.toPy.shown else none
theorem reprG_some {d : D} {x : Str} (h : reprG d = some x) : reprOk d = true ∧ x = d.toPy.shown := by
  unfold reprG at h
  split at h
  · cases h; exact ⟨‹_›, rfl⟩
  · cases h
def forP (f : σ → α → Option σ) : List α → σ → Option σ
  | [], s => some s
  | x :: l, s => (f s x).bind fun s' => forP f l s'
def forR (f : σ → α → Option (σ ⊕ β)) : List α → σ → Option (σ ⊕ β)
  | [], s => some (.inl s)
  | x :: l, s => (f s x).bind fun r => match r with | .inl s' => forR f l s' | .inr b => some (.inr b)
def whP (t : σ → Option Bool) (f : σ → Option σ) : Nat → σ → Option σ
  | 0, _ => none
  | n + 1, s => (t s).bind fun b => if b = true then (f s).bind fun s' => whP t f n s' else some s
def lcP (f : α → Option (Option β)) : List α → Option (List β)
  | [] => some []
  | x :: l => (f x).bind fun o => (lcP f l).map fun r => match o with | some y => y :: r | none => r
def lcG (f : α → Option (Option β)) (l : List α) : Option (List β) := (lcP f l).bind fun r => if r.length ≤ sizeLine then some r else none
theorem lcG_some {f : α → Option (Option β)} {l : List α} {r : List β} (h : lcG f l = some r) : lcP f l = some r ∧ r.length ≤ sizeLine := by
  obtain ⟨x, h1, h2⟩ := bnd h
  split at h2
  · cases h2; exact ⟨h1, ‹_›⟩
  · cases h2
def lcS (f : σ → α → Option (Option β × σ)) : List α → σ → Option (List β × σ)
  | [], s => some ([], s)
  | x :: l, s => (f s x).bind fun p => (lcS f l p.2).map fun r => (match p.1 with | some y => y :: r.1 | none => r.1, r.2)
def lcSG (f : σ → α → Option (Option β × σ)) (l : List α) (s : σ) : Option (List β × σ) := (lcS f l s).bind fun r => if r.1.length ≤ sizeLine then some r else none
theorem lcSG_some {f : σ → α → Option (Option β × σ)} {l : List α} {s : σ} {r : List β × σ} (h : lcSG f l s = some r) : lcS f l s = some r ∧ r.1.length ≤ sizeLine := by
  obtain ⟨x, h1, h2⟩ := bnd h
  split at h2
  · cases h2; exact ⟨h1, ‹_›⟩
  · cases h2
inductive NoAl : Env → Prop
  | nil : NoAl []
  | ow {t ρ} (h : NoAl ρ) : NoAl (.ow t :: ρ)
  | io {t ρ} (h : NoAl ρ) : NoAl (.io t :: ρ)
  | no {ρ} (h : NoAl ρ) : NoAl (.no :: ρ)
  | fr {s ρ} (f : Free s) (h : NoAl ρ) : NoAl (s :: ρ)
  | lk {ρ} (h : NoAl ρ) : NoAl (.lk :: ρ)
theorem NoAl.kills {ρ : Env} (h : NoAl ρ) (i : Nat) (k : Option Nat) : Mv.kills i k ρ = ρ := by
  unfold Mv.kills
  induction h with
  | nil => rfl
  | ow h ih => rw [List.map_cons, ih]; rfl
  | io h ih => rw [List.map_cons, ih]; rfl
  | no h ih => rw [List.map_cons, ih]; rfl
  | fr f h ih => rw [List.map_cons, ih, kill_free f]
  | lk h ih => rw [List.map_cons, ih]; rfl
theorem NoAl.killAll {ρ : Env} (h : NoAl ρ) : ∀ is : List Nat, Mv.killAll ρ is = ρ
  | [] => rfl
  | i :: is => by unfold Mv.killAll; rw [NoAl.killAll h is, h.kills]
section
variable {G : Gam} {ρ ρ1 ρ2 : Env} {Q : Out → Prop} {ss : Ss} {i j : Nat} {t : T} {s : Slot} {is : List Nat} {ts : List T}
def kSs (G : Gam) (b : Ss) (ρ : Env) (Q : Out → Prop) : Prop := ∃ o, evSs G b ρ = some o ∧ Q o
theorem ks_nil (h : Q (.nx ρ)) : kSs G .nil ρ Q := ⟨_, by simp only [evSs], h⟩
theorem seq_ev {st : S} {o : Out} (e : evS G st ρ = some o) (h : seqK (kSs G ss) Q o) : kSs G (.cons st ss) ρ Q := by
  cases o with
  | nx ρ1 =>
    obtain ⟨o2, e2, q⟩ := fE_el ρ1 h
    exact ⟨o2, by simp only [evSs, e]; exact e2, q⟩
  | rt t ρ1 => exact ⟨_, by simp only [evSs, e], h⟩
  | bk ρ1 => exact ⟨_, by simp only [evSs, e], h⟩
  | ct ρ1 => exact ⟨_, by simp only [evSs, e], h⟩
theorem ks_cons {st : S} (h : wS G st ρ (seqK (kSs G ss) Q)) : kSs G (.cons st ss) ρ Q := by
  obtain ⟨o, e, q⟩ := wS_ok st h
  exact seq_ev e q
def isNx (ρ2 : Env) (o : Out) : Prop := o = .nx ρ2
theorem ite_ev {c : Tc} {a b : Ss} {P : Out → Prop} (h : wT G c ρ fun k ρ1 => (k = true → kSs G a ρ1 P) ∧ (k = false → kSs G b ρ1 P)) : ∃ o, evS G (.ite c a b) ρ = some o ∧ P o := by
  obtain ⟨k, ρ1, e, h1, h2⟩ := wT_ok c h
  cases k with
  | true => obtain ⟨o, e2, q⟩ := h1 rfl; exact ⟨o, by simp only [evS, e]; exact e2, q⟩
  | false => obtain ⟨o, e2, q⟩ := h2 rfl; exact ⟨o, by simp only [evS, e]; exact e2, q⟩
theorem ks_ite {c : Tc} {a b : Ss} (h : wT G c ρ fun k ρ1 => (k = true → kSs G a ρ1 (seqK (kSs G ss) Q)) ∧ (k = false → kSs G b ρ1 (seqK (kSs G ss) Q))) : kSs G (.cons (.ite c a b) ss) ρ Q := by
  obtain ⟨o, e, q⟩ := ite_ev h
  exact seq_ev e q
theorem ks_iteC {c : Tc} {a b : Ss} {P : Out → Prop} (h : wT G c ρ fun k ρ1 => (k = true → kSs G a ρ1 P) ∧ (k = false → kSs G b ρ1 P)) (k : ∀ o, P o → seqK (kSs G ss) Q o) : kSs G (.cons (.ite c a b) ss) ρ Q := by
  obtain ⟨o, e, q⟩ := ite_ev h
  exact seq_ev e (k o q)
theorem nxe (e : ρ = ρ2) (h : kSs G ss ρ2 Q) : seqK (kSs G ss) Q (.nx ρ) := by subst e; exact fE_in ρ h
theorem set_in (na : NoAl ρ) (e : ρ[i]? = some s) (f : Free s) (e2 : ρ.set i (.ow t) = ρ2) (q : Q (.nx ρ2)) : oQ (bindS ρ i (.t t)) fun ρ2 => Q (.nx ρ2) := by
  rw [bindS_eq e f, na.kills, e2]; exact q
theorem setB_in {R : Env → Prop} (na : NoAl ρ) (e : ρ[i]? = some s) (f : Free s) (e2 : ρ.set i (.ow t) = ρ2) (q : R ρ2) : oQ (bindS ρ i (.t t)) R := by
  rw [bindS_eq e f, na.kills, e2]; exact q
theorem bvs_nil {R : Env → Prop} (q : R ρ) : oQ (bindVs ρ [] []) R := q
theorem bvs_cons {R : Env → Prop} {vs : List Val} (na : NoAl ρ) (e : ρ[i]? = some s) (f : Free s) (e2 : ρ.set i (.ow t) = ρ2) (q : oQ (bindVs ρ2 is vs) R) : oQ (bindVs ρ (i :: is) (.t t :: vs)) R := by
  simp only [bindVs, bindS_eq e f, na.kills, e2, Option.bind_some]; exact q
theorem bd_nm {R : Env → Prop} {d : D} (na : NoAl ρ) (e : ρ[i]? = some s) (f : Free s) (e2 : ρ.set i (.ow (.fz d)) = ρ2) (q : R ρ2) : oQ (bindD ρ (.nm i) d) R := setB_in (t := .fz d) na e f e2 q
theorem bd_go_nil {R : Env → Prop} (q : R ρ) : oQ (bindD.go ρ [] []) R := q
theorem bd_go_cons {R : Env → Prop} {d : D} {ds : List D} (na : NoAl ρ) (e : ρ[i]? = some s) (f : Free s) (e2 : ρ.set i (.ow (.fz d)) = ρ2) (q : oQ (bindD.go ρ2 is ds) R) : oQ (bindD.go ρ (i :: is) (d :: ds)) R := by
  simp only [bindD.go, bindS_eq e f, na.kills, e2, Option.bind_some]; exact q
theorem call_g {f : Fn} {vs : List Val} {R : T → Env → Prop} {ios : List T} (na : NoAl ρ) (h1 : ioOk f.io vs = true) (h2 : argTs ρ f.io vs = some ts) (e : f.run ts = some (t, ios)) (h3 : ((rdSlots f.io vs).isEmpty || (t.imm && T.imms ios && brOk ρ (rdSlots f.io vs))) = true)
    (h4 : putIo ρ f.io vs ios = some ρ1) (h5 : ρ1 = ρ2) (q : R t ρ2) : wCall f ρ vs R := by
  subst h5
  exact ⟨h1, oQ_in h2 ⟨t, ios, e, h3, oQ_in (by rw [na.killAll]; exact h4) (fE_in _ (fT_in _ q))⟩⟩
def isRet (io : List Bool) (t0 : T) (os : List T) : Out → Prop
  | .rt t ρ => t = t0 ∧ ioOuts ρ io 0 = some os
  | .nx ρ => T.fz .none = t0 ∧ ioOuts ρ io 0 = some os
  | _ => False
theorem ret_in {io : List Bool} {t0 : T} {os : List T} (e1 : t = t0) (e2 : ioOuts ρ io 0 = some os) : isRet io t0 os (.rt t ρ) := ⟨e1, e2⟩
theorem end_in {io : List Bool} {t0 : T} {os : List T} (e1 : T.fz .none = t0) (e2 : ioOuts ρ io 0 = some os) : isRet io t0 os (.nx ρ) := ⟨e1, e2⟩
theorem run_g {io : List Bool} {n : Nat} {body : Ss} {t0 : T} {os : List T} (hl : ts.length = io.length) (e : start0 io ts ++ List.replicate (n - ts.length) .no = ρ) (h : kSs G body ρ (isRet io t0 os)) : runDef G io n body ts = some (t0, os) := by
  subst e
  obtain ⟨o, e, q⟩ := h
  unfold runDef
  rw [if_pos hl, e]
  cases o with
  | rt t ρ => obtain ⟨rfl, e2⟩ := q; simp only [e2]; rfl
  | nx ρ => obtain ⟨rfl, e2⟩ := q; simp only [e2]; rfl
  | bk ρ => exact q.elim
  | ct ρ => exact q.elim
theorem wc_eq_t {i j : Int} {R : Bool → Prop} (c : i = j) (h : R true) : wCmp .Eq (.fz (.int i)) (.fz (.int j)) R := by show R (decide (i = j)); rw [decide_eq_true c]; exact h
theorem wc_eq_f {i j : Int} {R : Bool → Prop} (c : ¬ i = j) (h : R false) : wCmp .Eq (.fz (.int i)) (.fz (.int j)) R := by show R (decide (i = j)); rw [decide_eq_false c]; exact h
theorem wc_lt_t {i j : Int} {R : Bool → Prop} (c : i < j) (h : R true) : wCmp .Lt (.fz (.int i)) (.fz (.int j)) R := by show R (decide (i < j)); rw [decide_eq_true c]; exact h
theorem wc_lt_f {i j : Int} {R : Bool → Prop} (c : ¬ i < j) (h : R false) : wCmp .Lt (.fz (.int i)) (.fz (.int j)) R := by show R (decide (i < j)); rw [decide_eq_false c]; exact h
theorem wc_gt_t {i j : Int} {R : Bool → Prop} (c : j < i) (h : R true) : wCmp .Gt (.fz (.int i)) (.fz (.int j)) R := by show R (decide (j < i)); rw [decide_eq_true c]; exact h
theorem wc_gt_f {i j : Int} {R : Bool → Prop} (c : ¬ j < i) (h : R false) : wCmp .Gt (.fz (.int i)) (.fz (.int j)) R := by show R (decide (j < i)); rw [decide_eq_false c]; exact h
theorem wCmp_in {op : CmpOp} {x y : T} {b : Bool} {R : Bool → Prop} (e : cmpT op x y = some b) (h : R b) : wCmp op x y R := by
  unfold wCmp
  split
  · have : some (decide (_ = _)) = some b := (deq_int _ _).symm.trans e
    cases this; exact h
  · simp only [cmpT, T.toD, deq_int] at e
    cases e; exact h
  · cases e; exact h
  · cases e; exact h
  · cases e; exact h
  · cases e; exact h
  · simp only [cmpT, isNone, if_true] at e
    cases e; exact h
  · simp only [cmpT, isNone, if_true] at e
    cases e; exact h
  · exact ⟨b, e, h⟩
theorem appT_fl {e : α → D} {l : List α} {x : α} (h : l.length < sizeLine) : appT (T.fl (l.map e)) (.fz (e x)) = some (T.fl ((l ++ [x]).map e)) := by
  simp only [appT, T.fl, fzs, List.length_map, decide_eq_true h, if_true, List.map_append, List.map_cons, List.map_nil]
theorem getIx_fl {e : α → D} {l : List α} {i : Int} {x : α} (h : ixG l i = some x) : ∃ k, getIx (T.fl (l.map e)) (iT i) = some (.fz (e x), some k) := by
  obtain ⟨k, h1, h2⟩ := bnd h
  refine ⟨k, ?_⟩
  simp only [getIx, T.fl, fzs, List.length_map, h1, List.getElem?_map, h2, Option.map_some]
theorem ixVal_fl {e : α → D} {l : List α} {i : Int} {x : α} {j : Nat} {k : Option Nat} (h : ixG l i = some x) (hp : getPt ρ j k = some (T.fl (l.map e))) : ixVal ρ (.pt j k) (iT i) = some (.t (.fz (e x))) := by
  obtain ⟨m, g⟩ := getIx_fl (e := e) h
  simp only [ixVal, hp, g]
theorem ixVal_flT {e : α → D} {l : List α} {i : Int} {x : α} (h : ixG l i = some x) : ixVal ρ (.t (T.fl (l.map e))) (iT i) = some (.t (.fz (e x))) := by
  obtain ⟨m, g⟩ := getIx_fl (e := e) h
  simp only [ixVal, g, Option.map_some]
theorem setIx_fl {e : α → D} {l r : List α} {i : Int} {x : α} (h : stoG l i x = some r) : setIx (T.fl (l.map e)) (iT i) (.fz (e x)) = some (T.fl (r.map e)) := by
  obtain ⟨k, h1, h2⟩ := Option.map_eq_some_iff.mp h
  subst h2
  simp only [setIx, T.fl, fzs, List.length_map, h1, List.map_set]
theorem fzVal_fl {e : α → D} {l : List α} (h : ρ[i]? = some (.ow (T.fl (l.map e)))) (e2 : ρ.set i (.ow (.fz (.list (l.map e)))) = ρ2) : fzVal ρ (.pt i none) = some (.fz (.list (l.map e)), ρ2) := by
  have g : getPt ρ i none = some (T.fl (l.map e)) := by simp only [getPt, h, slotT]
  simp only [fzVal, g, h, setPt, setSlotT, Option.map_some, fl_toD, e2]
theorem slT_list {e : α → D} {l r : List α} {lo hi : Option Int} (h : r = (l.drop (HT.sIx l.length 0 lo)).take (HT.sIx l.length l.length hi - HT.sIx l.length 0 lo)) : slT (.fz (.list (l.map e))) lo hi = some (T.fl (r.map e)) := by
  subst h
  simp only [slT, T.flat, Option.map_some, slD, List.length_map, List.map_take, List.map_drop]
theorem slT_fl {e : α → D} {l r : List α} {lo hi : Option Int} (h : r = (l.drop (HT.sIx l.length 0 lo)).take (HT.sIx l.length l.length hi - HT.sIx l.length 0 lo)) : slT (T.fl (l.map e)) lo hi = some (T.fl (r.map e)) := by
  subst h
  show ((T.fl (l.map e)).flat).map (fun ds => T.fl (slD ds lo hi)) = _
  rw [flat_fl]
  simp only [Option.map_some, slD, List.length_map, List.map_take, List.map_drop]
theorem addT_gen {e : α → D} {l m : List α} {x y : T} (hx : x.flat = some (l.map e)) (hy : y.flat = some (m.map e)) (nx : ∀ d, x = .fz d → ∃ ds, d = .list ds) (h : l.length + m.length ≤ sizeLine) : addT x y = some (T.fl ((l ++ m).map e)) := by
  have e : okLen ((l.map e).length + (m.map e).length) = true := by
    unfold okLen; simp only [List.length_map, decide_eq_true_eq]; exact h
  unfold addT
  split
  · obtain ⟨ds, z⟩ := nx _ rfl; cases z
  · obtain ⟨ds, z⟩ := nx _ rfl; cases z
  · obtain ⟨ds, z⟩ := nx _ rfl; cases z
  · rw [hx, hy]; simp only [e, if_true, List.map_append]
theorem addT_lf {e : α → D} {l m : List α} (h : l.length + m.length ≤ sizeLine) : addT (.fz (.list (l.map e))) (T.fl (m.map e)) = some (T.fl ((l ++ m).map e)) := addT_gen rfl (flat_fl _) (fun d z => by cases z; exact ⟨_, rfl⟩) h
def sortG (ds : List D) : Option (List D) := if sortOk ds then some (sortD ds) else none
def leP (a b : Int × Int) : Bool := decide (a.1 < b.1 ∨ (a.1 = b.1 ∧ a.2 ≤ b.2))
def sortP (l : List (Int × Int)) : List (Int × Int) := l.mergeSort leP
abbrev eP : Int × Int → D := fun p => .tup [.int p.1, .int p.2]
def maxG : List Int → Option Int
  | [] => none
  | n :: ns => some (maxI n ns)
def minG : List Int → Option Int
  | [] => none
  | n :: ns => some (minI n ns)
def maxDf (l : List Int) (d : Int) : Int := match l with | [] => d | n :: ns => maxI n ns
def minDf (l : List Int) (d : Int) : Int := match l with | [] => d | n :: ns => minI n ns
theorem len_fl {e : α → D} {l : List α} {R : T → Prop} (h : R (iT l.length)) : wBlt .len [T.fl (l.map e)] R := by
  show R (.fz (.int ((fzs (l.map e)).length : Nat)))
  unfold fzs; rw [List.length_map, List.length_map]; exact h
theorem len_list {e : α → D} {l : List α} {R : T → Prop} (h : R (iT l.length)) : wBlt .len [.fz (.list (l.map e))] R := by
  show R (.fz (.int ((l.map e).length : Nat)))
  rw [List.length_map]; exact h
theorem repr_g {t : T} {d : D} (e : t.toD = d) (h : reprOk d = true) : appB .repr [t] = some (.fz (.str d.toPy.shown)) := by
  subst e
  simp only [appB, h, if_true]
theorem rangeD_map (lo hi : Int) : rangeD lo hi = (rngI lo hi).map D.int := by
  simp only [rangeD, rngI, List.map_map]; rfl
theorem enumD_map {e : α → D} (l : List α) : ∀ n, enumD n (l.map e) = (enumI n l).map fun p => D.ltp [.int p.1, e p.2] := by
  induction l with
  | nil => intro n; rfl
  | cons x l ih => intro n; simp only [List.map_cons, enumD, enumI, ih]
theorem loop_cast {f : Env → D → Option Out} {ds ds' : List D} (e : ds = ds') (h : LoopF f ρ ds' Q) : LoopF f ρ ds Q := by subst e; exact h
theorem loopC_cast {f : Env → D → Option (Option T × Env)} {own : List Nat} {ds ds' : List D} {R : List T → Env → Prop} (e : ds = ds') (h : LoopC f own ρ ds' R) : LoopC f own ρ ds R := by subst e; exact h
def lpN (P : Env → Prop) : Out → Prop
  | .nx ρ => P ρ
  | .ct ρ => P ρ
  | _ => False
theorem lpN_nx {P : Env → Prop} (h : P ρ) : lpN P (.nx ρ) := h
theorem for_sim {tg : Tgt} {b : Ss} {body : σ → α → Option σ} {e : α → D} {l : List α} {s0 s1 : σ} (E : σ → Env → Prop) (hf : forP body l s0 = some s1) (h0 : E s0 ρ)
    (hs : ∀ (x : α) (s s' : σ) (ρ : Env), x ∈ l → body s x = some s' → E s ρ → oQ (bindD ρ tg (e x)) fun ρ2 => kSs G b ρ2 (lpN (E s')))
    (hd : ∀ ρ, E s1 ρ → Q (.nx ρ)) : LoopF (fun ρ d => (bindD ρ tg d).bind fun ρ2 => evSs G b ρ2) ρ (l.map e) Q := by
  constructor
  induction l generalizing s0 ρ with
  | nil => cases hf; exact ⟨_, rfl, hd ρ h0⟩
  | cons x l ih =>
    obtain ⟨s', h1, h2⟩ := bnd hf
    obtain ⟨ρ2, e1, h3⟩ := oQ_ok (hs x s0 s' ρ (by simp) h1 h0)
    obtain ⟨o, e2, q⟩ := h3
    rw [List.map_cons]
    unfold forLoop
    simp only [e1, Option.bind_some, e2]
    cases o with
    | nx ρ' => exact ih h2 q fun y s s' ρ hy => hs y s s' ρ (by simp [hy])
    | ct ρ' => exact ih h2 q fun y s s' ρ hy => hs y s s' ρ (by simp [hy])
    | bk ρ' => exact q.elim
    | rt t ρ' => exact q.elim
def lpR (E : σ → Env → Prop) (R : β → Out → Prop) (r : σ ⊕ β) : Out → Prop
  | .nx ρ => ∃ s, r = .inl s ∧ E s ρ
  | .ct ρ => ∃ s, r = .inl s ∧ E s ρ
  | .rt t ρ => ∃ b, r = .inr b ∧ R b (.rt t ρ)
  | .bk _ => False
theorem lpR_nx {E : σ → Env → Prop} {R : β → Out → Prop} {s : σ} (h : E s ρ) : lpR E R (.inl s) (.nx ρ) := ⟨s, rfl, h⟩
theorem lpR_rt {E : σ → Env → Prop} {R : β → Out → Prop} {b : β} (h : R b (.rt t ρ)) : lpR E R (.inr b) (.rt t ρ) := ⟨b, rfl, h⟩
theorem for_simR {tg : Tgt} {b : Ss} {body : σ → α → Option (σ ⊕ β)} {e : α → D} {l : List α} {s0 : σ} {r : σ ⊕ β} (E : σ → Env → Prop) (R : β → Out → Prop) (hf : forR body l s0 = some r) (h0 : E s0 ρ)
    (hs : ∀ (x : α) (s : σ) (r : σ ⊕ β) (ρ : Env), x ∈ l → body s x = some r → E s ρ → oQ (bindD ρ tg (e x)) fun ρ2 => kSs G b ρ2 (lpR E R r))
    (hd : ∀ s ρ, r = .inl s → E s ρ → Q (.nx ρ)) (hr : ∀ b t ρ, r = .inr b → R b (.rt t ρ) → Q (.rt t ρ)) : LoopF (fun ρ d => (bindD ρ tg d).bind fun ρ2 => evSs G b ρ2) ρ (l.map e) Q := by
  constructor
  induction l generalizing s0 ρ with
  | nil => cases hf; exact ⟨_, rfl, hd s0 ρ rfl h0⟩
  | cons x l ih =>
    obtain ⟨r', h1, h2⟩ := bnd hf
    obtain ⟨ρ2, e1, h3⟩ := oQ_ok (hs x s0 r' ρ (by simp) h1 h0)
    obtain ⟨o, e2, q⟩ := h3
    rw [List.map_cons]
    unfold forLoop
    simp only [e1, Option.bind_some, e2]
    cases o with
    | nx ρ' => obtain ⟨s, rfl, q⟩ := q; exact ih h2 q fun y s r ρ hy => hs y s r ρ (by simp [hy])
    | ct ρ' => obtain ⟨s, rfl, q⟩ := q; exact ih h2 q fun y s r ρ hy => hs y s r ρ (by simp [hy])
    | bk ρ' => exact q.elim
    | rt t ρ' =>
      obtain ⟨b', rfl, q⟩ := q
      cases h2
      exact ⟨_, rfl, hr b' t ρ' rfl q⟩
def lcB (G : Gam) (tests : Tco) (elt : C) (own : List Nat) (e2 : β → D) (P : Env → Prop) (o : Option β) (ρ2 : Env) : Prop := match tests with
  | .none => wC G elt ρ2 fun v ρ3 => oQ (fzVal ρ3 v) fun p => (∃ y, o = some y ∧ p.1 = .fz (e2 y)) ∧ P (wipeE p.2 own)
  | .some t => wT G t ρ2 fun k ρ3 => (k = true → wC G elt ρ3 fun v ρ4 => oQ (fzVal ρ4 v) fun p => (∃ y, o = some y ∧ p.1 = .fz (e2 y)) ∧ P (wipeE p.2 own)) ∧ (k = false → o = none ∧ P (wipeE ρ3 own))
theorem lcB_none {elt : C} {own : List Nat} {e2 : β → D} {P : Env → Prop} {o : Option β} (h : wC G elt ρ2 fun v ρ3 => oQ (fzVal ρ3 v) fun p => (∃ y, o = some y ∧ p.1 = .fz (e2 y)) ∧ P (wipeE p.2 own)) : lcB G .none elt own e2 P o ρ2 := h
theorem lcB_some {elt : C} {own : List Nat} {t : Tc} {e2 : β → D} {P : Env → Prop} {o : Option β} (h : wT G t ρ2 fun k ρ3 => (k = true → wC G elt ρ3 fun v ρ4 => oQ (fzVal ρ4 v) fun p => (∃ y, o = some y ∧ p.1 = .fz (e2 y)) ∧ P (wipeE p.2 own)) ∧ (k = false → o = none ∧ P (wipeE ρ3 own))) : lcB G (.some t) elt own e2 P o ρ2 := h
theorem lc_sim {tg : Tgt} {tests : Tco} {elt : C} {own : List Nat} {f : α → Option (Option β)} {e : α → D} {e2 : β → D} {l : List α} {r : List β} {R : List T → Env → Prop} (P : Env → Prop) (hf : lcP f l = some r) (h0 : P ρ)
    (hs : ∀ (x : α) (o : Option β) (ρ : Env), x ∈ l → f x = some o → P ρ → oQ (bindD ρ tg (e x)) (lcB G tests elt own e2 P o))
    (hd : ∀ ρ, P ρ → R (fzs (r.map e2)) ρ) : LoopC (lcStep tg (evTo G tests) (evC G elt)) own ρ (l.map e) R := by
  constructor
  have go : ∀ (l : List α) (r : List β) (acc : List T) (ρ : Env), (∀ x ∈ l, ∀ (o : Option β) (ρ : Env), f x = some o → P ρ → oQ (bindD ρ tg (e x)) (lcB G tests elt own e2 P o)) →
      lcP f l = some r → P ρ → ∃ ρ5, lcLoop (lcStep tg (evTo G tests) (evC G elt)) own ρ (l.map e) acc = some (acc ++ fzs (r.map e2), ρ5) ∧ P ρ5 := by
    intro l
    induction l with
    | nil => intro r acc ρ _ hf hp; cases hf; exact ⟨ρ, by simp [lcLoop, fzs], hp⟩
    | cons x l ih =>
      intro r acc ρ hx hf hp
      obtain ⟨o, h1, h2⟩ := bnd hf
      obtain ⟨r', h3, h4⟩ := Option.map_eq_some_iff.mp h2
      have st : ∃ ot ρ1, lcStep tg (evTo G tests) (evC G elt) ρ (e x) = some (ot, ρ1) ∧ (ot = o.map fun y => .fz (e2 y)) ∧ P (wipeE ρ1 own) := by
        obtain ⟨ρ2, e1, h⟩ := oQ_ok (hx x (by simp) o ρ h1 hp)
        cases tests with
        | none =>
          have h : wC G elt ρ2 fun v ρ3 => oQ (fzVal ρ3 v) fun p => (∃ y, o = some y ∧ p.1 = .fz (e2 y)) ∧ P (wipeE p.2 own) := h
          obtain ⟨v, ρ3, q1, h⟩ := wC_ok elt h
          obtain ⟨p, q2, ⟨y, q3, q4⟩, q5⟩ := oQ_ok h
          exact ⟨some p.1, p.2, by simp only [lcStep, e1, Option.bind_some, evTo, q1, q2]; rfl, by rw [q3, q4]; rfl, q5⟩
        | some t =>
          have h : wT G t ρ2 fun k ρ3 => (k = true → wC G elt ρ3 fun v ρ4 => oQ (fzVal ρ4 v) fun p => (∃ y, o = some y ∧ p.1 = .fz (e2 y)) ∧ P (wipeE p.2 own)) ∧ (k = false → o = none ∧ P (wipeE ρ3 own)) := h
          obtain ⟨k, ρ3, q0, ha, hb⟩ := wT_ok t h
          cases k with
          | true =>
            obtain ⟨v, ρ4, q1, h⟩ := wC_ok elt (ha rfl)
            obtain ⟨p, q2, ⟨y, q3, q4⟩, q5⟩ := oQ_ok h
            exact ⟨some p.1, p.2, by simp only [lcStep, e1, Option.bind_some, evTo, q0, q1, q2]; rfl, by rw [q3, q4]; rfl, q5⟩
          | false =>
            obtain ⟨q1, q2⟩ := hb rfl
            exact ⟨none, ρ3, by simp only [lcStep, e1, Option.bind_some, evTo, q0], by rw [q1]; rfl, q2⟩
      obtain ⟨ot, ρ1, e1, rfl, hp1⟩ := st
      rw [List.map_cons]
      unfold lcLoop
      rw [e1]
      cases o with
      | none =>
        obtain ⟨ρ5, g1, g2⟩ := ih r' acc _ (fun y hy => hx y (by simp [hy])) h3 hp1
        subst h4
        exact ⟨ρ5, g1, g2⟩
      | some y =>
        obtain ⟨ρ5, g1, g2⟩ := ih r' (acc ++ [.fz (e2 y)]) _ (fun y hy => hx y (by simp [hy])) h3 hp1
        subst h4
        refine ⟨ρ5, ?_, g2⟩
        simp only [Option.map_some]
        rw [g1]
        simp [fzs]
  obtain ⟨ρ5, g1, g2⟩ := go l r [] ρ (fun x hx o ρ => hs x o ρ hx) hf h0
  exact ⟨_, ρ5, g1, by simpa using hd ρ5 g2⟩
theorem lcS_sim {tg : Tgt} {tests : Tco} {elt : C} {own : List Nat} {f : σ → α → Option (Option β × σ)} {s0 : σ} {e : α → D} {e2 : β → D} {l : List α} {r : List β × σ} {R : List T → Env → Prop} (P : σ → Env → Prop) (hf : lcS f l s0 = some r) (h0 : P s0 ρ)
    (hs : ∀ (x : α) (s : σ) (o : Option β) (s' : σ) (ρ : Env), x ∈ l → f s x = some (o, s') → P s ρ → oQ (bindD ρ tg (e x)) (lcB G tests elt own e2 (P s') o))
    (hd : ∀ ρ, P r.2 ρ → R (fzs (r.1.map e2)) ρ) : LoopC (lcStep tg (evTo G tests) (evC G elt)) own ρ (l.map e) R := by
  constructor
  have go : ∀ (l : List α) (s : σ) (r : List β × σ) (acc : List T) (ρ : Env), (∀ x ∈ l, ∀ (s : σ) (o : Option β) (s' : σ) (ρ : Env), f s x = some (o, s') → P s ρ → oQ (bindD ρ tg (e x)) (lcB G tests elt own e2 (P s') o)) →
      lcS f l s = some r → P s ρ → ∃ ρ5, lcLoop (lcStep tg (evTo G tests) (evC G elt)) own ρ (l.map e) acc = some (acc ++ fzs (r.1.map e2), ρ5) ∧ P r.2 ρ5 := by
    intro l
    induction l with
    | nil => intro s r acc ρ _ hf hp; cases hf; exact ⟨ρ, by simp [lcLoop, fzs], hp⟩
    | cons x l ih =>
      intro s r acc ρ hx hf hp
      obtain ⟨⟨o, s'⟩, h1, h2⟩ := bnd hf
      obtain ⟨r', h3, h4⟩ := Option.map_eq_some_iff.mp h2
      have st : ∃ ot ρ1, lcStep tg (evTo G tests) (evC G elt) ρ (e x) = some (ot, ρ1) ∧ (ot = o.map fun y => .fz (e2 y)) ∧ P s' (wipeE ρ1 own) := by
        obtain ⟨ρ2, e1, h⟩ := oQ_ok (hx x (by simp) s o s' ρ h1 hp)
        cases tests with
        | none =>
          have h : wC G elt ρ2 fun v ρ3 => oQ (fzVal ρ3 v) fun p => (∃ y, o = some y ∧ p.1 = .fz (e2 y)) ∧ P s' (wipeE p.2 own) := h
          obtain ⟨v, ρ3, q1, h⟩ := wC_ok elt h
          obtain ⟨p, q2, ⟨y, q3, q4⟩, q5⟩ := oQ_ok h
          exact ⟨some p.1, p.2, by simp only [lcStep, e1, Option.bind_some, evTo, q1, q2]; rfl, by rw [q3, q4]; rfl, q5⟩
        | some t =>
          have h : wT G t ρ2 fun k ρ3 => (k = true → wC G elt ρ3 fun v ρ4 => oQ (fzVal ρ4 v) fun p => (∃ y, o = some y ∧ p.1 = .fz (e2 y)) ∧ P s' (wipeE p.2 own)) ∧ (k = false → o = none ∧ P s' (wipeE ρ3 own)) := h
          obtain ⟨k, ρ3, q0, ha, hb⟩ := wT_ok t h
          cases k with
          | true =>
            obtain ⟨v, ρ4, q1, h⟩ := wC_ok elt (ha rfl)
            obtain ⟨p, q2, ⟨y, q3, q4⟩, q5⟩ := oQ_ok h
            exact ⟨some p.1, p.2, by simp only [lcStep, e1, Option.bind_some, evTo, q0, q1, q2]; rfl, by rw [q3, q4]; rfl, q5⟩
          | false =>
            obtain ⟨q1, q2⟩ := hb rfl
            exact ⟨none, ρ3, by simp only [lcStep, e1, Option.bind_some, evTo, q0], by rw [q1]; rfl, q2⟩
      obtain ⟨ot, ρ1, e1, rfl, hp1⟩ := st
      rw [List.map_cons]
      unfold lcLoop
      rw [e1]
      cases o with
      | none =>
        obtain ⟨ρ5, g1, g2⟩ := ih s' r' acc _ (fun y hy => hx y (by simp [hy])) h3 hp1
        subst h4
        exact ⟨ρ5, g1, g2⟩
      | some y =>
        obtain ⟨ρ5, g1, g2⟩ := ih s' r' (acc ++ [.fz (e2 y)]) _ (fun y hy => hx y (by simp [hy])) h3 hp1
        subst h4
        refine ⟨ρ5, ?_, g2⟩
        simp only [Option.map_some]
        rw [g1]
        simp [fzs]
  obtain ⟨ρ5, g1, g2⟩ := go l s0 r [] ρ (fun x hx s o s' ρ => hs x s o s' ρ hx) hf h0
  exact ⟨_, ρ5, g1, by simpa using hd ρ5 g2⟩
end
end
end Mv
namespace Mv
open PySem L2
abbrev eL {α : Type} (e : α → D) (l : List α) : D := .list (l.map e)
def eO : Option Int → D
  | none => .none
  | some i => .int i
abbrev mx2 (i j : Int) : Int := if j > i then j else i
abbrev mn2 (i j : Int) : Int := if j < i then j else i
abbrev absI (i : Int) : Int := if i < 0 then -i else i
section
variable {G : Gam} {ρ ρ1 ρ2 : Env} {Q : Val → Env → Prop} {α β : Type}
def FzK (v : Val) (ρ : Env) (Q : Val → Env → Prop) : Prop := oQ (fzVal ρ v) fun p => Q (.t (.fz p.1.toD)) p.2
theorem w_fzvK {c : C} (h : wC G c ρ fun v ρ1 => FzK v ρ1 Q) : wC G (.fzv c) ρ Q := w_fzv h
theorem fzk_fz {d : D} (h : Q (.t (.fz d)) ρ) : FzK (.t (.fz d)) ρ Q := h
theorem fzk_fl {ds : List D} (h : Q (.t (.fz (.list ds))) ρ) : FzK (.t (T.fl ds)) ρ Q := by
  show Q (.t (.fz (T.fl ds).toD)) ρ
  rw [fl_toD]; exact h
theorem tru_t {t : T} {b : Bool} {R : Bool → Prop} (e : truT t = some b) (c : b = true) (h : R true) : oQ (truT t) R := by rw [e]; subst c; exact h
theorem tru_f {t : T} {b : Bool} {R : Bool → Prop} (e : truT t = some b) (c : ¬ b = true) (h : R false) : oQ (truT t) R := by
  rw [e]
  have : b = false := by simpa using c
  subst this; exact h
theorem wipe_1 {o : Nat} (na : NoAl ρ) (e : ρ.set o .no = ρ2) : wipeE ρ [o] = ρ2 := by
  simp only [wipeE, na.kills, e]
theorem wipe_2 {o p : Nat} (na : NoAl ρ) (e : ρ.set p .no = ρ1) (na1 : NoAl ρ1) (e2 : ρ1.set o .no = ρ2) : wipeE ρ [o, p] = ρ2 := by
  simp only [wipeE, na.kills, e, na1.kills, e2]
theorem fzs_len {e : α → D} {l : List α} {n : Nat} (h : l.length ≤ n) : (fzs (l.map e)).length ≤ n := by
  unfold fzs; simpa using h
end
def deqG (a b : D) : Option Bool := deq a b
end Mv
namespace Mv
theorem ift {α : Type} {c : Prop} [Decidable c] {p q : Option α} {r : α} (h : c) (e : (if c then p else q) = some r) : p = some r := by rwa [if_pos h] at e
theorem iff_ {α : Type} {c : Prop} [Decidable c] {p q : Option α} {r : α} (h : ¬ c) (e : (if c then p else q) = some r) : q = some r := by rwa [if_neg h] at e
end Mv
namespace Mv
section
variable {ρ ρ2 : Env} {j i : Nat} {x vi y t : T} {ts : List T} {vs : List Val} {io : List Bool} {ds : List D} {d : D}
theorem kix_set (na : NoAl ρ) (e : setPt ρ j none y = some ρ2) : setPt (kIx ρ j none x vi) j none y = some ρ2 := by simp only [kIx, na.kills, e]
theorem argT_nil : argTs ρ [] [] = some [] := rfl
theorem argT_fz (h : argTs ρ io vs = some ts) : argTs ρ (false :: io) (.t (.fz d) :: vs) = some (.fz d :: ts) := by
  simp only [argTs, resolve, h, T.toD]
theorem argT_io (e : slotT ρ[i]? = some t) (h : argTs ρ io vs = some ts) : argTs ρ (true :: io) (.pt i none :: vs) = some (t :: ts) := by
  simp only [argTs, e, h]
end
end Mv
namespace Mv
section
variable {a b : T} {d1 d2 : D} {x : Bool} {op : PySem.CmpOp} {R : Bool → Prop}
theorem cmp_eq (e1 : a.toD = d1) (e2 : b.toD = d2) (g : deqG d1 d2 = some x) : cmpT .Eq a b = some x := by subst e1 e2; exact g
theorem cmp_ne (e1 : a.toD = d1) (e2 : b.toD = d2) (g : deqG d1 d2 = some x) : cmpT .NotEq a b = some (!x) := by
  subst e1 e2
  unfold deqG at g
  simp only [cmpT, g, Option.map_some]
theorem wCmp_inN_t (e : cmpT .Eq a b = some x) (c : ¬ x = true) (h : R true) : wCmp .NotEq a b R := wCmp_in (b := !x) (by simp only [cmpT] at e ⊢; rw [e]; rfl) (by rw [show x = false by simpa using c]; exact h)
theorem wCmp_inN_f (e : cmpT .Eq a b = some x) (c : ¬ ¬ x = true) (h : R false) : wCmp .NotEq a b R := wCmp_in (b := !x) (by simp only [cmpT] at e ⊢; rw [e]; rfl) (by rw [show x = true from Decidable.not_not.mp c]; exact h)
end
end Mv
namespace Mv
end Mv
namespace Mv
open PySem L2
section
variable {G : Gam} {ρ ρ1 ρ2 : Env} {Q : Val → Env → Prop} {α β : Type} {va : Val} {x y : T} {e : α → D} {l : List α}
def RvK (va : Val) (ρ : Env) (Q : Val → Env → Prop) : Prop := oQ (resolve ρ va) fun x => oQ x.flat fun ds => Q (.t (T.fl ds.reverse)) ρ
theorem w_rvK {a : C} (h : wC G a ρ fun va ρ1 => RvK va ρ1 Q) : wC G (.rv a) ρ Q := w_rv h
theorem rvk (hr : resolve ρ va = some x) (hf : x.flat = some (l.map e)) (h : Q (.t (T.fl (l.reverse.map e))) ρ) : RvK va ρ Q := by
  unfold RvK
  rw [hr]
  show oQ x.flat _
  rw [hf]
  show Q (.t (T.fl (l.map e).reverse)) ρ
  rw [← List.map_reverse]; exact h
def LrK (i j : Int) (ρ : Env) (Q : Val → Env → Prop) : Prop := okRg i j = true ∧ Q (.t (T.fl (rangeD i j))) ρ
def lrgG (i j : Int) : Option (List Int) := if okRg i j then some (rngI i j) else none
def cntS (x : Str) (l : List Str) : Option Int := if (D.str x).shp 60 && D.shps 60 (l.map D.str) then some ((l.count x : Nat) : Int) else none
def idxG (e : α → D) (d : D) (l : List α) : Option Int := if flatD d && (l.map e).all flatD then (idxD d (l.map e) 0).map fun (j : Nat) => (j : Int) else none
theorem wCmp_inNI_t {a b : T} {x : Bool} {R : Bool → Prop} (e : cmpT .In a b = some x) (c : ¬ x = true) (h : R true) : wCmp .NotIn a b R := wCmp_in (b := !x) (by simp only [cmpT] at e ⊢; rw [e]; rfl) (by rw [show x = false by simpa using c]; exact h)
theorem wCmp_inNI_f {a b : T} {x : Bool} {R : Bool → Prop} (e : cmpT .In a b = some x) (c : ¬ ¬ x = true) (h : R false) : wCmp .NotIn a b R := wCmp_in (b := !x) (by simp only [cmpT] at e ⊢; rw [e]; rfl) (by rw [show x = true from Decidable.not_not.mp c]; exact h)
theorem any_int {k : Int} : ∀ l : List Int, (l.map D.int).any (fun z => PyData.eqv z.toPy (D.int k).toPy) = decide (k ∈ l)
  | [] => rfl
  | x :: l => by
    rw [List.map_cons, List.any_cons, any_int l]
    simp only [D.toPy, PyData.eqv, List.mem_cons, Bool.decide_or]
    congr 1
    exact decide_eq_decide.mpr ⟨fun h => h.symm, fun h => h.symm⟩
theorem shps_int : ∀ (n : Nat) (l : List Int), D.shps n (l.map D.int) = true
  | n, [] => by cases n <;> rfl
  | n, x :: l => by
    have a : (D.int x).shp n = true := by cases n <;> rfl
    have b := shps_int n l
    cases n <;> simp_all [D.shps]
theorem cmp_inL {k : Int} {l : List Int} (h : x.flat = some (l.map D.int)) (nd : ∀ ks ts, x ≠ .dct ks ts) (nd2 : ∀ ks ds, x ≠ .fz (.dict ks ds)) (nt : ∀ ds, x ≠ .fz (.tup ds)) : cmpT .In (iT k) x = some (decide (k ∈ l)) := by
  show inT (iT k) x = _
  unfold inT
  split
  · exact absurd rfl (nd _ _)
  · exact absurd rfl (nd2 _ _)
  · exact absurd rfl (nt _)
  · rw [h]
    have a : (T.fz (D.int k)).toD.shp 60 = true := rfl
    simp only [a, shps_int, Bool.and_self, if_true]
    show some ((l.map D.int).any (fun z => PyData.eqv z.toPy (D.int k).toPy)) = _
    rw [any_int]
theorem cmp_inFl {k : Int} {l : List Int} : cmpT .In (iT k) (T.fl (l.map D.int)) = some (decide (k ∈ l)) := cmp_inL (flat_fl _) (fun _ _ z => nomatch z) (fun _ _ z => nomatch z) (fun _ z => nomatch z)
end
end Mv
namespace Mv
end Mv
namespace Mv
section
variable {α : Type} {e : α → D} {l : List α} {t : T}
def unp2 : List α → Option (α × α)
  | [a, b] => some (a, b)
  | _ => none
def unp3 : List α → Option (α × α × α)
  | [a, b, c] => some (a, b, c)
  | _ => none
end
end Mv
namespace Mv
end Mv
namespace Mv
open PySem L2
section
variable {α : Type} {e : α → D} {kv : List (Int × α)} {k : Int} {ρ ρ2 : Env} {i : Nat} {io : List Bool} {vs : List Val} {ts : List T}
abbrev eDct (e : α → D) (kv : List (Int × α)) : D := .dict (kv.map fun p => .inl p.1) (kv.map fun p => e p.2)
end
end Mv
namespace Mv
end Mv
namespace Mv
section
variable {a b : T} {op : PySem.CmpOp} {p : Prop} [Decidable p] {R : Bool → Prop}
theorem wCmp_pNI_t (e : cmpT .In a b = some (decide p)) (c : ¬ p) (h : R true) : wCmp .NotIn a b R := wCmp_inNI_t e (fun z => c (of_decide_eq_true z)) h
theorem wCmp_pNI_f (e : cmpT .In a b = some (decide p)) (c : ¬ ¬ p) (h : R false) : wCmp .NotIn a b R := wCmp_inNI_f e (fun z => c fun y => z (decide_eq_true y)) h
theorem wCmp_pN_t (e : cmpT .Eq a b = some (decide p)) (c : ¬ p) (h : R true) : wCmp .NotEq a b R := wCmp_inN_t e (fun z => c (of_decide_eq_true z)) h
theorem wCmp_pN_f (e : cmpT .Eq a b = some (decide p)) (c : ¬ ¬ p) (h : R false) : wCmp .NotEq a b R := wCmp_inN_f e (fun z => c fun y => z (decide_eq_true y)) h
theorem eq_str (x y : PySem.Str) : cmpT .Eq (.fz (.str x)) (.fz (.str y)) = some (decide (x = y)) := rfl
end
end Mv

end
section
namespace Mv
open PySem L2
section
variable {α β : Type} {e : α → D} {e2 : β → D} {op : PySem.CmpOp}
def eOp (e : α → D) : Option α → D
  | none => .none
  | some x => e x
section
variable {R : Bool → Prop} {o : Option α}
end
section
variable {α : Type} {e : α → D} {R : Bool → Prop} {o : Option (List α)}
def oT (e : α → D) : Option (List α) → T
  | none => .fz .none
  | some l => .fl (l.map e)
end
def isND (d : D) : Bool := isNone (.fz d)
section
variable {R : Bool → Prop} {d : D}
end
def isiG (f : Blt) (d : D) : Option Bool := match appB f [.fz d] with
  | some (.fz (.bool b)) => some b
  | _ => none
def lenG (d : D) : Option Int := match d with
  | .list l => some l.length
  | .tup l => some l.length
  | _ => none
def ixD (d : D) (i : Int) : Option D := match d with
  | .list ds => ixG ds i
  | .tup ds => ixG ds i
  | _ => none
def inG (a b : D) : Option Bool := inT (.fz a) (.fz b)
def seqD (d : D) : Option (List D) := match d with
  | .list l => some l
  | .tup l => some l
  | _ => none
def lstD (d : D) : Option (List D) := match d with
  | .list l => some l
  | _ => none
def intD (d : D) : Option Int := match d with
  | .int i => some i
  | _ => none
def strD (d : D) : Option Str := match d with
  | .str i => some i
  | _ => none
def boolD (d : D) : Option Bool := match d with
  | .bool i => some i
  | _ => none
def unpD2 (d : D) : Option (D × D) := match d with
  | .tup [a, b] => some (a, b)
  | _ => none
def unpD3 (d : D) : Option (D × D × D) := match d with
  | .tup [a, b, c] => some (a, b, c)
  | _ => none
def truD (d : D) : Option Bool := truT (.fz d)
def optInts : List (Option Int) → Option (List Int)
  | [] => some []
  | some i :: l => (optInts l).map (i :: ·)
  | none :: _ => none
def repTG (l : List α) (n : Int) : Option (List α) := if 1 ≤ n ∧ n ≤ 1000 ∧ 1 ≤ l.length ∧ l.length ≤ 1000 then some (List.replicate n.toNat l).flatten else none
def idxTG (e : α → D) (d : D) (l : List α) : Option Int := if d.shp 60 && D.shps 60 (l.map e) then (idxD d (l.map e) 0).map fun (j : Nat) => (j : Int) else none
section
variable {va : Val} {ρ1 ρ2 : Env} {w : Bool} {d : D} {j : Nat} {K : Nat → Prop} {l : List α} {x y : T}
end
def fidx (f : Str) : List Str → Option Nat
  | [] => none
  | g :: gs => if g = f then some 0 else (fidx f gs).map (· + 1)
end
def Weak (s : Slot) : Prop := s = .no ∨ (∃ z, s = .ow z) ∨ ∃ i k, s = .al i k
theorem Weak.no : Weak .no := .inl rfl
theorem Weak.ow {z : T} : Weak (.ow z) := .inr (.inl ⟨z, rfl⟩)
theorem Weak.al {i k : Nat} : Weak (.al i k) := .inr (.inr ⟨i, k, rfl⟩)
theorem Weak.free {s : Slot} (f : Free s) : Weak s := f.imp id .inl
theorem Weak.keep {o : Option Slot} : Weak (keepS o) := .free Free.keep
theorem Free.frz {s : Slot} : Free (frzSl s) := by
  cases s <;> first | exact .inl rfl | exact .inr ⟨_, rfl⟩
theorem Weak.frz {s : Slot} : Weak (frzSl s) := .free Free.frz
theorem Weak.kill {j : Nat} {k : Option Nat} {s : Slot} (f : Weak s) : Weak (Mv.kill j k s) := by
  rcases f with rfl | ⟨z, rfl⟩ | ⟨i, l, rfl⟩
  · exact .no
  · exact .ow
  · simp only [Mv.kill]
    by_cases c : i = j ∧ (k = none ∨ k = some l)
    · rw [if_pos c]; exact .no
    · rw [if_neg c]; exact .al
inductive Kl (j : Nat) (k : Option Nat) : Env → Env → Prop
  | nil : Kl j k [] []
  | no {ρ ρ'} (h : Kl j k ρ ρ') : Kl j k (.no :: ρ) (.no :: ρ')
  | ow {t ρ ρ'} (h : Kl j k ρ ρ') : Kl j k (.ow t :: ρ) (.ow t :: ρ')
  | io {t ρ ρ'} (h : Kl j k ρ ρ') : Kl j k (.io t :: ρ) (.io t :: ρ')
  | lk {ρ ρ'} (h : Kl j k ρ ρ') : Kl j k (.lk :: ρ) (.lk :: ρ')
  | fr {s ρ ρ'} (f : Free s) (h : Kl j k ρ ρ') : Kl j k (s :: ρ) (s :: ρ')
  | wk {s ρ ρ'} (f : Weak s) (h : Kl j k ρ ρ') : Kl j k (s :: ρ) (kill j k s :: ρ')
  | al {i l ρ ρ'} (c : ¬ (i = j ∧ (k = none ∨ k = some l))) (h : Kl j k ρ ρ') : Kl j k (.al i l :: ρ) (.al i l :: ρ')
  | ak {i l ρ ρ'} (c : i = j ∧ (k = none ∨ k = some l)) (h : Kl j k ρ ρ') : Kl j k (.al i l :: ρ) (.no :: ρ')
theorem Kl.eq {j : Nat} {k : Option Nat} {ρ ρ' : Env} (h : Kl j k ρ ρ') : Mv.kills j k ρ = ρ' := by
  unfold Mv.kills
  induction h with
  | nil => rfl
  | no h ih => rw [List.map_cons, ih]; rfl
  | ow h ih => rw [List.map_cons, ih]; rfl
  | io h ih => rw [List.map_cons, ih]; rfl
  | lk h ih => rw [List.map_cons, ih]; rfl
  | fr f h ih => rw [List.map_cons, ih, kill_free f]
  | wk f h ih => rw [List.map_cons, ih]
  | al c h ih => rw [List.map_cons, ih]; simp only [kill, if_neg c]
  | ak c h ih => rw [List.map_cons, ih]; simp only [kill, if_pos c]
inductive KlA : List Nat → Env → Env → Prop
  | nil {ρ} : KlA [] ρ ρ
  | cons {i is ρ ρ1 ρ2} (h : KlA is ρ ρ1) (k : Kl i none ρ1 ρ2) : KlA (i :: is) ρ ρ2
theorem KlA.eq {is : List Nat} {ρ ρ' : Env} (h : KlA is ρ ρ') : Mv.killAll ρ is = ρ' := by
  induction h with
  | nil => rfl
  | cons h k ih => unfold Mv.killAll; rw [ih, k.eq]
section
variable {G : Gam} {ρ ρ0 ρ1 ρ2 : Env} {Q : Out → Prop} {ss : Ss} {i j k : Nat} {t : T} {s : Slot} {is : List Nat} {ts : List T}
theorem bd_ltp {R : Env → Prop} {ds : List D} (hl : is.length = ds.length) (q : oQ (bindD.go ρ is ds) R) : oQ (bindD ρ (.tp is) (.ltp ds)) R := by
  simp only [bindD, if_pos hl]; exact q
end
def sdG {α : Type} : List Str → List α → Str → Option α
  | k :: ks, x :: xs, s => if k = s then some x else sdG ks xs s
  | _, _, _ => none
def clsItem (n : Nat) : Stmt → Stmt
  | .ClassDef (body := b) .. => b.getD n (.Pass ⟨0, 0, 0, 0⟩)
  | s => s
abbrev eV {α : Type} (e : α → D) (l : List α) : D := .tup (l.map e)
def narG : List (Option α) → Option (List α)
  | [] => some []
  | none :: _ => none
  | some x :: l => (narG l).map fun r => x :: r
def sdfG {α : Type} (kv : List (Int × α)) (k : Int) (v : α) : Option (List (Int × α)) := if kv.length < sizeLine then some (if (getI kv k).isSome = true then kv else putI kv k v) else none
def lsetG (l : List Int) : Option Int := if l.length ≤ 4000 then some (((nubI l).length : Nat) : Int) else none
def ssetG (l : List Int) : Option (List Int) := if l.length ≤ 4000 then some (sortI (nubI l)) else none
theorem lsetG_some {l : List Int} {r : Int} (h : lsetG l = some r) : l.length ≤ 4000 ∧ r = ((nubI l).length : Nat) := by
  unfold lsetG at h
  split at h
  · cases h; exact ⟨‹_›, rfl⟩
  · cases h
theorem lset_q {t : T} {l : List Int} (h : t.flat = some (l.map D.int)) (hz : l.length ≤ 4000) : appX .lset [t] = some (.fz (.int ((nubI l).length : Nat))) := by
  show appX2 .lset [t] = _
  simp only [appX2, h, Option.bind_some, intsOf_map, decide_eq_true hz, if_true]
def listD (d : D) : Option (List D) := match d with
  | .list l => some l
  | _ => none
def tupD (d : D) : Option (List D) := match d with
  | .tup l => some l
  | _ => none
def intsD (d : D) : Option (List Int) := match d with
  | .list l => intsOf l
  | _ => none
def fgG (ls : List Nat) (n : Nat) : Option Unit := if (ls.all fun k => decide (k + n < sizeLine)) = true then some () else none
theorem NoAl.set {ρ : Env} (h : NoAl ρ) : ∀ j, NoAl (ρ.set j .no) := by
  induction h with
  | nil => intro j; exact .nil
  | ow h ih => intro j; cases j with | zero => exact .no h | succ j => exact .ow (ih j)
  | io h ih => intro j; cases j with | zero => exact .no h | succ j => exact .io (ih j)
  | no h ih => intro j; cases j with | zero => exact .no h | succ j => exact .no (ih j)
  | fr f h ih => intro j; cases j with | zero => exact .no h | succ j => exact .fr f (ih j)
  | lk h ih => intro j; cases j with | zero => exact .no h | succ j => exact .lk (ih j)
end Mv

end
section
set_option maxRecDepth 10000
set_option exponentiation.threshold 9000
namespace Mv
open PySem L2
section
variable {α β σ : Type}
def OK (o : Option α) (Q : α → Prop) : Prop := ∃ x, o = some x ∧ Q x
theorem ok_some {x : α} {Q : α → Prop} (h : Q x) : OK (some x) Q := ⟨x, rfl, h⟩
theorem ok_bind {o : Option α} {k : α → Option β} {Q : β → Prop} (h : OK o fun x => OK (k x) Q) : OK (o.bind k) Q := by
  obtain ⟨x, rfl, y, e, q⟩ := h
  exact ⟨y, e, q⟩
theorem ok_mono {o : Option α} {P Q : α → Prop} (h : OK o P) (k : ∀ x, P x → Q x) : OK o Q := by
  obtain ⟨x, e, q⟩ := h
  exact ⟨x, e, k x q⟩
theorem ok_call {o : Option α} {k : α → Option β} {P : α → Prop} {Q : β → Prop} (h : OK o P) (c : ∀ x, P x → OK (k x) Q) : OK (o.bind k) Q := ok_bind (ok_mono h c)
theorem ok_eq {o : Option α} {x : α} {k : α → Option β} {Q : β → Prop} (e : o = some x) (h : OK (k x) Q) : OK (o.bind k) Q := by subst e; exact h
theorem ok_get {o : Option α} {x : α} (h : OK o fun y => y = x) : o = some x := by
  obtain ⟨y, e, rfl⟩ := h; exact e
theorem ok_if {c : Prop} [Decidable c] {p q : Option α} {Q : α → Prop} (h1 : c → OK p Q) (h2 : ¬ c → OK q Q) : OK (if c then p else q) Q := by
  split
  · exact h1 ‹_›
  · exact h2 ‹_›
theorem ok_ift {c : Prop} [Decidable c] {p q : Option α} {Q : α → Prop} (hc : c) (h1 : OK p Q) : OK (if c then p else q) Q := by rw [if_pos hc]; exact h1
theorem ok_iff {c : Prop} [Decidable c] {p q : Option α} {Q : α → Prop} (hc : ¬ c) (h1 : OK q Q) : OK (if c then p else q) Q := by rw [if_neg hc]; exact h1
theorem mulG_ok {a b : Int} (h1 : okI a = true) (h2 : okI b = true) : mulG a b = some (a * b) := by unfold mulG; rw [h1, h2]; rfl
theorem divG_ok {a b : Int} (h1 : 0 < b) (h2 : okI b = true) : divG a b = some (a / b) := by unfold divG; rw [h2, decide_eq_true h1]; rfl
theorem modG_ok {a b : Int} (h1 : 0 < b) : modG a b = some (a % b) := by unfold modG; rw [if_pos h1]
theorem powG_ok {a : Int} {n : Nat} (h1 : okI a = true) : powG a n = some (a ^ n) := by unfold powG; rw [h1]; rfl
theorem appG_ok {l : List α} {x : α} (h : l.length ≤ 1000000) : appG l x = some (l ++ [x]) := by unfold appG; rw [if_pos (lt_size h)]
theorem catG_ok {l m : List α} (h : l.length + m.length ≤ 1000000) : catG l m = some (l ++ m) := by unfold catG; rw [if_pos (Nat.le_of_lt (lt_size h))]
theorem rngG_any {lo hi : Int} : rngG lo hi = some (rngI lo hi) := rfl
theorem forP_ok {f : σ → α → Option σ} (Inv : Nat → σ → Prop) {l : List α} {s : σ} (h0 : Inv 0 s) (hs : ∀ (i : Nat) (x : α) (s : σ), l[i]? = some x → Inv i s → OK (f s x) (Inv (i + 1))) : OK (forP f l s) (Inv l.length) := by
  induction l generalizing s Inv with
  | nil => exact ok_some h0
  | cons x l ih =>
    refine ok_call (hs 0 x s rfl h0) fun s' h' => ?_
    exact ih (fun i => Inv (i + 1)) h' fun i y s hy => hs (i + 1) y s (by simpa using hy)
theorem forR_ok {f : σ → α → Option (σ ⊕ β)} (Inv : Nat → σ → Prop) (R : β → Prop) {l : List α} {s : σ} (h0 : Inv 0 s)
    (hs : ∀ (i : Nat) (x : α) (s : σ), l[i]? = some x → Inv i s → OK (f s x) fun r => match r with | .inl s' => Inv (i + 1) s' | .inr b => R b) :
    OK (forR f l s) fun r => match r with | .inl s' => Inv l.length s' | .inr b => R b := by
  induction l generalizing s Inv with
  | nil => exact ok_some h0
  | cons x l ih =>
    refine ok_call (hs 0 x s rfl h0) fun r h' => ?_
    cases r with
    | inl s' => exact ih (fun i => Inv (i + 1)) h' fun i y s hy => hs (i + 1) y s (by simpa using hy)
    | inr b => exact ok_some h'
theorem forR_all {f : σ → α → Option (σ ⊕ β)} (Inv : Nat → σ → Prop) {l : List α} {s : σ} (h0 : Inv 0 s)
    (hs : ∀ (i : Nat) (x : α) (s : σ), l[i]? = some x → Inv i s → OK (f s x) fun r => ∃ s', r = .inl s' ∧ Inv (i + 1) s') :
    OK (forR f l s) fun r => ∃ s', r = .inl s' ∧ Inv l.length s' := by
  refine ok_mono (forR_ok Inv (fun _ => False) h0 fun i x s hx h => ok_mono (hs i x s hx h) ?_) ?_
  · rintro _ ⟨s', rfl, h⟩; exact h
  · rintro (s' | b) h
    · exact ⟨s', rfl, h⟩
    · exact h.elim
theorem lcP_map {f : α → Option (Option β)} {g : α → Option β} {l : List α} (h : ∀ x ∈ l, f x = some (g x)) : lcP f l = some (l.filterMap g) := by
  induction l with
  | nil => rfl
  | cons x l ih =>
    unfold lcP
    rw [h x (by simp), ih fun y hy => h y (by simp [hy])]
    simp only [Option.bind_some, Option.map_some, List.filterMap_cons]
    cases g x <;> rfl
theorem lcG_ok {f : α → Option (Option β)} {g : α → Option β} {l : List α} (h : ∀ x ∈ l, f x = some (g x)) (hl : l.length ≤ 1000000) : lcG f l = some (l.filterMap g) := by
  unfold lcG
  rw [lcP_map h, Option.bind_some, if_pos]
  exact Nat.le_trans (List.length_filterMap_le ..) (Nat.le_of_lt (lt_size hl))
theorem lcG_filter {f : α → Option (Option β)} {p : α → Bool} {g : α → β} {l : List α} (h : ∀ x ∈ l, f x = some (if p x = true then some (g x) else none)) (hl : l.length ≤ 1000000) : lcG f l = some ((l.filter p).map g) := by
  rw [lcG_ok h hl]
  congr 1
  induction l with
  | nil => rfl
  | cons x l ih =>
    rw [List.filterMap_cons, List.filter_cons]
    cases hp : p x <;> simp [hp, ih (fun y hy => h y (by simp [hy])) (by simp at hl; omega)]
theorem lcG_all {f : α → Option (Option β)} {g : α → β} {l : List α} (h : ∀ x ∈ l, f x = some (some (g x))) (hl : l.length ≤ 1000000) : lcG f l = some (l.map g) := by
  rw [lcG_ok (g := fun x => some (g x)) h hl]; congr 1; exact congrFun (List.filterMap_eq_map (f := g)) l
theorem rngI_get {lo hi : Int} {i : Nat} {x : Int} (h : (rngI lo hi)[i]? = some x) : x = lo + i ∧ (i : Int) < hi - lo := by
  have hl := (List.getElem?_eq_some_iff.mp h).1
  unfold rngI at h hl
  rw [List.length_map, List.length_range] at hl
  rw [List.getElem?_map, List.getElem?_range (by simpa using hl)] at h
  simp at h
  exact ⟨h.symm, by omega⟩
theorem enumI_get (l : List α) : ∀ (n i : Nat) (p : Int × α), (enumI n l)[i]? = some p → l[i]? = some p.2 ∧ p.1 = ((n + i : Nat) : Int) := by
  induction l with
  | nil => intro n i p h; simp [enumI] at h
  | cons x l ih =>
    intro n i p h
    cases i with
    | zero => simp [enumI] at h; subst h; simp
    | succ i =>
      have := ih (n + 1) i p (by simpa [enumI] using h)
      refine ⟨by simpa using this.1, ?_⟩
      rw [this.2]; congr 1; omega
theorem enumI_len (l : List α) : ∀ n, (enumI n l).length = l.length := by
  induction l with
  | nil => intro n; rfl
  | cons x l ih => intro n; simp [enumI, ih]
theorem strLen_textFrom : ∀ (ts : List Str) (k : Nat) (acc : Str), (textFrom k acc ts).length ≤ acc.length + piled ts
  | [], k, acc => by simp [textFrom, piled]
  | t :: ts, k, acc => by
    unfold textFrom
    have h := strLen_textFrom ts (k + 1) (acc ++ (if k > 0 then ", " else "" : String) ++ t)
    rw [strLen_append, strLen_append] at h
    rw [piled_cons]
    have e : ((if k > 0 then ", " else "" : String) : Str).length ≤ 2 := by split <;> decide
    omega
theorem listText_ub (ts : List Str) : (listText ts).length ≤ 2 + piled ts := by
  unfold listText
  rw [strLen_append]
  have h := strLen_textFrom ts 0 "["
  have e1 : (("[" : String) : Str).length = 1 := rfl
  have e2 : (("]" : String) : Str).length = 1 := rfl
  omega
theorem tupleText_ub (ts : List Str) : (tupleText ts).length ≤ 3 + piled ts := by
  unfold tupleText
  rw [strLen_append, strLen_append]
  have e1 : (("(" : String) : Str).length = 1 := rfl
  have e2 : ((if ts.length == 1 then ",)" else ")" : String) : Str).length ≤ 2 := by split <;> decide
  have e3 : (Str.join ", " ts).length ≤ piled ts := by
    cases ts with
    | nil => decide
    | cons t ts => have := join_length_add (t :: ts) (by simp); omega
  omega
theorem piled_ub {ts : List Str} {m : Nat} (h : ∀ t ∈ ts, t.length ≤ m) : piled ts ≤ ts.length * (m + 2) := by
  induction ts with
  | nil => simp [piled]
  | cons t ts ih =>
    rw [piled_cons]
    have h1 := h t (by simp)
    have h2 := ih fun x hx => h x (by simp [hx])
    rw [List.length_cons, Nat.succ_mul]
    omega
structure RO (m n : Nat) (d : D) : Prop where
  shp : d.shpE n = true
  show_ : PyData.showable d.toPy = true
  len : d.toPy.shown.length ≤ m
theorem RO.mono {m m' n : Nat} {d : D} (h : RO m n d) (e : m ≤ m') : RO m' n d := ⟨h.shp, h.show_, Nat.le_trans h.len e⟩
theorem RO.int {n k : Nat} {i : Int} (hk : 0 < k) (hk2 : k ≤ 500) (h : i.natAbs < 10 ^ k) : RO (k + 1) n (.int i) := by
  refine ⟨by cases n <;> rfl, ?_, ?_⟩
  · simp only [D.toPy, PyData.showable, decide_eq_true_eq]
    have h2 : i.natAbs < 2 ^ 1920 := Nat.lt_of_lt_of_le h (Nat.le_trans (Nat.pow_le_pow_right (by decide) hk2) (by decide +kernel))
    by_cases z : i.natAbs = 0
    · rw [z]; decide
    · exact (Nat.log2_lt z).mpr h2
  · simp only [D.toPy, PyData.shown]
    have := int_text_length_le10 hk h
    show (Str.ofString (toString i)).length ≤ k + 1
    rw [ofString_length]; exact this
theorem RO.none {n : Nat} : RO 4 n .none := ⟨by cases n <;> rfl, rfl, by decide⟩
theorem RO.bool {n : Nat} (b : Bool) : RO 5 n (.bool b) := ⟨by cases n <;> rfl, rfl, by cases b <;> decide⟩
theorem RO.all {m n : Nat} {ds : List D} (h : ∀ d ∈ ds, RO m n d) : D.shpsE n ds = true ∧ PyData.showableAll (D.toPys ds) = true ∧ (∀ t ∈ PyData.shownAll (D.toPys ds), t.length ≤ m) ∧ (PyData.shownAll (D.toPys ds)).length = ds.length := by
  induction ds with
  | nil => exact ⟨by cases n <;> rfl, rfl, by intro t h; simp [D.toPys, PyData.shownAll] at h, rfl⟩
  | cons d ds ih =>
    obtain ⟨a, b, c, e⟩ := ih fun x hx => h x (by simp [hx])
    have r := h d (by simp)
    refine ⟨?_, ?_, ?_, ?_⟩
    · cases n <;> simp [D.shpsE, r.shp, a]
    · simp [D.toPys, PyData.showableAll, r.show_, b]
    · intro t ht
      simp only [D.toPys, PyData.shownAll, List.mem_cons] at ht
      rcases ht with rfl | ht
      · exact r.len
      · exact c t ht
    · simp [D.toPys, PyData.shownAll, e]
theorem RO.list {m n : Nat} {ds : List D} (h : ∀ d ∈ ds, RO m n d) : RO (2 + ds.length * (m + 2)) (n + 1) (.list ds) := by
  obtain ⟨a, b, c, e⟩ := RO.all h
  refine ⟨by simpa [D.shpE] using a, by simpa [D.toPy, PyData.showable] using b, ?_⟩
  simp only [D.toPy, PyData.shown]
  have := listText_ub (PyData.shownAll (D.toPys ds))
  have := piled_ub c
  rw [e] at this
  omega
theorem RO.tup {m n : Nat} {ds : List D} (h : ∀ d ∈ ds, RO m n d) : RO (3 + ds.length * (m + 2)) (n + 1) (.tup ds) := by
  obtain ⟨a, b, c, e⟩ := RO.all h
  refine ⟨by simpa [D.shpE] using a, by simpa [D.toPy, PyData.showable] using b, ?_⟩
  simp only [D.toPy, PyData.shown]
  have := tupleText_ub (PyData.shownAll (D.toPys ds))
  have := piled_ub c
  rw [e] at this
  omega
theorem RO.map {γ : Type} {m n : Nat} {l : List γ} {e : γ → D} (h : ∀ x ∈ l, RO m n (e x)) : RO (2 + l.length * (m + 2)) (n + 1) (.list (l.map e)) := by
  have := RO.list (ds := l.map e) (m := m) (n := n) fun d hd => by
    obtain ⟨x, hx, rfl⟩ := List.mem_map.mp hd
    exact h x hx
  rwa [List.length_map] at this
theorem RO.ints {n k : Nat} {l : List Int} (hk : 0 < k) (hk2 : k ≤ 500) (h : ∀ x ∈ l, x.natAbs < 10 ^ k) : RO (2 + l.length * (k + 3)) (n + 1) (.list (l.map D.int)) := RO.map (m := k + 1) fun x hx => RO.int hk hk2 (h x hx)
theorem RO.ok {m : Nat} {d : D} (h : RO m 60 d) (hm : m ≤ 1000000) : reprG d = some d.toPy.shown := by
  unfold reprG reprOk
  rw [h.shp, h.show_, decide_eq_true (Nat.le_trans h.len (Nat.le_of_lt (lt_size hm)))]
  rfl
mutual
theorem eqv_selfD : ∀ (n : Nat) (d : D), d.shp n = true → PyData.eqv d.toPy d.toPy = true
  | _, .none, _ => by simp only [D.toPy, PyData.eqv]
  | _, .bool b, _ => by simp [D.toPy, PyData.eqv]
  | _, .int i, _ => by simp [D.toPy, PyData.eqv]
  | _, .str x, _ => by simp [D.toPy, PyData.eqv]
  | 0, .list _, h => by simp [D.shp] at h
  | 0, .tup _, h => by simp [D.shp] at h
  | n + 1, .list xs, h => by simp only [D.toPy, PyData.eqv]; exact eqv_selfDs n xs (by simpa [D.shp] using h)
  | n + 1, .tup xs, h => by simp only [D.toPy, PyData.eqv]; exact eqv_selfDs n xs (by simpa [D.shp] using h)
  | n, .dict _ _, h => by cases n <;> simp [D.shp] at h
theorem eqv_selfDs : ∀ (n : Nat) (ds : List D), D.shps n ds = true → PyData.eqvAll (D.toPys ds) (D.toPys ds) = true
  | _, [], _ => by simp only [D.toPys, PyData.eqvAll]
  | n, d :: ds, h => by
    have h : d.shp n = true ∧ D.shps n ds = true := by cases n <;> simpa [D.shps] using h
    simp only [D.toPys, PyData.eqvAll, eqv_selfD n d h.1, eqv_selfDs n ds h.2, Bool.and_self]
end
theorem deqG_self {d : D} (h : d.shp 60 = true) : deqG d d = some true := by
  unfold deqG deq
  split
  · simp
  · simp only [h, Bool.and_self, if_true, eqv_selfD 60 _ h]
end
def Sr (c0 : Int) (s : List Int) : Prop := ∃ a b c : Int, s = [a, b, c] ∧ 0 ≤ a ∧ 0 ≤ b ∧ b ≤ 1000000000000000000000000000000000000000000 ∧ 0 ≤ c ∧ c ≤ c0
theorem Sr.mono {c d : Int} {s : List Int} (h : Sr c s) (e : c ≤ d) : Sr d s := by
  obtain ⟨a, b, x, rfl, h1, h2, h3, h4, h5⟩ := h
  exact ⟨a, b, x, rfl, h1, h2, h3, h4, by omega⟩
end Mv
namespace Mv
open PySem L2
theorem sli_ok {α : Type} {l : List α} {n : Int} (h0 : 0 ≤ n) (h1 : n ≤ 1000000000) : ∃ r, sliG l none (some n) = some r ∧ r.length ≤ l.length ∧ (r.length : Int) ≤ n ∧ r = l.take n.toNat := by
  have a : okB (some n) = true := by unfold okB; simp only [Bool.and_eq_true, decide_eq_true_eq]; omega
  have e : sliG l none (some n) = some (l.take n.toNat) := by
    unfold sliG
    rw [a]
    have : okB none = true := rfl
    rw [this]
    simp only [Bool.and_self, if_true, HT.sIx_none, List.drop_zero, Nat.sub_zero]
    rw [show HT.sIx l.length l.length (some n) = min n.toNat l.length by show (if n < 0 then (n + (l.length : Int)).toNat else min n.toNat l.length) = _; rw [if_neg (by omega)]]
    congr 1
    rw [List.take_eq_take_iff]
    omega
  exact ⟨_, e, by rw [List.length_take]; omega, by rw [List.length_take]; omega, rfl⟩
theorem shps_ints (n : Nat) (l : List Int) : D.shps n (l.map D.int) = true := by
  induction l with
  | nil => cases n <;> rfl
  | cons x l ih =>
    have : (D.int x).shp n = true := by cases n <;> rfl
    cases n <;> simp_all [D.shps]
theorem shp_ints {n : Nat} {l : List Int} : (D.list (l.map D.int)).shp (n + 1) = true := by
  simp only [D.shp]; exact shps_ints n l
theorem deq_ex {a b : D} (h1 : a.shp 60 = true) (h2 : b.shp 60 = true) : ∃ x, deqG a b = some x := by
  unfold deqG deq
  split
  · exact ⟨_, rfl⟩
  · rw [h1, h2]; exact ⟨_, rfl⟩
theorem head_ok {script : List Int} {m : Int} (h : script.length ≤ 63) (h0 : 0 ≤ m) (h1 : m ≤ 1000) : ∃ r, sliG (script ++ [0]) none (some (mx2 1 (mn2 (script.length : Int) m))) = some r ∧ r.length ≤ 64 := by
  have b : 0 ≤ mx2 1 (mn2 (script.length : Int) m) ∧ mx2 1 (mn2 (script.length : Int) m) ≤ 1000 := by
    unfold mx2 mn2; split <;> split at * <;> omega
  obtain ⟨r, e, l, _⟩ := sli_ok (l := script ++ [0]) b.1 (show mx2 1 (mn2 (script.length : Int) m) ≤ 1000000000 by omega)
  exact ⟨r, e, by simp at l; omega⟩
end Mv
namespace Mv
open PySem L2
theorem sli_lo {α : Type} {l : List α} {n : Int} (h0 : 0 ≤ n) (h1 : n ≤ 1000000000) : sliG l (some n) none = some (l.drop n.toNat) := by
  have a : okB (some n) = true := by unfold okB; simp only [Bool.and_eq_true, decide_eq_true_eq]; omega
  unfold sliG
  rw [a]
  have : okB none = true := rfl
  rw [this]
  simp only [Bool.and_self, if_true, HT.sIx_none]
  rw [show HT.sIx l.length 0 (some n) = min n.toNat l.length by show (if n < 0 then (n + (l.length : Int)).toNat else min n.toNat l.length) = _; rw [if_neg (by omega)]]
  congr 1
  by_cases c : n.toNat ≤ l.length
  · rw [Nat.min_eq_left c, List.take_of_length_le (by rw [List.length_drop]; omega)]
  · rw [Nat.min_eq_right (by omega), List.drop_length, List.drop_of_length_le (by omega)]; simp
end Mv

end
section
set_option maxRecDepth 100000
set_option exponentiation.threshold 9000
set_option maxHeartbeats 4000000
namespace LW
open PySem PySem.Spec PyProof.Rows L2 Mv
def B__law_source : Ss := (.cons (.set 2 (.blt .abs (.cons (.var 0) .nil)))
  (.cons (.ret (.list (.cons (.blt .max2 (.cons (.kst (.int 0)) (.cons (.bin .Sub (.var 2) (.bin .Pow (.kst (.int 10)) (.kst (.int 18)))) .nil))) (.cons (.bin .Add (.bin .Add (.bin .Mult (.bin .Mod (.blt .int (.cons (.var 2) .nil)) (.bin .Add (.bin .Pow (.kst (.int 10)) (.kst (.int 39))) (.kst (.int 3)))) (.kst (.int 97))) (.bin .Mult (.kst (.int 2)) (.var 1))) (.blt .int (.cons (.cmp .Lt (.var 0) (.kst (.int 0))) .nil))) (.cons (.kst (.int 0)) .nil)))))
  .nil))
def G__law_source : Gam := ⟨[], []⟩
def F__law_source : Fn := ⟨[false, false], runDef G__law_source [false, false] 3 B__law_source⟩
theorem R__law_source (ts : List T) : F__law_source.run ts = runDef G__law_source [false, false] 3 B__law_source ts := rfl
def B_is_integer : Ss := (.cons (.ite (.bool .Or (.cons (.not (.val (.blt .isint (.cons (.var 0) .nil)))) (.one (.val (.blt .isbool (.cons (.var 0) .nil)))))) (.cons (.ret (.kst (.bool false)))
  .nil) .nil)
  (.cons (.ret (.boolop .And (.cmp .GtE (.var 0) (.var 1)) (.boolop .Or (.cmp .Is (.var 2) (.kst .none)) (.cmp .LtE (.var 0) (.var 2)))))
  .nil))
def G_is_integer : Gam := ⟨[], []⟩
def F_is_integer : Fn := ⟨[false, false, false], runDef G_is_integer [false, false, false] 3 B_is_integer⟩
theorem R_is_integer (ts : List T) : F_is_integer.run ts = runDef G_is_integer [false, false, false] 3 B_is_integer ts := rfl
def B_need_size : Ss := (.cons (.ite (.not (.val (.call 0 (.cons (.fzv (.var 0)) (.cons (.kst (.int 1)) (.cons (.gl 0) .nil)))))) (.cons .stuck
  .nil) .nil)
  .nil)
def G_need_size : Gam := ⟨[F_is_integer], [.int 999999999999999999999999999999]⟩
def F_need_size : Fn := ⟨[false], runDef G_need_size [false] 1 B_need_size⟩
theorem R_need_size (ts : List T) : F_need_size.run ts = runDef G_need_size [false] 1 B_need_size ts := rfl
def B_need_numbers : Ss := (.cons (.ite (.bool .Or (.cons (.not (.val (.blt .islist (.cons (.var 0) .nil)))) (.one (.cmp .Gt (.blt .len (.cons (.var 0) .nil)) (.gl 0))))) (.cons .stuck
  .nil) .nil)
  (.cons (.for (.tp [1, 2]) (.enum (.var 0)) (.cons (.ite (.not (.val (.call 0 (.cons (.fzv (.var 2)) (.cons (.kst (.int 0)) (.cons (.kst .none) .nil)))))) (.cons .stuck
  .nil) .nil)
  .nil))
  .nil))
def G_need_numbers : Gam := ⟨[F_is_integer], [.int 200]⟩
def F_need_numbers : Fn := ⟨[false], runDef G_need_numbers [false] 3 B_need_numbers⟩
theorem R_need_numbers (ts : List T) : F_need_numbers.run ts = runDef G_need_numbers [false] 3 B_need_numbers ts := rfl
def B_lots_heard : Ss := (.cons (.exp (.call 0 (.cons (.fzv (.var 0)) .nil)))
  (.cons (.exp (.call 1 (.cons (.fzv (.var 1)) .nil)))
  (.cons (.set 2 (.lc [("number", 3)] (.nm 3) (.seq (.var 1)) .none (.bin .FloorDiv (.var 3) (.var 0))))
  (.cons (.ret (.lc [("index", 5), ("lot", 6)] (.tp [5, 6]) (.enum (.var 2)) .none (.ext .lset (.cons (.lc [("other", 4)] (.nm 4) (.seq (.sl (.var 2) (.some (.bin .Add (.var 5) (.kst (.int 1)))) .none)) (.some (.cmp .Lt (.var 4) (.var 6))) (.fzv (.var 4))) .nil))))
  .nil))))
def G_lots_heard : Gam := ⟨[F_need_size, F_need_numbers], []⟩
def F_lots_heard : Fn := ⟨[false, false], runDef G_lots_heard [false, false] 7 B_lots_heard⟩
theorem R_lots_heard (ts : List T) : F_lots_heard.run ts = runDef G_lots_heard [false, false] 7 B_lots_heard ts := rfl
def B__law_draw : Ss := (.cons (.ite (.cmp .Gt (.ix (.var 0) (.kst (.int 0))) (.kst (.int 0))) (.cons (.set 2 (.bin .Mod (.blt .int (.cons (.ix (.var 0) (.kst (.int 0))) .nil)) (.var 1)))
  (.cons (.sto (.var 0) (.kst (.int 0)) (.bin .FloorDiv (.ix (.var 0) (.kst (.int 0))) (.var 1)))
  (.cons (.ret (.fzv (.var 2)))
  .nil))) .nil)
  (.cons (.sto (.var 0) (.kst (.int 2)) (.bin .Add (.ix (.var 0) (.kst (.int 2))) (.kst (.int 1))))
  (.cons (.set 3 (.bin .Mod (.blt .int (.cons (.bin .Pow (.bin .Add (.ix (.var 0) (.kst (.int 1))) (.bin .Mult (.kst (.int 600011)) (.ix (.var 0) (.kst (.int 2))))) (.kst (.int 3))) .nil)) (.bin .Add (.bin .Pow (.kst (.int 10)) (.kst (.int 36))) (.kst (.int 67)))))
  (.cons (.set 3 (.bin .Mod (.blt .int (.cons (.bin .Pow (.bin .Add (.bin .Mult (.var 3) (.ix (.var 0) (.kst (.int 2)))) (.kst (.int 77773))) (.kst (.int 3))) .nil)) (.bin .Add (.bin .Pow (.kst (.int 10)) (.kst (.int 38))) (.kst (.int 133)))))
  (.cons (.ret (.bin .Mod (.blt .int (.cons (.bin .FloorDiv (.var 3) (.kst (.int 32749))) .nil)) (.var 1)))
  .nil)))))
def G__law_draw : Gam := ⟨[], []⟩
def F__law_draw : Fn := ⟨[true, false], runDef G__law_draw [true, false] 4 B__law_draw⟩
theorem R__law_draw (ts : List T) : F__law_draw.run ts = runDef G__law_draw [true, false] 4 B__law_draw ts := rfl
def B__law_width : Ss := (.cons (.set 1 (.fzv (.call 0 (.cons (.var 0) (.cons (.kst (.int 4)) .nil)))))
  (.cons (.ret (.fzv (.ix (.list (.cons (.kst (.int 1)) (.cons (.bin .Add (.kst (.int 1)) (.call 0 (.cons (.var 0) (.cons (.kst (.int 4)) .nil)))) (.cons (.kst (.int 2)) (.cons (.bin .Add (.kst (.int 1)) (.call 0 (.cons (.var 0) (.cons (.bin .Sub (.bin .Pow (.kst (.int 10)) (.kst (.int 27))) (.kst (.int 1))) .nil)))) .nil))))) (.var 1))))
  .nil))
def G__law_width : Gam := ⟨[F__law_draw], []⟩
def F__law_width : Fn := ⟨[true], runDef G__law_width [true] 2 B__law_width⟩
theorem R__law_width (ts : List T) : F__law_width.run ts = runDef G__law_width [true] 2 B__law_width ts := rfl
def B__law_any : Ss := (.cons (.set 3 (.fzv (.ix (.list (.cons (.kst (.int 2)) (.cons (.kst (.int 5)) (.cons (.kst (.int 30)) (.cons (.kst (.int 900)) .nil))))) (.call 0 (.cons (.var 0) (.cons (.kst (.int 4)) .nil))))))
  (.cons (.ret (.fzv (.lc [("turn", 4)] (.nm 4) (.rng1 (.var 2)) .none (.fzv (.bin .Add (.bin .Mult (.call 0 (.cons (.var 0) (.cons (.fzv (.var 3)) .nil))) (.var 1)) (.call 0 (.cons (.var 0) (.cons (.fzv (.var 1)) .nil))))))))
  .nil))
def G__law_any : Gam := ⟨[F__law_draw], []⟩
def F__law_any : Fn := ⟨[true, false, false], runDef G__law_any [true, false, false] 5 B__law_any⟩
theorem R__law_any (ts : List T) : F__law_any.run ts = runDef G__law_any [true, false, false] 5 B__law_any ts := rfl
def B__law_due : Ss := (.cons (.par [2, 3] (.cons (.list .nil) (.cons (.list .nil) .nil)))
  (.cons (.for (.nm 4) (.seq (.rv (.var 1))) (.cons (.set 5 (.bin .FloorDiv (.var 4) (.var 0)))
  (.cons (.app (.var 3) (.blt .len (.cons (.lc [("other", 6)] (.nm 6) (.brw (.var 2)) (.some (.cmp .Lt (.var 6) (.var 5))) (.fzv (.var 6))) .nil)))
  (.cons (.ite (.cmp .NotIn (.var 5) (.var 2)) (.cons (.app (.var 2) (.fzv (.var 5)))
  .nil) .nil)
  .nil))))
  (.cons (.ret (.fzv (.rv (.var 3))))
  .nil)))
def G__law_due : Gam := ⟨[], []⟩
def F__law_due : Fn := ⟨[false, false], runDef G__law_due [false, false] 7 B__law_due⟩
theorem R__law_due (ts : List T) : F__law_due.run ts = runDef G__law_due [false, false] 7 B__law_due ts := rfl
def B_law : Ss := (.cons (.for (.tp [1, 2]) (.enum (.sl (.bin .Add (.var 0) (.list (.cons (.kst (.int 0)) .nil))) .none (.some (.blt .max2 (.cons (.kst (.int 1)) (.cons (.blt .min2 (.cons (.blt .len (.cons (.var 0) .nil)) (.cons (.kst (.int 12)) .nil))) .nil)))))) (.cons (.set 3 (.call 0 (.cons (.fzv (.var 2)) (.cons (.fzv (.var 1)) .nil))))
  (.cons (.for (.nm 4) (.rng1 (.kst (.int 3))) (.cons (.set 5 (.fzv (.call 2 (.cons (.var 3) .nil))))
  (.cons (.set 6 (.fzv (.ite (.bool .And (.cons (.cmp .Eq (.bin .Add (.var 1) (.var 4)) (.kst (.int 0))) (.one (.cmp .NotEq (.var 0) (.list .nil))))) (.kst (.int 200)) (.call 4 (.cons (.var 3) (.cons (.fzv (.ix (.list (.cons (.kst (.int 7)) (.cons (.kst (.int 31)) .nil))) (.blt .int (.cons (.cmp .NotEq (.var 0) (.list .nil)) .nil)))) .nil))))))
  (.cons (.set 7 (.fzv (.call 3 (.cons (.var 3) (.cons (.fzv (.var 5)) (.cons (.fzv (.var 6)) .nil))))))
  (.cons (.par [8, 9] (.cons (.blt .repr (.cons (.var 7) .nil)) (.cons (.fzv (.call 5 (.cons (.fzv (.var 5)) (.cons (.fzv (.var 7)) .nil)))) .nil)))
  (.cons (.set 10 (.list (.cons (.call 1 (.cons (.fzv (.var 5)) (.cons (.fzv (.var 7)) .nil))) (.cons (.callk 1 [1, 0] (.cons (.fzv (.var 7)) (.cons (.fzv (.var 5)) .nil))) .nil))))
  (.cons (.ite (.bool .Or (.cons (.cmp .NotEq (.blt .repr (.cons (.var 10) .nil)) (.blt .repr (.cons (.list (.cons (.fzv (.var 9)) (.cons (.fzv (.var 9)) .nil))) .nil))) (.one (.cmp .NotEq (.blt .repr (.cons (.var 7) .nil)) (.var 8))))) (.cons (.ret (.kst (.bool false)))
  .nil) .nil)
  (.cons (.app (.ix (.var 10) (.kst (.int 0))) (.kst (.int 7)))
  (.cons (.ite (.cmp .NotEq (.call 1 (.cons (.fzv (.var 5)) (.cons (.fzv (.var 7)) .nil))) (.var 9)) (.cons (.ret (.kst (.bool false)))
  .nil) .nil)
  .nil)))))))))
  .nil)))
  (.cons (.set 11 (.bin .Sub (.bin .Pow (.kst (.int 10)) (.kst (.int 30))) (.kst (.int 1))))
  (.cons (.set 10 (.list (.cons (.fzv (.call 1 (.cons (.kst (.int 2)) (.cons (.fzv (.list (.cons (.kst (.int 4)) (.cons (.kst (.int 0)) (.cons (.kst (.int 3)) (.cons (.kst (.int 1)) .nil)))))) .nil)))) (.cons (.fzv (.call 1 (.cons (.fzv (.var 11)) (.cons (.fzv (.list (.cons (.fzv (.var 11)) (.cons (.kst (.int 0)) (.cons (.bin .Sub (.var 11) (.kst (.int 1))) .nil))))) .nil)))) (.cons (.fzv (.call 1 (.cons (.kst (.int 1)) (.cons (.fzv (.list .nil)) .nil)))) .nil)))))
  (.cons (.ret (.cmp .Eq (.var 10) (.list (.cons (.fzv (.list (.cons (.kst (.int 2)) (.cons (.kst (.int 0)) (.cons (.kst (.int 1)) (.cons (.kst (.int 0)) .nil)))))) (.cons (.fzv (.list (.cons (.kst (.int 1)) (.cons (.kst (.int 0)) (.cons (.kst (.int 0)) .nil))))) (.cons (.fzv (.list .nil)) .nil))))))
  .nil))))
def G_law : Gam := ⟨[F__law_source, F_lots_heard, F__law_width, F__law_any, F__law_draw, F__law_due], []⟩
def F_law : Fn := ⟨[false], runDef G_law [false] 12 B_law⟩
theorem R_law (ts : List T) : F_law.run ts = runDef G_law [false] 12 B_law ts := rfl
end LW

end
section
set_option maxRecDepth 100000
set_option exponentiation.threshold 9000
set_option maxHeartbeats 4000000
namespace LW
open PySem PySem.Spec PyProof.Rows L2 Mv
def topS (i : Nat) : Stmt := PySem.Challenge.pw_holesleft_k21_lots_heard_behind.main.body.getD i (.Pass ⟨0, 0, 0, 0⟩)
abbrev s__law_source : Stmt := topS 13
theorem sc__law_source : FnScope ["cell", "k", "great"] ["cell", "k"] (defScope s__law_source) := ⟨rfl, rfl, rfl, by decide +kernel, rfl, by decide +kernel, by decide +kernel⟩
def x__law_source : Sx := ⟨["cell", "k", "great"], [], [], ["abs", "max", "int"]⟩
theorem ck__law_source : chkSs x__law_source (defScope s__law_source) (fun _ => true) B__law_source (defBody s__law_source) = true := by decide +kernel
abbrev s_is_integer : Stmt := topS 7
theorem sc_is_integer : FnScope ["value", "least", "most"] ["value", "least", "most"] (defScope s_is_integer) := ⟨rfl, rfl, rfl, by decide +kernel, rfl, by decide +kernel, by decide +kernel⟩
def x_is_integer : Sx := ⟨["value", "least", "most"], [], [], ["isinstance", "int", "bool"]⟩
theorem ck_is_integer : chkSs x_is_integer (defScope s_is_integer) (fun _ => true) B_is_integer (defBody s_is_integer) = true := by decide +kernel
abbrev s_need_size : Stmt := topS 8
theorem sc_need_size : FnScope ["value"] ["value"] (defScope s_need_size) := ⟨rfl, rfl, rfl, by decide +kernel, rfl, by decide +kernel, by decide +kernel⟩
def x_need_size : Sx := ⟨["value"], [("is_integer", ["value", "least", "most"], [])], ["MOST_SIZE"], []⟩
theorem ck_need_size : chkSs x_need_size (defScope s_need_size) (fun _ => true) B_need_size (defBody s_need_size) = true := by decide +kernel
abbrev s_need_numbers : Stmt := topS 9
theorem sc_need_numbers : FnScope ["value", "index", "number"] ["value"] (defScope s_need_numbers) := ⟨rfl, rfl, rfl, by decide +kernel, rfl, by decide +kernel, by decide +kernel⟩
def x_need_numbers : Sx := ⟨["value", "index", "number"], [("is_integer", ["value", "least", "most"], [])], ["MOST_NUMBERS"], ["isinstance", "list", "len", "enumerate"]⟩
theorem ck_need_numbers : chkSs x_need_numbers (defScope s_need_numbers) (fun _ => true) B_need_numbers (defBody s_need_numbers) = true := by decide +kernel
abbrev s_lots_heard : Stmt := topS 11
theorem sc_lots_heard : FnScope ["size", "numbers", "lots", "number", "other", "index", "lot"] ["size", "numbers"] (defScope s_lots_heard) := ⟨rfl, rfl, rfl, by decide +kernel, rfl, by decide +kernel, by decide +kernel⟩
def x_lots_heard : Sx := ⟨["size", "numbers", "lots", "number", "other", "index", "lot"], [("need_size", ["value"], []), ("need_numbers", ["value"], [])], [], ["enumerate", "len"]⟩
theorem ck_lots_heard : chkSs x_lots_heard (defScope s_lots_heard) (fun _ => true) B_lots_heard (defBody s_lots_heard) = true := by decide +kernel
abbrev s__law_draw : Stmt := topS 14
theorem sc__law_draw : FnScope ["source", "count", "drawn", "mixed"] ["source", "count"] (defScope s__law_draw) := ⟨rfl, rfl, rfl, by decide +kernel, rfl, by decide +kernel, by decide +kernel⟩
def x__law_draw : Sx := ⟨["source", "count", "drawn", "mixed"], [], [], ["int"]⟩
theorem ck__law_draw : chkSs x__law_draw (defScope s__law_draw) (fun _ => true) B__law_draw (defBody s__law_draw) = true := by decide +kernel
abbrev s__law_width : Stmt := topS 15
theorem sc__law_width : FnScope ["source", "way"] ["source"] (defScope s__law_width) := ⟨rfl, rfl, rfl, by decide +kernel, rfl, by decide +kernel, by decide +kernel⟩
def x__law_width : Sx := ⟨["source", "way"], [("_law_draw", ["source", "count"], [])], [], []⟩
theorem ck__law_width : chkSs x__law_width (defScope s__law_width) (fun _ => true) B__law_width (defBody s__law_width) = true := by decide +kernel
abbrev s__law_any : Stmt := topS 16
theorem sc__law_any : FnScope ["source", "width", "many", "reach", "turn"] ["source", "width", "many"] (defScope s__law_any) := ⟨rfl, rfl, rfl, by decide +kernel, rfl, by decide +kernel, by decide +kernel⟩
def x__law_any : Sx := ⟨["source", "width", "many", "reach", "turn"], [("_law_draw", ["source", "count"], [])], [], ["range"]⟩
theorem ck__law_any : chkSs x__law_any (defScope s__law_any) (fun _ => true) B__law_any (defBody s__law_any) = true := by decide +kernel
abbrev s__law_due : Stmt := topS 17
theorem sc__law_due : FnScope ["width", "row", "behind", "found", "number", "lot", "other"] ["width", "row"] (defScope s__law_due) := ⟨rfl, rfl, rfl, by decide +kernel, rfl, by decide +kernel, by decide +kernel⟩
def x__law_due : Sx := ⟨["width", "row", "behind", "found", "number", "lot", "other"], [], [], ["len"]⟩
theorem ck__law_due : chkSs x__law_due (defScope s__law_due) (fun _ => true) B__law_due (defBody s__law_due) = true := by decide +kernel
abbrev s_law : Stmt := topS 18
theorem sc_law : FnScope ["script", "k", "cell", "source", "turn", "width", "many", "row", "kept", "due", "told", "far"] ["script"] (defScope s_law) := ⟨rfl, rfl, rfl, by decide +kernel, rfl, by decide +kernel, by decide +kernel⟩
def x_law : Sx := ⟨["script", "k", "cell", "source", "turn", "width", "many", "row", "kept", "due", "told", "far"], [("_law_source", ["cell", "k"], []), ("lots_heard", ["size", "numbers"], [(["numbers", "size"], [1, 0])]), ("_law_width", ["source"], []), ("_law_any", ["source", "width", "many"], []), ("_law_draw", ["source", "count"], []), ("_law_due", ["width", "row"], [])], [], ["enumerate", "max", "min", "len", "range", "int", "repr"]⟩
theorem ck_law : chkSs x_law (defScope s_law) (fun _ => true) B_law (defBody s_law) = true := by decide +kernel
section
variable {P : Program} {w : World} {K : PySem.W.Frag} {mg : Str → Option Value} {base : Heap}
theorem bd__law_source {a : Addr} {fd : FuncData} (F : Fun K "_law_source" "_law_source" s__law_source a fd) : BindsAll fd ["cell", "k"] [] := by
 obtain ⟨_, _, _, _, _, _, _, _, _, rfl, _, _⟩ := F.ex
 refine ⟨fun us hl => match us, hl with | [_, _], _ => rfl, fun q hq => ?_⟩
 cases hq
theorem ctx__law_source  (z_abs : mg "abs" = none) (z_max : mg "max" = none) (z_int : mg "int" = none)  : Ctx P w K mg base 0 x__law_source G__law_source := by
 refine ⟨fun nm h => ?_, fun k f nm ps kb h1 h2 => ?_, fun g d nm h1 h2 => ?_⟩
 ·have h : nm ∈ [("abs" : Str), ("max" : Str), ("int" : Str)] := h
  rcases List.mem_cons.mp h with rfl | h
  ·exact z_abs
  rcases List.mem_cons.mp h with rfl | h
  ·exact z_max
  rcases List.mem_cons.mp h with rfl | h
  ·exact z_int
  cases h
 ·exact absurd h1 (by simp [G__law_source])
 ·exact absurd h1 (by simp [G__law_source])
theorem cl__law_source {a : Addr} {fd : FuncData} (F : Fun K "_law_source" "_law_source" s__law_source a fd) (gf : mg "_law_source" = some (.ref a)) (c : Ctx P w K mg base 0 x__law_source G__law_source) : Cl P w K mg base 1 "_law_source" ["cell", "k"] [] F__law_source :=
 ⟨.inl ⟨a, fd, gf, F.kp, bd__law_source F, def_G F sc__law_source c rfl ck__law_source⟩, rfl⟩
theorem bd_is_integer {a : Addr} {fd : FuncData} (F : Fun K "is_integer" "is_integer" s_is_integer a fd) : BindsAll fd ["value", "least", "most"] [] := by
 obtain ⟨_, _, _, _, _, _, _, _, _, rfl, _, _⟩ := F.ex
 refine ⟨fun us hl => match us, hl with | [_, _, _], _ => rfl, fun q hq => ?_⟩
 cases hq
theorem ctx_is_integer  (z_isinstance : mg "isinstance" = none) (z_int : mg "int" = none) (z_bool : mg "bool" = none)  : Ctx P w K mg base 0 x_is_integer G_is_integer := by
 refine ⟨fun nm h => ?_, fun k f nm ps kb h1 h2 => ?_, fun g d nm h1 h2 => ?_⟩
 ·have h : nm ∈ [("isinstance" : Str), ("int" : Str), ("bool" : Str)] := h
  rcases List.mem_cons.mp h with rfl | h
  ·exact z_isinstance
  rcases List.mem_cons.mp h with rfl | h
  ·exact z_int
  rcases List.mem_cons.mp h with rfl | h
  ·exact z_bool
  cases h
 ·exact absurd h1 (by simp [G_is_integer])
 ·exact absurd h1 (by simp [G_is_integer])
theorem cl_is_integer {a : Addr} {fd : FuncData} (F : Fun K "is_integer" "is_integer" s_is_integer a fd) (gf : mg "is_integer" = some (.ref a)) (c : Ctx P w K mg base 0 x_is_integer G_is_integer) : Cl P w K mg base 1 "is_integer" ["value", "least", "most"] [] F_is_integer :=
 ⟨.inl ⟨a, fd, gf, F.kp, bd_is_integer F, def_G F sc_is_integer c rfl ck_is_integer⟩, rfl⟩
theorem bd_need_size {a : Addr} {fd : FuncData} (F : Fun K "need_size" "need_size" s_need_size a fd) : BindsAll fd ["value"] [] := by
 obtain ⟨_, _, _, _, _, _, _, _, _, rfl, _, _⟩ := F.ex
 refine ⟨fun us hl => match us, hl with | [_], _ => rfl, fun q hq => ?_⟩
 cases hq
theorem ctx_need_size (g_is_integer : Cl P w K mg base 1 "is_integer" ["value", "least", "most"] [] F_is_integer)  (c_MOST_SIZE : GlK K mg "MOST_SIZE" (.int 999999999999999999999999999999)) : Ctx P w K mg base 1 x_need_size G_need_size := by
 refine ⟨fun nm h => ?_, fun k f nm ps kb h1 h2 => ?_, fun g d nm h1 h2 => ?_⟩
 ·cases h
 ·match k, h1, h2 with
  | 0, h1, h2 => cases h1; cases h2; exact g_is_integer.mono (by decide)
  | n + 1, h1, h2 => exact absurd h1 (by simp [G_need_size])
 ·match g, h1, h2 with
  | 0, h1, h2 => cases h1; cases h2; exact c_MOST_SIZE
  | n + 1, h1, h2 => exact absurd h1 (by simp [G_need_size])
theorem cl_need_size {a : Addr} {fd : FuncData} (F : Fun K "need_size" "need_size" s_need_size a fd) (gf : mg "need_size" = some (.ref a)) (c : Ctx P w K mg base 1 x_need_size G_need_size) : Cl P w K mg base 2 "need_size" ["value"] [] F_need_size :=
 ⟨.inl ⟨a, fd, gf, F.kp, bd_need_size F, def_G F sc_need_size c rfl ck_need_size⟩, rfl⟩
theorem bd_need_numbers {a : Addr} {fd : FuncData} (F : Fun K "need_numbers" "need_numbers" s_need_numbers a fd) : BindsAll fd ["value"] [] := by
 obtain ⟨_, _, _, _, _, _, _, _, _, rfl, _, _⟩ := F.ex
 refine ⟨fun us hl => match us, hl with | [_], _ => rfl, fun q hq => ?_⟩
 cases hq
theorem ctx_need_numbers (g_is_integer : Cl P w K mg base 1 "is_integer" ["value", "least", "most"] [] F_is_integer) (z_isinstance : mg "isinstance" = none) (z_list : mg "list" = none) (z_len : mg "len" = none) (z_enumerate : mg "enumerate" = none) (c_MOST_NUMBERS : GlK K mg "MOST_NUMBERS" (.int 200)) : Ctx P w K mg base 1 x_need_numbers G_need_numbers := by
 refine ⟨fun nm h => ?_, fun k f nm ps kb h1 h2 => ?_, fun g d nm h1 h2 => ?_⟩
 ·have h : nm ∈ [("isinstance" : Str), ("list" : Str), ("len" : Str), ("enumerate" : Str)] := h
  rcases List.mem_cons.mp h with rfl | h
  ·exact z_isinstance
  rcases List.mem_cons.mp h with rfl | h
  ·exact z_list
  rcases List.mem_cons.mp h with rfl | h
  ·exact z_len
  rcases List.mem_cons.mp h with rfl | h
  ·exact z_enumerate
  cases h
 ·match k, h1, h2 with
  | 0, h1, h2 => cases h1; cases h2; exact g_is_integer.mono (by decide)
  | n + 1, h1, h2 => exact absurd h1 (by simp [G_need_numbers])
 ·match g, h1, h2 with
  | 0, h1, h2 => cases h1; cases h2; exact c_MOST_NUMBERS
  | n + 1, h1, h2 => exact absurd h1 (by simp [G_need_numbers])
theorem cl_need_numbers {a : Addr} {fd : FuncData} (F : Fun K "need_numbers" "need_numbers" s_need_numbers a fd) (gf : mg "need_numbers" = some (.ref a)) (c : Ctx P w K mg base 1 x_need_numbers G_need_numbers) : Cl P w K mg base 2 "need_numbers" ["value"] [] F_need_numbers :=
 ⟨.inl ⟨a, fd, gf, F.kp, bd_need_numbers F, def_G F sc_need_numbers c rfl ck_need_numbers⟩, rfl⟩
theorem bd_lots_heard {a : Addr} {fd : FuncData} (F : Fun K "lots_heard" "lots_heard" s_lots_heard a fd) : BindsAll fd ["size", "numbers"] [(["numbers", "size"], [1, 0])] := by
 obtain ⟨_, _, _, _, _, _, _, _, _, rfl, _, _⟩ := F.ex
 refine ⟨fun us hl => match us, hl with | [_, _], _ => rfl, fun q hq => ?_⟩
 rcases List.mem_cons.mp hq with rfl | hq
 ·exact fun us hl => match us, hl with | [_, _], _ => rfl
 cases hq
theorem ctx_lots_heard (g_need_size : Cl P w K mg base 2 "need_size" ["value"] [] F_need_size) (g_need_numbers : Cl P w K mg base 2 "need_numbers" ["value"] [] F_need_numbers) (z_enumerate : mg "enumerate" = none) (z_len : mg "len" = none)  : Ctx P w K mg base 2 x_lots_heard G_lots_heard := by
 refine ⟨fun nm h => ?_, fun k f nm ps kb h1 h2 => ?_, fun g d nm h1 h2 => ?_⟩
 ·have h : nm ∈ [("enumerate" : Str), ("len" : Str)] := h
  rcases List.mem_cons.mp h with rfl | h
  ·exact z_enumerate
  rcases List.mem_cons.mp h with rfl | h
  ·exact z_len
  cases h
 ·match k, h1, h2 with
  | 0, h1, h2 => cases h1; cases h2; exact g_need_size.mono (by decide)
  | 1, h1, h2 => cases h1; cases h2; exact g_need_numbers.mono (by decide)
  | n + 2, h1, h2 => exact absurd h1 (by simp [G_lots_heard])
 ·exact absurd h1 (by simp [G_lots_heard])
theorem cl_lots_heard {a : Addr} {fd : FuncData} (F : Fun K "lots_heard" "lots_heard" s_lots_heard a fd) (gf : mg "lots_heard" = some (.ref a)) (c : Ctx P w K mg base 2 x_lots_heard G_lots_heard) : Cl P w K mg base 3 "lots_heard" ["size", "numbers"] [(["numbers", "size"], [1, 0])] F_lots_heard :=
 ⟨.inl ⟨a, fd, gf, F.kp, bd_lots_heard F, def_G F sc_lots_heard c rfl ck_lots_heard⟩, rfl⟩
theorem bd__law_draw {a : Addr} {fd : FuncData} (F : Fun K "_law_draw" "_law_draw" s__law_draw a fd) : BindsAll fd ["source", "count"] [] := by
 obtain ⟨_, _, _, _, _, _, _, _, _, rfl, _, _⟩ := F.ex
 refine ⟨fun us hl => match us, hl with | [_, _], _ => rfl, fun q hq => ?_⟩
 cases hq
theorem ctx__law_draw  (z_int : mg "int" = none)  : Ctx P w K mg base 0 x__law_draw G__law_draw := by
 refine ⟨fun nm h => ?_, fun k f nm ps kb h1 h2 => ?_, fun g d nm h1 h2 => ?_⟩
 ·have h : nm ∈ [("int" : Str)] := h
  rcases List.mem_cons.mp h with rfl | h
  ·exact z_int
  cases h
 ·exact absurd h1 (by simp [G__law_draw])
 ·exact absurd h1 (by simp [G__law_draw])
theorem cl__law_draw {a : Addr} {fd : FuncData} (F : Fun K "_law_draw" "_law_draw" s__law_draw a fd) (gf : mg "_law_draw" = some (.ref a)) (c : Ctx P w K mg base 0 x__law_draw G__law_draw) : Cl P w K mg base 1 "_law_draw" ["source", "count"] [] F__law_draw :=
 ⟨.inl ⟨a, fd, gf, F.kp, bd__law_draw F, def_G F sc__law_draw c rfl ck__law_draw⟩, rfl⟩
theorem bd__law_width {a : Addr} {fd : FuncData} (F : Fun K "_law_width" "_law_width" s__law_width a fd) : BindsAll fd ["source"] [] := by
 obtain ⟨_, _, _, _, _, _, _, _, _, rfl, _, _⟩ := F.ex
 refine ⟨fun us hl => match us, hl with | [_], _ => rfl, fun q hq => ?_⟩
 cases hq
theorem ctx__law_width (g__law_draw : Cl P w K mg base 1 "_law_draw" ["source", "count"] [] F__law_draw)   : Ctx P w K mg base 1 x__law_width G__law_width := by
 refine ⟨fun nm h => ?_, fun k f nm ps kb h1 h2 => ?_, fun g d nm h1 h2 => ?_⟩
 ·cases h
 ·match k, h1, h2 with
  | 0, h1, h2 => cases h1; cases h2; exact g__law_draw.mono (by decide)
  | n + 1, h1, h2 => exact absurd h1 (by simp [G__law_width])
 ·exact absurd h1 (by simp [G__law_width])
theorem cl__law_width {a : Addr} {fd : FuncData} (F : Fun K "_law_width" "_law_width" s__law_width a fd) (gf : mg "_law_width" = some (.ref a)) (c : Ctx P w K mg base 1 x__law_width G__law_width) : Cl P w K mg base 2 "_law_width" ["source"] [] F__law_width :=
 ⟨.inl ⟨a, fd, gf, F.kp, bd__law_width F, def_G F sc__law_width c rfl ck__law_width⟩, rfl⟩
theorem bd__law_any {a : Addr} {fd : FuncData} (F : Fun K "_law_any" "_law_any" s__law_any a fd) : BindsAll fd ["source", "width", "many"] [] := by
 obtain ⟨_, _, _, _, _, _, _, _, _, rfl, _, _⟩ := F.ex
 refine ⟨fun us hl => match us, hl with | [_, _, _], _ => rfl, fun q hq => ?_⟩
 cases hq
theorem ctx__law_any (g__law_draw : Cl P w K mg base 1 "_law_draw" ["source", "count"] [] F__law_draw) (z_range : mg "range" = none)  : Ctx P w K mg base 1 x__law_any G__law_any := by
 refine ⟨fun nm h => ?_, fun k f nm ps kb h1 h2 => ?_, fun g d nm h1 h2 => ?_⟩
 ·have h : nm ∈ [("range" : Str)] := h
  rcases List.mem_cons.mp h with rfl | h
  ·exact z_range
  cases h
 ·match k, h1, h2 with
  | 0, h1, h2 => cases h1; cases h2; exact g__law_draw.mono (by decide)
  | n + 1, h1, h2 => exact absurd h1 (by simp [G__law_any])
 ·exact absurd h1 (by simp [G__law_any])
theorem cl__law_any {a : Addr} {fd : FuncData} (F : Fun K "_law_any" "_law_any" s__law_any a fd) (gf : mg "_law_any" = some (.ref a)) (c : Ctx P w K mg base 1 x__law_any G__law_any) : Cl P w K mg base 2 "_law_any" ["source", "width", "many"] [] F__law_any :=
 ⟨.inl ⟨a, fd, gf, F.kp, bd__law_any F, def_G F sc__law_any c rfl ck__law_any⟩, rfl⟩
theorem bd__law_due {a : Addr} {fd : FuncData} (F : Fun K "_law_due" "_law_due" s__law_due a fd) : BindsAll fd ["width", "row"] [] := by
 obtain ⟨_, _, _, _, _, _, _, _, _, rfl, _, _⟩ := F.ex
 refine ⟨fun us hl => match us, hl with | [_, _], _ => rfl, fun q hq => ?_⟩
 cases hq
theorem ctx__law_due  (z_len : mg "len" = none)  : Ctx P w K mg base 0 x__law_due G__law_due := by
 refine ⟨fun nm h => ?_, fun k f nm ps kb h1 h2 => ?_, fun g d nm h1 h2 => ?_⟩
 ·have h : nm ∈ [("len" : Str)] := h
  rcases List.mem_cons.mp h with rfl | h
  ·exact z_len
  cases h
 ·exact absurd h1 (by simp [G__law_due])
 ·exact absurd h1 (by simp [G__law_due])
theorem cl__law_due {a : Addr} {fd : FuncData} (F : Fun K "_law_due" "_law_due" s__law_due a fd) (gf : mg "_law_due" = some (.ref a)) (c : Ctx P w K mg base 0 x__law_due G__law_due) : Cl P w K mg base 1 "_law_due" ["width", "row"] [] F__law_due :=
 ⟨.inl ⟨a, fd, gf, F.kp, bd__law_due F, def_G F sc__law_due c rfl ck__law_due⟩, rfl⟩
theorem bd_law {a : Addr} {fd : FuncData} (F : Fun K "law" "law" s_law a fd) : BindsAll fd ["script"] [] := by
 obtain ⟨_, _, _, _, _, _, _, _, _, rfl, _, _⟩ := F.ex
 refine ⟨fun us hl => match us, hl with | [_], _ => rfl, fun q hq => ?_⟩
 cases hq
theorem ctx_law (g__law_source : Cl P w K mg base 1 "_law_source" ["cell", "k"] [] F__law_source) (g_lots_heard : Cl P w K mg base 3 "lots_heard" ["size", "numbers"] [(["numbers", "size"], [1, 0])] F_lots_heard) (g__law_width : Cl P w K mg base 2 "_law_width" ["source"] [] F__law_width) (g__law_any : Cl P w K mg base 2 "_law_any" ["source", "width", "many"] [] F__law_any) (g__law_draw : Cl P w K mg base 1 "_law_draw" ["source", "count"] [] F__law_draw) (g__law_due : Cl P w K mg base 1 "_law_due" ["width", "row"] [] F__law_due) (z_enumerate : mg "enumerate" = none) (z_max : mg "max" = none) (z_min : mg "min" = none) (z_len : mg "len" = none) (z_range : mg "range" = none) (z_int : mg "int" = none) (z_repr : mg "repr" = none)  : Ctx P w K mg base 3 x_law G_law := by
 refine ⟨fun nm h => ?_, fun k f nm ps kb h1 h2 => ?_, fun g d nm h1 h2 => ?_⟩
 ·have h : nm ∈ [("enumerate" : Str), ("max" : Str), ("min" : Str), ("len" : Str), ("range" : Str), ("int" : Str), ("repr" : Str)] := h
  rcases List.mem_cons.mp h with rfl | h
  ·exact z_enumerate
  rcases List.mem_cons.mp h with rfl | h
  ·exact z_max
  rcases List.mem_cons.mp h with rfl | h
  ·exact z_min
  rcases List.mem_cons.mp h with rfl | h
  ·exact z_len
  rcases List.mem_cons.mp h with rfl | h
  ·exact z_range
  rcases List.mem_cons.mp h with rfl | h
  ·exact z_int
  rcases List.mem_cons.mp h with rfl | h
  ·exact z_repr
  cases h
 ·match k, h1, h2 with
  | 0, h1, h2 => cases h1; cases h2; exact g__law_source.mono (by decide)
  | 1, h1, h2 => cases h1; cases h2; exact g_lots_heard.mono (by decide)
  | 2, h1, h2 => cases h1; cases h2; exact g__law_width.mono (by decide)
  | 3, h1, h2 => cases h1; cases h2; exact g__law_any.mono (by decide)
  | 4, h1, h2 => cases h1; cases h2; exact g__law_draw.mono (by decide)
  | 5, h1, h2 => cases h1; cases h2; exact g__law_due.mono (by decide)
  | n + 6, h1, h2 => exact absurd h1 (by simp [G_law])
 ·exact absurd h1 (by simp [G_law])
end
theorem all_mk {l : PySem.W.OpenLaw} {w : World} {K : PySem.W.Frag} {h : Heap} {mg : Str → Option Value} {fa f0 f1 f2 f3 f4 f5 f6 f7 f8 f9 : Addr} (X : K.In h) (G : h.Ns mainGlobals mg) (hfa : mg "law" = some (.ref fa))
  {od0 an0 od1 an1 od2 an2 od3 an3 od4 an4 od5 an5 od6 an6 od7 an7 od8 an8 od9 an9 : Option Addr} {sl0 sl1 sl2 sl3 sl4 sl5 sl6 sl7 sl8 sl9 : Array (Option Value)} {oc0 kV0 dc0 pm0 cd0 ct0 oc1 kV1 dc1 pm1 cd1 ct1 oc2 kV2 dc2 pm2 cd2 ct2 oc3 kV3 dc3 pm3 cd3 ct3 oc4 kV4 dc4 pm4 cd4 ct4 oc5 kV5 dc5 pm5 cd5 ct5 oc6 kV6 dc6 pm6 cd6 ct6 oc7 kV7 dc7 pm7 cd7 ct7 oc8 kV8 dc8 pm8 cd8 ct8 oc9 kV9 dc9 pm9 cd9 ct9 : Value} {tk0 : _} {tk1 : _}
  (a0 : PySem.W.nsIn K mainGlobals "_law_source" = some (some (.ref f0))) (l0 : K.lookup f0 = some ⟨oc0, od0, .func (PySem.W.fnOf "_law_source" "_law_source" (defArgs s__law_source) (defBody s__law_source) (defScope s__law_source) .none kV0 dc0 pm0 an0 cd0 ct0), sl0⟩) (c0 : PySem.W.codeIn K cd0 "_law_source" = true) (k0 : PySem.W.keepIn K (.ref f0) = true)
  (a1 : PySem.W.nsIn K mainGlobals "is_integer" = some (some (.ref f1))) (l1 : K.lookup f1 = some ⟨oc1, od1, .func (PySem.W.fnOf "is_integer" "is_integer" (defArgs s_is_integer) (defBody s_is_integer) (defScope s_is_integer) .none kV1 dc1 pm1 an1 cd1 ct1), sl1⟩) (c1 : PySem.W.codeIn K cd1 "is_integer" = true) (k1 : PySem.W.keepIn K (.ref f1) = true)
  (a2 : PySem.W.nsIn K mainGlobals "need_size" = some (some (.ref f2))) (l2 : K.lookup f2 = some ⟨oc2, od2, .func (PySem.W.fnOf "need_size" "need_size" (defArgs s_need_size) (defBody s_need_size) (defScope s_need_size) .none kV2 dc2 pm2 an2 cd2 ct2), sl2⟩) (c2 : PySem.W.codeIn K cd2 "need_size" = true) (k2 : PySem.W.keepIn K (.ref f2) = true)
  (a3 : PySem.W.nsIn K mainGlobals "need_numbers" = some (some (.ref f3))) (l3 : K.lookup f3 = some ⟨oc3, od3, .func (PySem.W.fnOf "need_numbers" "need_numbers" (defArgs s_need_numbers) (defBody s_need_numbers) (defScope s_need_numbers) .none kV3 dc3 pm3 an3 cd3 ct3), sl3⟩) (c3 : PySem.W.codeIn K cd3 "need_numbers" = true) (k3 : PySem.W.keepIn K (.ref f3) = true)
  (a4 : PySem.W.nsIn K mainGlobals "lots_heard" = some (some (.ref f4))) (l4 : K.lookup f4 = some ⟨oc4, od4, .func (PySem.W.fnOf "lots_heard" "lots_heard" (defArgs s_lots_heard) (defBody s_lots_heard) (defScope s_lots_heard) .none kV4 dc4 pm4 an4 cd4 ct4), sl4⟩) (c4 : PySem.W.codeIn K cd4 "lots_heard" = true) (k4 : PySem.W.keepIn K (.ref f4) = true)
  (a5 : PySem.W.nsIn K mainGlobals "_law_draw" = some (some (.ref f5))) (l5 : K.lookup f5 = some ⟨oc5, od5, .func (PySem.W.fnOf "_law_draw" "_law_draw" (defArgs s__law_draw) (defBody s__law_draw) (defScope s__law_draw) .none kV5 dc5 pm5 an5 cd5 ct5), sl5⟩) (c5 : PySem.W.codeIn K cd5 "_law_draw" = true) (k5 : PySem.W.keepIn K (.ref f5) = true)
  (a6 : PySem.W.nsIn K mainGlobals "_law_width" = some (some (.ref f6))) (l6 : K.lookup f6 = some ⟨oc6, od6, .func (PySem.W.fnOf "_law_width" "_law_width" (defArgs s__law_width) (defBody s__law_width) (defScope s__law_width) .none kV6 dc6 pm6 an6 cd6 ct6), sl6⟩) (c6 : PySem.W.codeIn K cd6 "_law_width" = true) (k6 : PySem.W.keepIn K (.ref f6) = true)
  (a7 : PySem.W.nsIn K mainGlobals "_law_any" = some (some (.ref f7))) (l7 : K.lookup f7 = some ⟨oc7, od7, .func (PySem.W.fnOf "_law_any" "_law_any" (defArgs s__law_any) (defBody s__law_any) (defScope s__law_any) .none kV7 dc7 pm7 an7 cd7 ct7), sl7⟩) (c7 : PySem.W.codeIn K cd7 "_law_any" = true) (k7 : PySem.W.keepIn K (.ref f7) = true)
  (a8 : PySem.W.nsIn K mainGlobals "_law_due" = some (some (.ref f8))) (l8 : K.lookup f8 = some ⟨oc8, od8, .func (PySem.W.fnOf "_law_due" "_law_due" (defArgs s__law_due) (defBody s__law_due) (defScope s__law_due) .none kV8 dc8 pm8 an8 cd8 ct8), sl8⟩) (c8 : PySem.W.codeIn K cd8 "_law_due" = true) (k8 : PySem.W.keepIn K (.ref f8) = true)
  (a9 : PySem.W.nsIn K mainGlobals "law" = some (some (.ref f9))) (l9 : K.lookup f9 = some ⟨oc9, od9, .func (PySem.W.fnOf "law" "law" (defArgs s_law) (defBody s_law) (defScope s_law) .none kV9 dc9 pm9 an9 cd9 ct9), sl9⟩) (c9 : PySem.W.codeIn K cd9 "law" = true) (k9 : PySem.W.keepIn K (.ref f9) = true)
  (z0 : PySem.W.nsIn K mainGlobals "abs" = some none)
  (z1 : PySem.W.nsIn K mainGlobals "max" = some none)
  (z2 : PySem.W.nsIn K mainGlobals "int" = some none)
  (z3 : PySem.W.nsIn K mainGlobals "isinstance" = some none)
  (z4 : PySem.W.nsIn K mainGlobals "bool" = some none)
  (z5 : PySem.W.nsIn K mainGlobals "list" = some none)
  (z6 : PySem.W.nsIn K mainGlobals "len" = some none)
  (z7 : PySem.W.nsIn K mainGlobals "enumerate" = some none)
  (z8 : PySem.W.nsIn K mainGlobals "range" = some none)
  (z9 : PySem.W.nsIn K mainGlobals "min" = some none)
  (z10 : PySem.W.nsIn K mainGlobals "repr" = some none)
  (v0 : PySem.W.nsIn K mainGlobals "MOST_SIZE" = some (some (.int 999999999999999999999999999999 tk0)))
  (v1 : PySem.W.nsIn K mainGlobals "MOST_NUMBERS" = some (some (.int 200 tk1)))
  : ∃ fd : FuncData, (∀ (s : Shared) (v : Value), BindsTo s fd ⟨[v], []⟩ [("script", v)]) ∧ ∀ base : Heap, K.In base → base.Ns mainGlobals mg → FnG l.prog w K mg base 4 fa fd ["script"] (spF K F_law) := by
 have e := hfa.symm.trans (PySem.W.mg_of X G a9)
 cases e
 have H0 := fun_mk (st := s__law_source) l0 c0 k0
 have H1 := fun_mk (st := s_is_integer) l1 c1 k1
 have H2 := fun_mk (st := s_need_size) l2 c2 k2
 have H3 := fun_mk (st := s_need_numbers) l3 c3 k3
 have H4 := fun_mk (st := s_lots_heard) l4 c4 k4
 have H5 := fun_mk (st := s__law_draw) l5 c5 k5
 have H6 := fun_mk (st := s__law_width) l6 c6 k6
 have H7 := fun_mk (st := s__law_any) l7 c7 k7
 have H8 := fun_mk (st := s__law_due) l8 c8 k8
 have H9 := fun_mk (st := s_law) l9 c9 k9
 refine ⟨PySem.W.fnOf "law" "law" (defArgs s_law) (defBody s_law) (defScope s_law) .none kV9 dc9 pm9 an9 cd9 ct9, fun s v => .of_eq ((bd_law H9).1 [v] rfl), fun base _ _ => ?_⟩
 have y0 := PySem.W.mg_none_of X G z0
 have y1 := PySem.W.mg_none_of X G z1
 have y2 := PySem.W.mg_none_of X G z2
 have y3 := PySem.W.mg_none_of X G z3
 have y4 := PySem.W.mg_none_of X G z4
 have y5 := PySem.W.mg_none_of X G z5
 have y6 := PySem.W.mg_none_of X G z6
 have y7 := PySem.W.mg_none_of X G z7
 have y8 := PySem.W.mg_none_of X G z8
 have y9 := PySem.W.mg_none_of X G z9
 have y10 := PySem.W.mg_none_of X G z10
 have g0 : GlK K mg "MOST_SIZE" (.int 999999999999999999999999999999) := ⟨_, .int 999999999999999999999999999999, PySem.W.mg_of X G v0, ⟨_, rfl⟩, by simp only [RepD]⟩
 have g1 : GlK K mg "MOST_NUMBERS" (.int 200) := ⟨_, .int 200, PySem.W.mg_of X G v1, ⟨_, rfl⟩, by simp only [RepD]⟩
 have D0 := ctx__law_source (P := l.prog) (w := w) (K := K) (mg := mg) (base := base)  y0 y1 y2 
 have C0_ := cl__law_source H0 (PySem.W.mg_of X G a0) D0
 have D1 := ctx_is_integer (P := l.prog) (w := w) (K := K) (mg := mg) (base := base)  y3 y2 y4 
 have C1_ := cl_is_integer H1 (PySem.W.mg_of X G a1) D1
 have D2 := ctx_need_size (P := l.prog) (w := w) (K := K) (mg := mg) (base := base) C1_  g0
 have C2_ := cl_need_size H2 (PySem.W.mg_of X G a2) D2
 have D3 := ctx_need_numbers (P := l.prog) (w := w) (K := K) (mg := mg) (base := base) C1_ y3 y5 y6 y7 g1
 have C3_ := cl_need_numbers H3 (PySem.W.mg_of X G a3) D3
 have D4 := ctx_lots_heard (P := l.prog) (w := w) (K := K) (mg := mg) (base := base) C2_ C3_ y7 y6 
 have C4_ := cl_lots_heard H4 (PySem.W.mg_of X G a4) D4
 have D5 := ctx__law_draw (P := l.prog) (w := w) (K := K) (mg := mg) (base := base)  y2 
 have C5_ := cl__law_draw H5 (PySem.W.mg_of X G a5) D5
 have D6 := ctx__law_width (P := l.prog) (w := w) (K := K) (mg := mg) (base := base) C5_  
 have C6_ := cl__law_width H6 (PySem.W.mg_of X G a6) D6
 have D7 := ctx__law_any (P := l.prog) (w := w) (K := K) (mg := mg) (base := base) C5_ y8 
 have C7_ := cl__law_any H7 (PySem.W.mg_of X G a7) D7
 have D8 := ctx__law_due (P := l.prog) (w := w) (K := K) (mg := mg) (base := base)  y6 
 have C8_ := cl__law_due H8 (PySem.W.mg_of X G a8) D8
 have D9 := ctx_law (P := l.prog) (w := w) (K := K) (mg := mg) (base := base) C0_ C4_ C6_ C7_ C5_ C8_ y7 y1 y9 y6 y8 y2 y10 
 exact def_G H9 sc_law D9 rfl ck_law
end LW

end
section
set_option maxRecDepth 100000
set_option exponentiation.threshold 9000
set_option maxHeartbeats 4000000
namespace LW
open PySem PySem.Spec PyProof.Rows L2 Mv
def p__law_source (v_cell : Int) (v_k : Int) : Option (List Int) :=
 (mulG ((absI v_cell) % (((10 : Int) ^ 39) + 3)) 97).bind fun x1 =>
 (mulG 2 v_k).bind fun x2 =>
 some ([(mx2 0 ((absI v_cell) - ((10 : Int) ^ 18))), ((x1 + x2) + (if (decide (v_cell < 0)) = true then 1 else 0)), 0])
theorem m__law_source {v_cell : Int} {v_k : Int} {r : List Int} (h : p__law_source v_cell v_k = some r) : F__law_source.run [(T.fz (D.int v_cell)), (T.fz (D.int v_k))] = some ((T.fl (r.map D.int)), []) := by
 unfold p__law_source at h
 rw [R__law_source]
 refine run_g (ρ := [.ow (T.fz (D.int v_cell)), .ow (T.fz (D.int v_k)), .no]) rfl rfl ?_
 refine ks_cons ?_
 refine wp_set ?_
 refine w_blt ?_
 refine ws_cons ?_
 refine w_var (oQ_in rfl ?_)
 refine ws_nil ?_
 refine ⟨rfl, ?_⟩
 refine oQ_in rfl ?_
 refine wl_abs ?_
 refine set_in (ρ2 := [.ow (T.fz (D.int v_cell)), .ow (T.fz (D.int v_k)), .ow (T.fz (D.int (absI v_cell)))]) (.ow <| .ow <| .no <| .nil) rfl Free.no rfl ?_
 refine nxe (ρ2 := [.ow (T.fz (D.int v_cell)), .ow (T.fz (D.int v_k)), .ow (T.fz (D.int (absI v_cell)))]) rfl ?_
 refine ks_cons ?_
 refine wp_ret ?_
 refine w_list ?_
 refine ws_cons ?_
 refine w_blt ?_
 refine ws_cons ?_
 refine w_kst ?_
 refine ws_cons ?_
 refine w_bin ?_
 refine w_var (oQ_in rfl ?_)
 refine w_bin ?_
 refine w_kst ?_
 refine w_kst ?_
 refine ⟨rfl, oQ_in rfl (oQ_in rfl ?_)⟩
 refine wb_pow (n := 18) (by decide) (by decide) (by decide +kernel) rfl ?_
 refine ⟨rfl, oQ_in rfl (oQ_in rfl ?_)⟩
 refine wb_sub ?_
 refine ws_nil ?_
 refine ⟨rfl, rfl, ?_⟩
 refine oQ_in rfl ?_
 refine wl_max ?_
 refine ws_cons ?_
 refine w_bin ?_
 refine w_bin ?_
 refine w_bin ?_
 refine w_bin ?_
 refine w_blt ?_
 refine ws_cons ?_
 refine w_var (oQ_in rfl ?_)
 refine ws_nil ?_
 refine ⟨rfl, ?_⟩
 refine oQ_in rfl ?_
 refine wl_int ?_
 refine w_bin ?_
 refine w_bin ?_
 refine w_kst ?_
 refine w_kst ?_
 refine ⟨rfl, oQ_in rfl (oQ_in rfl ?_)⟩
 refine wb_pow (n := 39) (by decide) (by decide) (by decide +kernel) rfl ?_
 refine w_kst ?_
 refine ⟨rfl, oQ_in rfl (oQ_in rfl ?_)⟩
 refine wb_add ?_
 refine ⟨rfl, oQ_in rfl (oQ_in rfl ?_)⟩
 refine wb_mod (by decide +kernel) ?_
 refine w_kst ?_
 refine ⟨rfl, oQ_in rfl (oQ_in rfl ?_)⟩
 replace h := bnd h
 obtain ⟨x1, g2, h⟩ := h
 obtain ⟨k3, k4, rfl⟩ := mulG_some g2
 refine wb_mul k3 k4 ?_
 refine w_bin ?_
 refine w_kst ?_
 refine w_var (oQ_in rfl ?_)
 refine ⟨rfl, oQ_in rfl (oQ_in rfl ?_)⟩
 replace h := bnd h
 obtain ⟨x5, g6, h⟩ := h
 obtain ⟨k7, k8, rfl⟩ := mulG_some g6
 refine wb_mul k7 k8 ?_
 refine ⟨rfl, oQ_in rfl (oQ_in rfl ?_)⟩
 refine wb_add ?_
 refine w_blt ?_
 refine ws_cons ?_
 refine w_cmp ?_
 refine w_var (oQ_in rfl ?_)
 refine w_kst ?_
 refine ⟨rfl, oQ_in rfl (oQ_in rfl ?_)⟩
 refine wc_lt ?_
 refine ws_nil ?_
 refine ⟨rfl, ?_⟩
 refine oQ_in rfl ?_
 refine wl_intb ?_
 refine ⟨rfl, oQ_in rfl (oQ_in rfl ?_)⟩
 refine wb_add ?_
 refine ws_cons ?_
 refine w_kst ?_
 refine ws_nil ?_
 refine ⟨rfl, rfl, rfl, ?_⟩
 refine oQ_in rfl ?_
 refine oQ_in rfl ?_
 obtain rfl := Option.some.inj h
 refine seqK_rt ?_
 exact ret_in rfl rfl
def p__law_draw (v_source : List Int) (v_count : Int) : Option ((Int × List Int)) :=
 (ixG v_source 0).bind fun x1 =>
 if 0 < x1 then
  (
  (ixG v_source 0).bind fun x2 =>
  (modG x2 v_count).bind fun x3 =>
  (ixG v_source 0).bind fun x4 =>
  (divG x4 v_count).bind fun x5 =>
  (stoG v_source 0 x5).bind fun x6 =>
  some (x3, x6)
  )
 else
  (
  (ixG v_source 2).bind fun x7 =>
  (stoG v_source 2 (x7 + 1)).bind fun x8 =>
  (ixG x8 1).bind fun x9 =>
  (ixG x8 2).bind fun x10 =>
  (mulG 600011 x10).bind fun x11 =>
  (powG (x9 + x11) 3).bind fun x12 =>
  (ixG x8 2).bind fun x13 =>
  (mulG (x12 % (((10 : Int) ^ 36) + 67)) x13).bind fun x14 =>
  (powG (x14 + 77773) 3).bind fun x15 =>
  (modG ((x15 % (((10 : Int) ^ 38) + 133)) / 32749) v_count).bind fun x16 =>
  some (x16, x8)
  )
theorem m__law_draw {v_source : List Int} {v_count : Int} {r : (Int × List Int)} (h : p__law_draw v_source v_count = some r) : F__law_draw.run [(T.fl (v_source.map D.int)), (T.fz (D.int v_count))] = some ((T.fz (D.int r.1)), [(T.fl (r.2.map D.int))]) := by
 unfold p__law_draw at h
 rw [R__law_draw]
 refine run_g (ρ := [.io (T.fl (v_source.map D.int)), .ow (T.fz (D.int v_count)), .no, .no]) rfl rfl ?_
 refine ks_ite ?_
 refine wt_cmp ?_
 refine w_ix ?_
 refine w_var (oQ_in rfl ?_)
 refine w_kst ?_
 refine vT_in rfl ⟨rfl, oQ_in rfl ?_⟩
 replace h := bnd h
 obtain ⟨x1, g2, h⟩ := h
 refine wIx_2 rfl (ixVal_fl (e := D.int) (l := v_source) (x := x1) g2 rfl) ?_
 refine w_kst ?_
 refine ⟨rfl, oQ_in rfl (oQ_in rfl ?_)⟩
 by_cases c3 : 0 < x1
 ·replace h := ift c3 h
  refine wc_gt_t c3 ?_
  refine ⟨fun _ => ?_, fun z => absurd z (by decide)⟩
  refine ks_cons ?_
  refine wp_set ?_
  refine w_bin ?_
  refine w_blt ?_
  refine ws_cons ?_
  refine w_ix ?_
  refine w_var (oQ_in rfl ?_)
  refine w_kst ?_
  refine vT_in rfl ⟨rfl, oQ_in rfl ?_⟩
  replace h := bnd h
  obtain ⟨x4, g5, h⟩ := h
  refine wIx_2 rfl (ixVal_fl (e := D.int) (l := v_source) (x := x4) g5 rfl) ?_
  refine ws_nil ?_
  refine ⟨rfl, ?_⟩
  refine oQ_in rfl ?_
  refine wl_int ?_
  refine w_var (oQ_in rfl ?_)
  refine ⟨rfl, oQ_in rfl (oQ_in rfl ?_)⟩
  replace h := bnd h
  obtain ⟨x6, g7, h⟩ := h
  obtain ⟨k8, rfl⟩ := modG_some g7
  refine wb_mod k8 ?_
  refine set_in (ρ2 := [.io (T.fl (v_source.map D.int)), .ow (T.fz (D.int v_count)), .ow (T.fz (D.int (x4 % v_count))), .no]) (.io <| .ow <| .no <| .no <| .nil) rfl Free.no rfl ?_
  refine nxe (ρ2 := [.io (T.fl (v_source.map D.int)), .ow (T.fz (D.int v_count)), .ow (T.fz (D.int (x4 % v_count))), .no]) rfl ?_
  refine ks_cons ?_
  refine wp_sto ?_
  refine w_bin ?_
  refine w_ix ?_
  refine w_var (oQ_in rfl ?_)
  refine w_kst ?_
  refine vT_in rfl ⟨rfl, oQ_in rfl ?_⟩
  replace h := bnd h
  obtain ⟨x9, g10, h⟩ := h
  refine wIx_2 rfl (ixVal_fl (e := D.int) (l := v_source) (x := x9) g10 rfl) ?_
  refine w_var (oQ_in rfl ?_)
  refine ⟨rfl, oQ_in rfl (oQ_in rfl ?_)⟩
  replace h := bnd h
  obtain ⟨x11, g12, h⟩ := h
  obtain ⟨k13, k14, rfl⟩ := divG_some g12
  refine wb_div k13 k14 ?_
  refine oQ_in rfl ?_
  refine w_var (oQ_in rfl ?_)
  refine w_kst ?_
  refine vPt_in rfl (vT_in rfl ⟨rfl, oQ_in rfl ?_⟩)
  replace h := bnd h
  obtain ⟨x15, g16, h⟩ := h
  refine ⟨_, setIx_fl (e := D.int) (l := v_source) (x := (x9 / v_count)) g16, oQ_in (kix_set (.io <| .ow <| .ow <| .no <| .nil) rfl) ?_⟩
  refine nxe (ρ2 := [.io (T.fl (x15.map D.int)), .ow (T.fz (D.int v_count)), .ow (T.fz (D.int (x4 % v_count))), .no]) rfl ?_
  refine ks_cons ?_
  refine wp_ret ?_
  refine w_fzvK ?_
  refine w_var (oQ_in rfl ?_)
  refine fzk_fz (d := (D.int (x4 % v_count))) ?_
  refine oQ_in rfl ?_
  obtain rfl := Option.some.inj h
  refine seqK_rt ?_
  refine seqK_rt ?_
  exact ret_in rfl rfl
 ·replace h := iff_ c3 h
  refine wc_gt_f c3 ?_
  refine ⟨fun z => absurd z (by decide), fun _ => ?_⟩
  refine ks_nil ?_
  refine nxe (ρ2 := [.io (T.fl (v_source.map D.int)), .ow (T.fz (D.int v_count)), .no, .no]) rfl ?_
  refine ks_cons ?_
  refine wp_sto ?_
  refine w_bin ?_
  refine w_ix ?_
  refine w_var (oQ_in rfl ?_)
  refine w_kst ?_
  refine vT_in rfl ⟨rfl, oQ_in rfl ?_⟩
  replace h := bnd h
  obtain ⟨x17, g18, h⟩ := h
  refine wIx_2 rfl (ixVal_fl (e := D.int) (l := v_source) (x := x17) g18 rfl) ?_
  refine w_kst ?_
  refine ⟨rfl, oQ_in rfl (oQ_in rfl ?_)⟩
  refine wb_add ?_
  refine oQ_in rfl ?_
  refine w_var (oQ_in rfl ?_)
  refine w_kst ?_
  refine vPt_in rfl (vT_in rfl ⟨rfl, oQ_in rfl ?_⟩)
  replace h := bnd h
  obtain ⟨x19, g20, h⟩ := h
  refine ⟨_, setIx_fl (e := D.int) (l := v_source) (x := (x17 + 1)) g20, oQ_in (kix_set (.io <| .ow <| .no <| .no <| .nil) rfl) ?_⟩
  refine nxe (ρ2 := [.io (T.fl (x19.map D.int)), .ow (T.fz (D.int v_count)), .no, .no]) rfl ?_
  refine ks_cons ?_
  refine wp_set ?_
  refine w_bin ?_
  refine w_blt ?_
  refine ws_cons ?_
  refine w_bin ?_
  refine w_bin ?_
  refine w_ix ?_
  refine w_var (oQ_in rfl ?_)
  refine w_kst ?_
  refine vT_in rfl ⟨rfl, oQ_in rfl ?_⟩
  replace h := bnd h
  obtain ⟨x21, g22, h⟩ := h
  refine wIx_2 rfl (ixVal_fl (e := D.int) (l := x19) (x := x21) g22 rfl) ?_
  refine w_bin ?_
  refine w_kst ?_
  refine w_ix ?_
  refine w_var (oQ_in rfl ?_)
  refine w_kst ?_
  refine vT_in rfl ⟨rfl, oQ_in rfl ?_⟩
  replace h := bnd h
  obtain ⟨x23, g24, h⟩ := h
  refine wIx_2 rfl (ixVal_fl (e := D.int) (l := x19) (x := x23) g24 rfl) ?_
  refine ⟨rfl, oQ_in rfl (oQ_in rfl ?_)⟩
  replace h := bnd h
  obtain ⟨x25, g26, h⟩ := h
  obtain ⟨k27, k28, rfl⟩ := mulG_some g26
  refine wb_mul k27 k28 ?_
  refine ⟨rfl, oQ_in rfl (oQ_in rfl ?_)⟩
  refine wb_add ?_
  refine w_kst ?_
  refine ⟨rfl, oQ_in rfl (oQ_in rfl ?_)⟩
  replace h := bnd h
  obtain ⟨x29, g30, h⟩ := h
  obtain ⟨k31, rfl⟩ := powG_some g30
  refine wb_pow (n := 3) (by decide) (by decide) k31 rfl ?_
  refine ws_nil ?_
  refine ⟨rfl, ?_⟩
  refine oQ_in rfl ?_
  refine wl_int ?_
  refine w_bin ?_
  refine w_bin ?_
  refine w_kst ?_
  refine w_kst ?_
  refine ⟨rfl, oQ_in rfl (oQ_in rfl ?_)⟩
  refine wb_pow (n := 36) (by decide) (by decide) (by decide +kernel) rfl ?_
  refine w_kst ?_
  refine ⟨rfl, oQ_in rfl (oQ_in rfl ?_)⟩
  refine wb_add ?_
  refine ⟨rfl, oQ_in rfl (oQ_in rfl ?_)⟩
  refine wb_mod (by decide +kernel) ?_
  refine set_in (ρ2 := [.io (T.fl (x19.map D.int)), .ow (T.fz (D.int v_count)), .no, .ow (T.fz (D.int ((((x21 + (600011 * x23)) : Int) ^ 3) % (((10 : Int) ^ 36) + 67))))]) (.io <| .ow <| .no <| .no <| .nil) rfl Free.no rfl ?_
  refine nxe (ρ2 := [.io (T.fl (x19.map D.int)), .ow (T.fz (D.int v_count)), .no, .ow (T.fz (D.int ((((x21 + (600011 * x23)) : Int) ^ 3) % (((10 : Int) ^ 36) + 67))))]) rfl ?_
  refine ks_cons ?_
  refine wp_set ?_
  refine w_bin ?_
  refine w_blt ?_
  refine ws_cons ?_
  refine w_bin ?_
  refine w_bin ?_
  refine w_bin ?_
  refine w_var (oQ_in rfl ?_)
  refine w_ix ?_
  refine w_var (oQ_in rfl ?_)
  refine w_kst ?_
  refine vT_in rfl ⟨rfl, oQ_in rfl ?_⟩
  replace h := bnd h
  obtain ⟨x32, g33, h⟩ := h
  refine wIx_2 rfl (ixVal_fl (e := D.int) (l := x19) (x := x32) g33 rfl) ?_
  refine ⟨rfl, oQ_in rfl (oQ_in rfl ?_)⟩
  replace h := bnd h
  obtain ⟨x34, g35, h⟩ := h
  obtain ⟨k36, k37, rfl⟩ := mulG_some g35
  refine wb_mul k36 k37 ?_
  refine w_kst ?_
  refine ⟨rfl, oQ_in rfl (oQ_in rfl ?_)⟩
  refine wb_add ?_
  refine w_kst ?_
  refine ⟨rfl, oQ_in rfl (oQ_in rfl ?_)⟩
  replace h := bnd h
  obtain ⟨x38, g39, h⟩ := h
  obtain ⟨k40, rfl⟩ := powG_some g39
  refine wb_pow (n := 3) (by decide) (by decide) k40 rfl ?_
  refine ws_nil ?_
  refine ⟨rfl, ?_⟩
  refine oQ_in rfl ?_
  refine wl_int ?_
  refine w_bin ?_
  refine w_bin ?_
  refine w_kst ?_
  refine w_kst ?_
  refine ⟨rfl, oQ_in rfl (oQ_in rfl ?_)⟩
  refine wb_pow (n := 38) (by decide) (by decide) (by decide +kernel) rfl ?_
  refine w_kst ?_
  refine ⟨rfl, oQ_in rfl (oQ_in rfl ?_)⟩
  refine wb_add ?_
  refine ⟨rfl, oQ_in rfl (oQ_in rfl ?_)⟩
  refine wb_mod (by decide +kernel) ?_
  refine set_in (ρ2 := [.io (T.fl (x19.map D.int)), .ow (T.fz (D.int v_count)), .no, .ow (T.fz (D.int (((((((((x21 + (600011 * x23)) : Int) ^ 3) % (((10 : Int) ^ 36) + 67)) * x32) + 77773) : Int) ^ 3) % (((10 : Int) ^ 38) + 133))))]) (.io <| .ow <| .no <| .ow <| .nil) rfl Free.ow rfl ?_
  refine nxe (ρ2 := [.io (T.fl (x19.map D.int)), .ow (T.fz (D.int v_count)), .no, .ow (T.fz (D.int (((((((((x21 + (600011 * x23)) : Int) ^ 3) % (((10 : Int) ^ 36) + 67)) * x32) + 77773) : Int) ^ 3) % (((10 : Int) ^ 38) + 133))))]) rfl ?_
  refine ks_cons ?_
  refine wp_ret ?_
  refine w_bin ?_
  refine w_blt ?_
  refine ws_cons ?_
  refine w_bin ?_
  refine w_var (oQ_in rfl ?_)
  refine w_kst ?_
  refine ⟨rfl, oQ_in rfl (oQ_in rfl ?_)⟩
  refine wb_div (by decide +kernel) (by decide +kernel) ?_
  refine ws_nil ?_
  refine ⟨rfl, ?_⟩
  refine oQ_in rfl ?_
  refine wl_int ?_
  refine w_var (oQ_in rfl ?_)
  refine ⟨rfl, oQ_in rfl (oQ_in rfl ?_)⟩
  replace h := bnd h
  obtain ⟨x41, g42, h⟩ := h
  obtain ⟨k43, rfl⟩ := modG_some g42
  refine wb_mod k43 ?_
  refine oQ_in rfl ?_
  obtain rfl := Option.some.inj h
  refine seqK_rt ?_
  exact ret_in rfl rfl
def p__law_width (v_source : List Int) : Option ((Int × List Int)) :=
 (p__law_draw v_source 4).bind fun r1 =>
 (p__law_draw r1.2 4).bind fun r2 =>
 (p__law_draw r2.2 (((10 : Int) ^ 27) - 1)).bind fun r3 =>
 (ixG ([1, (1 + r2.1), 2, (1 + r3.1)]) r1.1).bind fun x4 =>
 some (x4, r3.2)
theorem m__law_width {v_source : List Int} {r : (Int × List Int)} (h : p__law_width v_source = some r) : F__law_width.run [(T.fl (v_source.map D.int))] = some ((T.fz (D.int r.1)), [(T.fl (r.2.map D.int))]) := by
 unfold p__law_width at h
 rw [R__law_width]
 refine run_g (ρ := [.io (T.fl (v_source.map D.int)), .no]) rfl rfl ?_
 refine ks_cons ?_
 refine wp_set ?_
 refine w_fzvK ?_
 refine w_call ?_
 refine ws_cons ?_
 refine w_var (oQ_in rfl ?_)
 refine ws_cons ?_
 refine w_kst ?_
 refine ws_nil ?_
 refine ⟨rfl, rfl, ?_⟩
 refine oQ_in rfl ?_
 replace h := bnd h
 obtain ⟨r1, g2, h⟩ := h
 have mg2 := m__law_draw g2
 refine call_g (ρ2 := [.io (T.fl (r1.2.map D.int)), .no]) (.io <| .no <| .nil) rfl (argT_io rfl (argT_fz argT_nil)) mg2 rfl rfl rfl ?_
 refine fzk_fz (d := (D.int r1.1)) ?_
 refine set_in (ρ2 := [.io (T.fl (r1.2.map D.int)), .ow (T.fz (D.int r1.1))]) (.io <| .no <| .nil) rfl Free.no rfl ?_
 refine nxe (ρ2 := [.io (T.fl (r1.2.map D.int)), .ow (T.fz (D.int r1.1))]) rfl ?_
 refine ks_cons ?_
 refine wp_ret ?_
 refine w_fzvK ?_
 refine w_ix ?_
 refine w_list ?_
 refine ws_cons ?_
 refine w_kst ?_
 refine ws_cons ?_
 refine w_bin ?_
 refine w_kst ?_
 refine w_call ?_
 refine ws_cons ?_
 refine w_var (oQ_in rfl ?_)
 refine ws_cons ?_
 refine w_kst ?_
 refine ws_nil ?_
 refine ⟨rfl, rfl, ?_⟩
 refine oQ_in rfl ?_
 replace h := bnd h
 obtain ⟨r3, g4, h⟩ := h
 have mg4 := m__law_draw g4
 refine call_g (ρ2 := [.io (T.fl (r3.2.map D.int)), .ow (T.fz (D.int r1.1))]) (.io <| .ow <| .nil) rfl (argT_io rfl (argT_fz argT_nil)) mg4 rfl rfl rfl ?_
 refine ⟨rfl, oQ_in rfl (oQ_in rfl ?_)⟩
 refine wb_add ?_
 refine ws_cons ?_
 refine w_kst ?_
 refine ws_cons ?_
 refine w_bin ?_
 refine w_kst ?_
 refine w_call ?_
 refine ws_cons ?_
 refine w_var (oQ_in rfl ?_)
 refine ws_cons ?_
 refine w_bin ?_
 refine w_bin ?_
 refine w_kst ?_
 refine w_kst ?_
 refine ⟨rfl, oQ_in rfl (oQ_in rfl ?_)⟩
 refine wb_pow (n := 27) (by decide) (by decide) (by decide +kernel) rfl ?_
 refine w_kst ?_
 refine ⟨rfl, oQ_in rfl (oQ_in rfl ?_)⟩
 refine wb_sub ?_
 refine ws_nil ?_
 refine ⟨rfl, rfl, ?_⟩
 refine oQ_in rfl ?_
 replace h := bnd h
 obtain ⟨r5, g6, h⟩ := h
 have mg6 := m__law_draw g6
 refine call_g (ρ2 := [.io (T.fl (r5.2.map D.int)), .ow (T.fz (D.int r1.1))]) (.io <| .ow <| .nil) rfl (argT_io rfl (argT_fz argT_nil)) mg6 rfl rfl rfl ?_
 refine ⟨rfl, oQ_in rfl (oQ_in rfl ?_)⟩
 refine wb_add ?_
 refine ws_nil ?_
 refine ⟨rfl, rfl, rfl, rfl, ?_⟩
 refine oQ_in rfl ?_
 refine w_var (oQ_in rfl ?_)
 refine vT_in rfl ⟨rfl, oQ_in rfl ?_⟩
 replace h := bnd h
 obtain ⟨x7, g8, h⟩ := h
 refine wIx_2 rfl (ixVal_flT (e := D.int) (l := [1, (1 + r3.1), 2, (1 + r5.1)]) (x := x7) g8) ?_
 refine fzk_fz (d := (D.int x7)) ?_
 refine oQ_in rfl ?_
 obtain rfl := Option.some.inj h
 refine seqK_rt ?_
 exact ret_in rfl rfl
def p__law_any (v_source : List Int) (v_width : Int) (v_many : Int) : Option ((List Int × List Int)) :=
 (p__law_draw v_source 4).bind fun r1 =>
 (ixG ([(2 : Int), 5, 30, 900]) r1.1).bind fun x2 =>
 (rngG 0 v_many).bind fun x3 =>
 (lcSG (fun (s_5 : List Int) (y4 : Int) =>
  (p__law_draw s_5 x2).bind fun r6 =>
  (mulG r6.1 v_width).bind fun x7 =>
  (p__law_draw r6.2 v_width).bind fun r8 =>
  some (some (x7 + r8.1), r8.2)
 ) x3 r1.2).bind fun r9 =>
 some (r9.1, r9.2)
theorem m__law_any {v_source : List Int} {v_width : Int} {v_many : Int} {r : (List Int × List Int)} (h : p__law_any v_source v_width v_many = some r) : F__law_any.run [(T.fl (v_source.map D.int)), (T.fz (D.int v_width)), (T.fz (D.int v_many))] = some ((T.fz (D.list (r.1.map D.int))), [(T.fl (r.2.map D.int))]) := by
 unfold p__law_any at h
 rw [R__law_any]
 refine run_g (ρ := [.io (T.fl (v_source.map D.int)), .ow (T.fz (D.int v_width)), .ow (T.fz (D.int v_many)), .no, .no]) rfl rfl ?_
 refine ks_cons ?_
 refine wp_set ?_
 refine w_fzvK ?_
 refine w_ix ?_
 refine w_list ?_
 refine ws_cons ?_
 refine w_kst ?_
 refine ws_cons ?_
 refine w_kst ?_
 refine ws_cons ?_
 refine w_kst ?_
 refine ws_cons ?_
 refine w_kst ?_
 refine ws_nil ?_
 refine ⟨rfl, rfl, rfl, rfl, ?_⟩
 refine oQ_in rfl ?_
 refine w_call ?_
 refine ws_cons ?_
 refine w_var (oQ_in rfl ?_)
 refine ws_cons ?_
 refine w_kst ?_
 refine ws_nil ?_
 refine ⟨rfl, rfl, ?_⟩
 refine oQ_in rfl ?_
 replace h := bnd h
 obtain ⟨r1, g2, h⟩ := h
 have mg2 := m__law_draw g2
 refine call_g (ρ2 := [.io (T.fl (r1.2.map D.int)), .ow (T.fz (D.int v_width)), .ow (T.fz (D.int v_many)), .no, .no]) (.io <| .ow <| .ow <| .no <| .no <| .nil) rfl (argT_io rfl (argT_fz argT_nil)) mg2 rfl rfl rfl ?_
 refine vT_in rfl ⟨rfl, oQ_in rfl ?_⟩
 replace h := bnd h
 obtain ⟨x3, g4, h⟩ := h
 refine wIx_2 rfl (ixVal_flT (e := D.int) (l := [(2 : Int), 5, 30, 900]) (x := x3) g4) ?_
 refine fzk_fz (d := (D.int x3)) ?_
 refine set_in (ρ2 := [.io (T.fl (r1.2.map D.int)), .ow (T.fz (D.int v_width)), .ow (T.fz (D.int v_many)), .ow (T.fz (D.int x3)), .no]) (.io <| .ow <| .ow <| .no <| .no <| .nil) rfl Free.no rfl ?_
 refine nxe (ρ2 := [.io (T.fl (r1.2.map D.int)), .ow (T.fz (D.int v_width)), .ow (T.fz (D.int v_many)), .ow (T.fz (D.int x3)), .no]) rfl ?_
 refine ks_cons ?_
 refine wp_ret ?_
 refine w_fzvK ?_
 refine w_lc ?_
 refine wi_rng1 ?_
 refine w_var (oQ_in rfl ?_)
 refine vInt_in rfl ?_
 replace h := bnd h
 obtain ⟨x5, g6, h⟩ := h
 obtain ⟨k7, k8, rfl⟩ := rngG_some g6
 refine ⟨k8, ?_⟩
 replace h := bnd h
 obtain ⟨r11, g12, h⟩ := h
 obtain ⟨g12, k13⟩ := lcSG_some g12
 refine ⟨rfl, loopC_cast (rangeD_map 0 v_many) ?_⟩
 refine lcS_sim (e := D.int) (e2 := D.int) (l := (rngI 0 v_many)) (r := r11) (fun (s_10 : List Int) ρ => ρ = [.io (T.fl (s_10.map D.int)), .ow (T.fz (D.int v_width)), .ow (T.fz (D.int v_many)), .ow (T.fz (D.int x3)), .no]) g12 (wipe_1 (.io <| .ow <| .ow <| .ow <| .no <| .nil) rfl) ?_ ?_
 ·rintro y9 s_10 o15 z16 _ _ h14 rfl
  refine bd_nm (ρ2 := [.io (T.fl (s_10.map D.int)), .ow (T.fz (D.int v_width)), .ow (T.fz (D.int v_many)), .ow (T.fz (D.int x3)), .ow (T.fz (D.int y9))]) (.io <| .ow <| .ow <| .ow <| .no <| .nil) rfl Free.no rfl ?_
  refine lcB_none ?_
  refine w_fzvK ?_
  refine w_bin ?_
  refine w_bin ?_
  refine w_call ?_
  refine ws_cons ?_
  refine w_var (oQ_in rfl ?_)
  refine ws_cons ?_
  refine w_fzvK ?_
  refine w_var (oQ_in rfl ?_)
  refine fzk_fz (d := (D.int x3)) ?_
  refine ws_nil ?_
  refine ⟨rfl, rfl, ?_⟩
  refine oQ_in rfl ?_
  replace h14 := bnd h14
  obtain ⟨r17, g18, h14⟩ := h14
  have mg18 := m__law_draw g18
  refine call_g (ρ2 := [.io (T.fl (r17.2.map D.int)), .ow (T.fz (D.int v_width)), .ow (T.fz (D.int v_many)), .ow (T.fz (D.int x3)), .ow (T.fz (D.int y9))]) (.io <| .ow <| .ow <| .ow <| .ow <| .nil) rfl (argT_io rfl (argT_fz argT_nil)) mg18 rfl rfl rfl ?_
  refine w_var (oQ_in rfl ?_)
  refine ⟨rfl, oQ_in rfl (oQ_in rfl ?_)⟩
  replace h14 := bnd h14
  obtain ⟨x19, g20, h14⟩ := h14
  obtain ⟨k21, k22, rfl⟩ := mulG_some g20
  refine wb_mul k21 k22 ?_
  refine w_call ?_
  refine ws_cons ?_
  refine w_var (oQ_in rfl ?_)
  refine ws_cons ?_
  refine w_fzvK ?_
  refine w_var (oQ_in rfl ?_)
  refine fzk_fz (d := (D.int v_width)) ?_
  refine ws_nil ?_
  refine ⟨rfl, rfl, ?_⟩
  refine oQ_in rfl ?_
  replace h14 := bnd h14
  obtain ⟨r23, g24, h14⟩ := h14
  have mg24 := m__law_draw g24
  refine call_g (ρ2 := [.io (T.fl (r23.2.map D.int)), .ow (T.fz (D.int v_width)), .ow (T.fz (D.int v_many)), .ow (T.fz (D.int x3)), .ow (T.fz (D.int y9))]) (.io <| .ow <| .ow <| .ow <| .ow <| .nil) rfl (argT_io rfl (argT_fz argT_nil)) mg24 rfl rfl rfl ?_
  refine ⟨rfl, oQ_in rfl (oQ_in rfl ?_)⟩
  refine wb_add ?_
  refine fzk_fz (d := (D.int ((r17.1 * v_width) + r23.1))) ?_
  obtain ⟨rfl, rfl⟩ := Prod.mk.inj (Option.some.inj h14)
  refine oQ_in rfl ⟨⟨((r17.1 * v_width) + r23.1), rfl, rfl⟩, (wipe_1 (.io <| .ow <| .ow <| .ow <| .ow <| .nil) rfl)⟩
 ·rintro _ rfl
  refine ⟨fzs_len k13, ?_⟩
  refine fzk_fl (ds := r11.1.map D.int) ?_
  refine oQ_in rfl ?_
  obtain rfl := Option.some.inj h
  refine seqK_rt ?_
  exact ret_in rfl rfl
def p__law_due (v_width : Int) (v_row : List Int) : Option (List Int) :=
 (forP (fun (s_1 : (List Int × List Int)) (y2 : Int) =>
  (divG y2 v_width).bind fun x5 =>
  (lcG (fun y6 : Int =>
   if y6 < x5 then
    (
    some (some y6)
    )
   else
    (
    some none
    )
  ) s_1.1).bind fun r7 =>
  (appG s_1.2 (r7.length : Int)).bind fun x8 =>
  (
   if ¬ x5 ∈ s_1.1 then
    (
    (appG s_1.1 x5).bind fun x9 =>
    some x9
    )
   else
    (
    some s_1.1
    )
  ).bind fun j10 =>
  some (j10, x8)
 ) v_row.reverse ([], [])).bind fun r11 =>
 some r11.2.reverse
theorem m__law_due {v_width : Int} {v_row : List Int} {r : List Int} (h : p__law_due v_width v_row = some r) : F__law_due.run [(T.fz (D.int v_width)), (T.fz (D.list (v_row.map D.int)))] = some ((T.fz (D.list (r.map D.int))), []) := by
 unfold p__law_due at h
 rw [R__law_due]
 refine run_g (ρ := [.ow (T.fz (D.int v_width)), .ow (T.fz (D.list (v_row.map D.int))), .no, .no, .no, .no, .no]) rfl rfl ?_
 refine ks_cons ?_
 refine wp_par ?_
 refine ws_cons ?_
 refine w_list ?_
 refine ws_nil ?_
 skip
 refine oQ_in rfl ?_
 refine ws_cons ?_
 refine w_list ?_
 refine ws_nil ?_
 skip
 refine oQ_in rfl ?_
 refine ws_nil ?_
 refine ⟨rfl, rfl, ?_⟩
 refine ⟨rfl, ?_⟩
 refine bvs_cons (ρ2 := [.ow (T.fz (D.int v_width)), .ow (T.fz (D.list (v_row.map D.int))), .ow (T.fl (([]).map D.int)), .no, .no, .no, .no]) (.ow <| .ow <| .no <| .no <| .no <| .no <| .no <| .nil) rfl Free.no rfl ?_
 refine bvs_cons (ρ2 := [.ow (T.fz (D.int v_width)), .ow (T.fz (D.list (v_row.map D.int))), .ow (T.fl (([]).map D.int)), .ow (T.fl (([]).map D.int)), .no, .no, .no]) (.ow <| .ow <| .ow <| .no <| .no <| .no <| .no <| .nil) rfl Free.no rfl ?_
 refine bvs_nil ?_
 refine nxe (ρ2 := [.ow (T.fz (D.int v_width)), .ow (T.fz (D.list (v_row.map D.int))), .ow (T.fl (([]).map D.int)), .ow (T.fl (([]).map D.int)), .no, .no, .no]) rfl ?_
 refine ks_cons ?_
 refine wp_for ?_
 refine wi_seq ?_
 refine w_rvK ?_
 refine w_var (oQ_in rfl ?_)
 refine rvk (e := D.int) (l := v_row) rfl rfl ?_
 refine oQ_in rfl (dSeq_1 (fl_toD (v_row.reverse.map D.int)) ?_)
 replace h := bnd h
 obtain ⟨r3, g4, h⟩ := h
 refine loop_cast rfl ?_
 refine for_sim (e := D.int) (fun (s_1 : (List Int × List Int)) ρ => ∃ (s5 : Slot) (s6 : Slot), ρ = [.ow (T.fz (D.int v_width)), .ow (T.fz (D.list (v_row.map D.int))), .ow (T.fl (s_1.1.map D.int)), .ow (T.fl (s_1.2.map D.int)), s5, s6, .no] ∧ Free s5 ∧ Free s6) g4 ⟨_, _, rfl, Free.no, Free.no⟩ ?_ ?_
 ·rintro y2 s_1 z8 _ _ h7 ⟨s5, s6, rfl, q5, q6⟩
  refine bd_nm (ρ2 := [.ow (T.fz (D.int v_width)), .ow (T.fz (D.list (v_row.map D.int))), .ow (T.fl (s_1.1.map D.int)), .ow (T.fl (s_1.2.map D.int)), .ow (T.fz (D.int y2)), s6, .no]) (.ow <| .ow <| .ow <| .ow <| .fr q5 <| .fr q6 <| .no <| .nil) rfl q5 rfl ?_
  refine ks_cons ?_
  refine wp_set ?_
  refine w_bin ?_
  refine w_var (oQ_in rfl ?_)
  refine w_var (oQ_in rfl ?_)
  refine ⟨rfl, oQ_in rfl (oQ_in rfl ?_)⟩
  replace h7 := bnd h7
  obtain ⟨x9, g10, h7⟩ := h7
  obtain ⟨k11, k12, rfl⟩ := divG_some g10
  refine wb_div k11 k12 ?_
  refine set_in (ρ2 := [.ow (T.fz (D.int v_width)), .ow (T.fz (D.list (v_row.map D.int))), .ow (T.fl (s_1.1.map D.int)), .ow (T.fl (s_1.2.map D.int)), .ow (T.fz (D.int y2)), .ow (T.fz (D.int (y2 / v_width))), .no]) (.ow <| .ow <| .ow <| .ow <| .ow <| .fr q6 <| .no <| .nil) rfl q6 rfl ?_
  refine nxe (ρ2 := [.ow (T.fz (D.int v_width)), .ow (T.fz (D.list (v_row.map D.int))), .ow (T.fl (s_1.1.map D.int)), .ow (T.fl (s_1.2.map D.int)), .ow (T.fz (D.int y2)), .ow (T.fz (D.int (y2 / v_width))), .no]) rfl ?_
  refine ks_cons ?_
  refine wp_app ?_
  refine w_var (oQ_in rfl ?_)
  refine vPt_in rfl ⟨⟨_, rfl⟩, ?_⟩
  refine w_blt ?_
  refine ws_cons ?_
  refine w_lc ?_
  refine wi_brw ?_
  refine w_var (oQ_in rfl ?_)
  refine oQ_in rfl ⟨_, flat_fl (s_1.1.map D.int), ?_⟩
  replace h7 := bnd h7
  obtain ⟨r14, g15, h7⟩ := h7
  obtain ⟨g15, k16⟩ := lcG_some g15
  refine ⟨rfl, loopC_cast rfl ?_⟩
  refine lc_sim (e := D.int) (e2 := D.int) (l := s_1.1) (r := r14) (fun ρ => ρ = [.ow (T.fz (D.int v_width)), .ow (T.fz (D.list (v_row.map D.int))), .ow (T.fl (s_1.1.map D.int)), .ow (T.fl (s_1.2.map D.int)), .ow (T.fz (D.int y2)), .ow (T.fz (D.int (y2 / v_width))), .no]) g15 (wipe_1 (.ow <| .ow <| .ow <| .ow <| .ow <| .ow <| .no <| .nil) rfl) ?_ ?_
  ·rintro y13 o18 _ _ h17 rfl
   refine bd_nm (ρ2 := [.ow (T.fz (D.int v_width)), .ow (T.fz (D.list (v_row.map D.int))), .ow (T.fl (s_1.1.map D.int)), .ow (T.fl (s_1.2.map D.int)), .ow (T.fz (D.int y2)), .ow (T.fz (D.int (y2 / v_width))), .ow (T.fz (D.int y13))]) (.ow <| .ow <| .ow <| .ow <| .ow <| .ow <| .no <| .nil) rfl Free.no rfl ?_
   refine lcB_some ?_
   refine wt_cmp ?_
   refine w_var (oQ_in rfl ?_)
   refine w_var (oQ_in rfl ?_)
   refine ⟨rfl, oQ_in rfl (oQ_in rfl ?_)⟩
   by_cases c20 : y13 < (y2 / v_width)
   ·replace h17 := ift c20 h17
    refine wc_lt_t c20 ?_
    refine ⟨fun _ => ?_, fun z => absurd z (by decide)⟩
    refine w_fzvK ?_
    refine w_var (oQ_in rfl ?_)
    refine fzk_fz (d := (D.int y13)) ?_
    refine oQ_in rfl ⟨⟨y13, (Option.some.inj h17).symm, rfl⟩, (wipe_1 (.ow <| .ow <| .ow <| .ow <| .ow <| .ow <| .ow <| .nil) rfl)⟩
   ·replace h17 := iff_ c20 h17
    refine wc_lt_f c20 ?_
    exact ⟨fun z => absurd z (by decide), fun _ => ⟨(Option.some.inj h17).symm, (wipe_1 (.ow <| .ow <| .ow <| .ow <| .ow <| .ow <| .ow <| .nil) rfl)⟩⟩
  ·rintro _ rfl
   refine ⟨fzs_len k16, ?_⟩
   refine ws_nil ?_
   refine ⟨rfl, ?_⟩
   refine oQ_in rfl ?_
   refine len_fl (e := D.int) (l := r14) ?_
   replace h7 := bnd h7
   obtain ⟨x21, g22, h7⟩ := h7
   obtain ⟨k23, rfl⟩ := appG_some g22
   refine oQ_in rfl ⟨rfl, oQ_in rfl ⟨_, appT_fl (e := D.int) (l := s_1.2) (x := (r14.length : Int)) k23, oQ_in rfl ?_⟩⟩
   refine nxe (ρ2 := [.ow (T.fz (D.int v_width)), .ow (T.fz (D.list (v_row.map D.int))), .ow (T.fl (s_1.1.map D.int)), .ow (T.fl ((s_1.2 ++ [(r14.length : Int)]).map D.int)), .ow (T.fz (D.int y2)), .ow (T.fz (D.int (y2 / v_width))), .no]) rfl ?_
   replace h7 := bnd h7
   obtain ⟨j24, e25, h7⟩ := h7
   refine ks_iteC (P := fun o => o = .nx [.ow (T.fz (D.int v_width)), .ow (T.fz (D.list (v_row.map D.int))), .ow (T.fl (j24.map D.int)), .ow (T.fl ((s_1.2 ++ [(r14.length : Int)]).map D.int)), .ow (T.fz (D.int y2)), .ow (T.fz (D.int (y2 / v_width))), .no]) ?_ ?_
   ·skip
    refine wt_cmp ?_
    refine w_var (oQ_in rfl ?_)
    refine w_var (oQ_in rfl ?_)
    refine ⟨rfl, oQ_in rfl (oQ_in rfl ?_)⟩
    by_cases c26 : ¬ (y2 / v_width) ∈ s_1.1
    ·replace e25 := ift c26 e25
     refine wCmp_pNI_t (cmp_inFl) c26 ?_
     refine ⟨fun _ => ?_, fun z => absurd z (by decide)⟩
     refine ks_cons ?_
     refine wp_app ?_
     refine w_var (oQ_in rfl ?_)
     refine vPt_in rfl ⟨⟨_, rfl⟩, ?_⟩
     refine w_fzvK ?_
     refine w_var (oQ_in rfl ?_)
     refine fzk_fz (d := (D.int (y2 / v_width))) ?_
     replace e25 := bnd e25
     obtain ⟨x27, g28, e25⟩ := e25
     obtain ⟨k29, rfl⟩ := appG_some g28
     refine oQ_in rfl ⟨rfl, oQ_in rfl ⟨_, appT_fl (e := D.int) (l := s_1.1) (x := (y2 / v_width)) k29, oQ_in rfl ?_⟩⟩
     refine nxe (ρ2 := [.ow (T.fz (D.int v_width)), .ow (T.fz (D.list (v_row.map D.int))), .ow (T.fl ((s_1.1 ++ [(y2 / v_width)]).map D.int)), .ow (T.fl ((s_1.2 ++ [(r14.length : Int)]).map D.int)), .ow (T.fz (D.int y2)), .ow (T.fz (D.int (y2 / v_width))), .no]) rfl ?_
     refine ks_nil ?_
     obtain rfl := Option.some.inj e25
     exact rfl
    ·replace e25 := iff_ c26 e25
     refine wCmp_pNI_f (cmp_inFl) c26 ?_
     refine ⟨fun z => absurd z (by decide), fun _ => ?_⟩
     refine ks_nil ?_
     obtain rfl := Option.some.inj e25
     exact rfl
   ·rintro _ rfl
    refine nxe (ρ2 := [.ow (T.fz (D.int v_width)), .ow (T.fz (D.list (v_row.map D.int))), .ow (T.fl (j24.map D.int)), .ow (T.fl ((s_1.2 ++ [(r14.length : Int)]).map D.int)), .ow (T.fz (D.int y2)), .ow (T.fz (D.int (y2 / v_width))), .no]) rfl ?_
    refine ks_nil ?_
    obtain rfl := Option.some.inj h7
    exact lpN_nx ⟨_, _, rfl, Free.ow, Free.ow⟩
 ·rintro _ ⟨s5, s6, rfl, q5, q6⟩
  refine nxe (ρ2 := [.ow (T.fz (D.int v_width)), .ow (T.fz (D.list (v_row.map D.int))), .ow (T.fl (r3.1.map D.int)), .ow (T.fl (r3.2.map D.int)), s5, s6, .no]) rfl ?_
  refine ks_cons ?_
  refine wp_ret ?_
  refine w_fzvK ?_
  refine w_rvK ?_
  refine w_var (oQ_in rfl ?_)
  refine rvk (e := D.int) (l := r3.2) rfl (flat_fl (r3.2.map D.int)) ?_
  refine fzk_fl (ds := r3.2.reverse.map D.int) ?_
  refine oQ_in rfl ?_
  obtain rfl := Option.some.inj h
  refine seqK_rt ?_
  exact ret_in rfl rfl
def p_is_integer (v_value : Int) (v_least : Int) (v_most : Int) : Option (Bool) :=
 (
  if v_least ≤ v_value then
   (
   (
    some ((decide (v_value ≤ v_most)))
   ).bind fun x1 =>
   some x1
   )
  else
   (
   some false
   )
 ).bind fun x2 =>
 some x2
theorem m_is_integer {v_value : Int} {v_least : Int} {v_most : Int} {r : Bool} (h : p_is_integer v_value v_least v_most = some r) : F_is_integer.run [(T.fz (D.int v_value)), (T.fz (D.int v_least)), (T.fz (D.int v_most))] = some ((T.fz (D.bool r)), []) := by
 unfold p_is_integer at h
 rw [R_is_integer]
 refine run_g (ρ := [.ow (T.fz (D.int v_value)), .ow (T.fz (D.int v_least)), .ow (T.fz (D.int v_most))]) rfl rfl ?_
 refine ks_ite ?_
 refine wt_bool ?_
 refine wb_cons ?_
 refine wt_not ?_
 refine wt_val ?_
 refine w_blt ?_
 refine ws_cons ?_
 refine w_var (oQ_in rfl ?_)
 refine ws_nil ?_
 refine ⟨rfl, ?_⟩
 refine oQ_in rfl ?_
 refine wl_any (t := T.fz (D.bool true)) rfl ?_
 refine oQ_in rfl ?_
 refine oQ_in rfl ?_
 refine ⟨fun _ => ?_, fun z => absurd z (by decide)⟩
 refine wb_one ?_
 refine wt_val ?_
 refine w_blt ?_
 refine ws_cons ?_
 refine w_var (oQ_in rfl ?_)
 refine ws_nil ?_
 refine ⟨rfl, ?_⟩
 refine oQ_in rfl ?_
 refine wl_any (t := T.fz (D.bool false)) rfl ?_
 refine oQ_in rfl ?_
 refine oQ_in rfl ?_
 refine ⟨fun z => absurd z (by decide), fun _ => ?_⟩
 refine ks_nil ?_
 refine nxe (ρ2 := [.ow (T.fz (D.int v_value)), .ow (T.fz (D.int v_least)), .ow (T.fz (D.int v_most))]) rfl ?_
 refine ks_cons ?_
 refine wp_ret ?_
 refine w_boolop ?_
 refine w_cmp ?_
 refine w_var (oQ_in rfl ?_)
 refine w_var (oQ_in rfl ?_)
 refine ⟨rfl, oQ_in rfl (oQ_in rfl ?_)⟩
 refine wc_ge ?_
 refine vBool_in rfl ?_
 replace h := bnd h
 obtain ⟨x1, e2, h⟩ := h
 by_cases c3 : v_least ≤ v_value
 ·replace e2 := ift c3 e2
  refine ⟨fun _ => ?_, fun z => absurd z (by first | (simp [c3]; done) | exact fun z => c3 (of_decide_eq_true z) | exact fun z => absurd ((decide_eq_true c3).symm.trans z) (by decide))⟩
  refine w_boolop ?_
  refine w_cmp ?_
  refine w_var (oQ_in rfl ?_)
  refine w_kst ?_
  refine ⟨rfl, oQ_in rfl (oQ_in rfl ?_)⟩
  refine wc_is (b := false) rfl ?_
  refine vBool_in rfl ?_
  replace e2 := bnd e2
  obtain ⟨x4, e5, e2⟩ := e2
  refine ⟨fun _ => ?_, fun z => absurd z (by first | (simp []; done) | exact fun z =>  (of_decide_eq_true z) | exact fun z => absurd ((decide_eq_true ).symm.trans z) (by decide))⟩
  refine w_cmp ?_
  refine w_var (oQ_in rfl ?_)
  refine w_var (oQ_in rfl ?_)
  refine ⟨rfl, oQ_in rfl (oQ_in rfl ?_)⟩
  refine wc_le ?_
  obtain rfl := Option.some.inj e5
  obtain rfl := Option.some.inj e2
  refine oQ_in rfl ?_
  obtain rfl := Option.some.inj h
  refine seqK_rt ?_
  exact ret_in rfl rfl
 ·replace e2 := iff_ c3 e2
  refine ⟨fun z => absurd z (by first | (simp [c3]; done) | exact fun z => c3 (of_decide_eq_true z)), fun _ => ?_⟩
  obtain rfl := Option.some.inj e2
  refine oQ_in rfl ?_
  obtain rfl := Option.some.inj h
  refine seqK_rt ?_
  exact ret_in rfl rfl
def p_need_size (v_value : Int) : Option (Unit) :=
 (p_is_integer v_value 1 999999999999999999999999999999).bind fun r1 =>
 if r1 = true then
  (
  some ()
  )
 else
  (
  none
  )
theorem m_need_size {v_value : Int} {r : Unit} (h : p_need_size v_value = some r) : F_need_size.run [(T.fz (D.int v_value))] = some ((T.fz D.none), []) := by
 unfold p_need_size at h
 rw [R_need_size]
 refine run_g (ρ := [.ow (T.fz (D.int v_value))]) rfl rfl ?_
 refine ks_ite ?_
 refine wt_not ?_
 refine wt_val ?_
 refine w_call ?_
 refine ws_cons ?_
 refine w_fzvK ?_
 refine w_var (oQ_in rfl ?_)
 refine fzk_fz (d := (D.int v_value)) ?_
 refine ws_cons ?_
 refine w_kst ?_
 refine ws_cons ?_
 refine w_gl (oQ_in rfl ?_)
 refine ws_nil ?_
 refine ⟨rfl, rfl, rfl, ?_⟩
 refine oQ_in rfl ?_
 replace h := bnd h
 obtain ⟨r1, g2, h⟩ := h
 have mg2 := m_is_integer g2
 refine call_g (ρ2 := [.ow (T.fz (D.int v_value))]) (.ow <| .nil) rfl (argT_fz (argT_fz (argT_fz argT_nil))) mg2 rfl rfl rfl ?_
 refine oQ_in rfl ?_
 by_cases c3 : r1 = true
 ·replace h := ift c3 h
  refine tru_t rfl c3 ?_
  refine ⟨fun z => absurd z (by decide), fun _ => ?_⟩
  refine ks_nil ?_
  refine nxe (ρ2 := [.ow (T.fz (D.int v_value))]) rfl ?_
  refine ks_nil ?_
  obtain rfl := Option.some.inj h
  exact end_in rfl rfl
 ·replace h := iff_ c3 h
  refine tru_f rfl c3 ?_
  refine ⟨fun _ => ?_, fun z => absurd z (by decide)⟩
  refine ks_cons ?_
  cases h
def p_is_integer_1 (v_value : Int) (v_least : Int) (v_most : Unit) : Option (Bool) :=
 (
  if v_least ≤ v_value then
   (
   (
    some true
   ).bind fun x1 =>
   some x1
   )
  else
   (
   some false
   )
 ).bind fun x2 =>
 some x2
theorem m_is_integer_1 {v_value : Int} {v_least : Int} {v_most : Unit} {r : Bool} (h : p_is_integer_1 v_value v_least v_most = some r) : F_is_integer.run [(T.fz (D.int v_value)), (T.fz (D.int v_least)), (T.fz D.none)] = some ((T.fz (D.bool r)), []) := by
 unfold p_is_integer_1 at h
 rw [R_is_integer]
 refine run_g (ρ := [.ow (T.fz (D.int v_value)), .ow (T.fz (D.int v_least)), .ow (T.fz D.none)]) rfl rfl ?_
 refine ks_ite ?_
 refine wt_bool ?_
 refine wb_cons ?_
 refine wt_not ?_
 refine wt_val ?_
 refine w_blt ?_
 refine ws_cons ?_
 refine w_var (oQ_in rfl ?_)
 refine ws_nil ?_
 refine ⟨rfl, ?_⟩
 refine oQ_in rfl ?_
 refine wl_any (t := T.fz (D.bool true)) rfl ?_
 refine oQ_in rfl ?_
 refine oQ_in rfl ?_
 refine ⟨fun _ => ?_, fun z => absurd z (by decide)⟩
 refine wb_one ?_
 refine wt_val ?_
 refine w_blt ?_
 refine ws_cons ?_
 refine w_var (oQ_in rfl ?_)
 refine ws_nil ?_
 refine ⟨rfl, ?_⟩
 refine oQ_in rfl ?_
 refine wl_any (t := T.fz (D.bool false)) rfl ?_
 refine oQ_in rfl ?_
 refine oQ_in rfl ?_
 refine ⟨fun z => absurd z (by decide), fun _ => ?_⟩
 refine ks_nil ?_
 refine nxe (ρ2 := [.ow (T.fz (D.int v_value)), .ow (T.fz (D.int v_least)), .ow (T.fz D.none)]) rfl ?_
 refine ks_cons ?_
 refine wp_ret ?_
 refine w_boolop ?_
 refine w_cmp ?_
 refine w_var (oQ_in rfl ?_)
 refine w_var (oQ_in rfl ?_)
 refine ⟨rfl, oQ_in rfl (oQ_in rfl ?_)⟩
 refine wc_ge ?_
 refine vBool_in rfl ?_
 replace h := bnd h
 obtain ⟨x1, e2, h⟩ := h
 by_cases c3 : v_least ≤ v_value
 ·replace e2 := ift c3 e2
  refine ⟨fun _ => ?_, fun z => absurd z (by first | (simp [c3]; done) | exact fun z => c3 (of_decide_eq_true z) | exact fun z => absurd ((decide_eq_true c3).symm.trans z) (by decide))⟩
  refine w_boolop ?_
  refine w_cmp ?_
  refine w_var (oQ_in rfl ?_)
  refine w_kst ?_
  refine ⟨rfl, oQ_in rfl (oQ_in rfl ?_)⟩
  refine wc_is (b := true) rfl ?_
  refine vBool_in rfl ?_
  replace e2 := bnd e2
  obtain ⟨x4, e5, e2⟩ := e2
  refine ⟨fun z => absurd z (by first | (simp []; done) | exact fun z =>  (of_decide_eq_true z)), fun _ => ?_⟩
  obtain rfl := Option.some.inj e5
  obtain rfl := Option.some.inj e2
  refine oQ_in rfl ?_
  obtain rfl := Option.some.inj h
  refine seqK_rt ?_
  exact ret_in rfl rfl
 ·replace e2 := iff_ c3 e2
  refine ⟨fun z => absurd z (by first | (simp [c3]; done) | exact fun z => c3 (of_decide_eq_true z)), fun _ => ?_⟩
  obtain rfl := Option.some.inj e2
  refine oQ_in rfl ?_
  obtain rfl := Option.some.inj h
  refine seqK_rt ?_
  exact ret_in rfl rfl
def p_need_numbers (v_value : List Int) : Option (Unit) :=
 if 200 < (v_value.length : Int) then
  (
  none
  )
 else
  (
  (forP (fun (s_1 : Unit) (y2 : (Int × Int)) =>
   (p_is_integer_1 y2.2 0 ()).bind fun r5 =>
   if r5 = true then
    (
    some ()
    )
   else
    (
    none
    )
  ) (enumI 0 v_value) ()).bind fun r6 =>
  some ()
  )
theorem m_need_numbers {v_value : List Int} {r : Unit} (h : p_need_numbers v_value = some r) : F_need_numbers.run [(T.fz (D.list (v_value.map D.int)))] = some ((T.fz D.none), []) := by
 unfold p_need_numbers at h
 rw [R_need_numbers]
 refine run_g (ρ := [.ow (T.fz (D.list (v_value.map D.int))), .no, .no]) rfl rfl ?_
 refine ks_ite ?_
 refine wt_bool ?_
 refine wb_cons ?_
 refine wt_not ?_
 refine wt_val ?_
 refine w_blt ?_
 refine ws_cons ?_
 refine w_var (oQ_in rfl ?_)
 refine ws_nil ?_
 refine ⟨rfl, ?_⟩
 refine oQ_in rfl ?_
 refine wl_any (t := T.fz (D.bool true)) rfl ?_
 refine oQ_in rfl ?_
 refine oQ_in rfl ?_
 refine ⟨fun _ => ?_, fun z => absurd z (by decide)⟩
 refine wb_one ?_
 refine wt_cmp ?_
 refine w_blt ?_
 refine ws_cons ?_
 refine w_var (oQ_in rfl ?_)
 refine ws_nil ?_
 refine ⟨rfl, ?_⟩
 refine oQ_in rfl ?_
 refine len_list (e := D.int) (l := v_value) ?_
 refine w_gl (oQ_in rfl ?_)
 refine ⟨rfl, oQ_in rfl (oQ_in rfl ?_)⟩
 by_cases c1 : 200 < (v_value.length : Int)
 ·replace h := ift c1 h
  refine wc_gt_t c1 ?_
  refine ⟨fun _ => ?_, fun z => absurd z (by decide)⟩
  refine ks_cons ?_
  cases h
 ·replace h := iff_ c1 h
  refine wc_gt_f c1 ?_
  refine ⟨fun z => absurd z (by decide), fun _ => ?_⟩
  refine ks_nil ?_
  refine nxe (ρ2 := [.ow (T.fz (D.list (v_value.map D.int))), .no, .no]) rfl ?_
  refine ks_cons ?_
  refine wp_for ?_
  refine wi_enum ?_
  refine w_var (oQ_in rfl ?_)
  refine oQ_in rfl (dList_1 rfl ?_)
  replace h := bnd h
  obtain ⟨r4, g5, h⟩ := h
  refine loop_cast (enumD_map (e := D.int) v_value 0) ?_
  refine for_sim (e := (fun p => D.ltp [D.int p.1, (D.int p.2)])) (fun (s_2 : Unit) ρ => ∃ (s6 : Slot) (s7 : Slot), ρ = [.ow (T.fz (D.list (v_value.map D.int))), s6, s7] ∧ Free s6 ∧ Free s7) g5 ⟨_, _, rfl, Free.no, Free.no⟩ ?_ ?_
  ·rintro y3 s_2 z9 _ _ h8 ⟨s6, s7, rfl, q6, q7⟩
   refine bd_ltp rfl ?_
   refine bd_go_cons (ρ2 := [.ow (T.fz (D.list (v_value.map D.int))), .ow (T.fz (D.int y3.1)), s7]) (.ow <| .fr q6 <| .fr q7 <| .nil) rfl q6 rfl ?_
   refine bd_go_cons (ρ2 := [.ow (T.fz (D.list (v_value.map D.int))), .ow (T.fz (D.int y3.1)), .ow (T.fz (D.int y3.2))]) (.ow <| .ow <| .fr q7 <| .nil) rfl q7 rfl ?_
   refine bd_go_nil ?_
   refine ks_ite ?_
   refine wt_not ?_
   refine wt_val ?_
   refine w_call ?_
   refine ws_cons ?_
   refine w_fzvK ?_
   refine w_var (oQ_in rfl ?_)
   refine fzk_fz (d := (D.int y3.2)) ?_
   refine ws_cons ?_
   refine w_kst ?_
   refine ws_cons ?_
   refine w_kst ?_
   refine ws_nil ?_
   refine ⟨rfl, rfl, rfl, ?_⟩
   refine oQ_in rfl ?_
   replace h8 := bnd h8
   obtain ⟨r10, g11, h8⟩ := h8
   have mg11 := m_is_integer_1 g11
   refine call_g (ρ2 := [.ow (T.fz (D.list (v_value.map D.int))), .ow (T.fz (D.int y3.1)), .ow (T.fz (D.int y3.2))]) (.ow <| .ow <| .ow <| .nil) rfl (argT_fz (argT_fz (argT_fz argT_nil))) mg11 rfl rfl rfl ?_
   refine oQ_in rfl ?_
   by_cases c12 : r10 = true
   ·replace h8 := ift c12 h8
    refine tru_t rfl c12 ?_
    refine ⟨fun z => absurd z (by decide), fun _ => ?_⟩
    refine ks_nil ?_
    refine nxe (ρ2 := [.ow (T.fz (D.list (v_value.map D.int))), .ow (T.fz (D.int y3.1)), .ow (T.fz (D.int y3.2))]) rfl ?_
    refine ks_nil ?_
    obtain rfl := Option.some.inj h8
    exact lpN_nx ⟨_, _, rfl, Free.ow, Free.ow⟩
   ·replace h8 := iff_ c12 h8
    refine tru_f rfl c12 ?_
    refine ⟨fun _ => ?_, fun z => absurd z (by decide)⟩
    refine ks_cons ?_
    cases h8
  ·rintro _ ⟨s6, s7, rfl, q6, q7⟩
   refine nxe (ρ2 := [.ow (T.fz (D.list (v_value.map D.int))), s6, s7]) rfl ?_
   refine ks_nil ?_
   obtain rfl := Option.some.inj h
   exact end_in rfl rfl
def p_lots_heard (v_size : Int) (v_numbers : List Int) : Option (List Int) :=
 (p_need_size v_size).bind fun r1 =>
 (p_need_numbers v_numbers).bind fun r2 =>
 (lcG (fun y3 : Int =>
  (divG y3 v_size).bind fun x4 =>
  some (some x4)
 ) v_numbers).bind fun r5 =>
 (lcG (fun y6 : (Int × Int) =>
  (sliG r5 (some (y6.1 + 1)) none).bind fun x7 =>
  (lcG (fun y8 : Int =>
   if y8 < y6.2 then
    (
    some (some y8)
    )
   else
    (
    some none
    )
  ) x7).bind fun r9 =>
  (lsetG r9).bind fun x10 =>
  some (some x10)
 ) (enumI 0 r5)).bind fun r11 =>
 some r11
theorem m_lots_heard {v_size : Int} {v_numbers : List Int} {r : List Int} (h : p_lots_heard v_size v_numbers = some r) : F_lots_heard.run [(T.fz (D.int v_size)), (T.fz (D.list (v_numbers.map D.int)))] = some ((T.fl (r.map D.int)), []) := by
 unfold p_lots_heard at h
 rw [R_lots_heard]
 refine run_g (ρ := [.ow (T.fz (D.int v_size)), .ow (T.fz (D.list (v_numbers.map D.int))), .no, .no, .no, .no, .no]) rfl rfl ?_
 refine ks_cons ?_
 refine wp_exp ?_
 refine w_call ?_
 refine ws_cons ?_
 refine w_fzvK ?_
 refine w_var (oQ_in rfl ?_)
 refine fzk_fz (d := (D.int v_size)) ?_
 refine ws_nil ?_
 refine ⟨rfl, ?_⟩
 refine oQ_in rfl ?_
 replace h := bnd h
 obtain ⟨r1, g2, h⟩ := h
 have mg2 := m_need_size g2
 refine call_g (ρ2 := [.ow (T.fz (D.int v_size)), .ow (T.fz (D.list (v_numbers.map D.int))), .no, .no, .no, .no, .no]) (.ow <| .ow <| .no <| .no <| .no <| .no <| .no <| .nil) rfl (argT_fz argT_nil) mg2 rfl rfl rfl ?_
 refine nxe (ρ2 := [.ow (T.fz (D.int v_size)), .ow (T.fz (D.list (v_numbers.map D.int))), .no, .no, .no, .no, .no]) rfl ?_
 refine ks_cons ?_
 refine wp_exp ?_
 refine w_call ?_
 refine ws_cons ?_
 refine w_fzvK ?_
 refine w_var (oQ_in rfl ?_)
 refine fzk_fz (d := (D.list (v_numbers.map D.int))) ?_
 refine ws_nil ?_
 refine ⟨rfl, ?_⟩
 refine oQ_in rfl ?_
 replace h := bnd h
 obtain ⟨r3, g4, h⟩ := h
 have mg4 := m_need_numbers g4
 refine call_g (ρ2 := [.ow (T.fz (D.int v_size)), .ow (T.fz (D.list (v_numbers.map D.int))), .no, .no, .no, .no, .no]) (.ow <| .ow <| .no <| .no <| .no <| .no <| .no <| .nil) rfl (argT_fz argT_nil) mg4 rfl rfl rfl ?_
 refine nxe (ρ2 := [.ow (T.fz (D.int v_size)), .ow (T.fz (D.list (v_numbers.map D.int))), .no, .no, .no, .no, .no]) rfl ?_
 refine ks_cons ?_
 refine wp_set ?_
 refine w_lc ?_
 refine wi_seq ?_
 refine w_var (oQ_in rfl ?_)
 refine oQ_in rfl (dSeq_1 rfl ?_)
 replace h := bnd h
 obtain ⟨r6, g7, h⟩ := h
 obtain ⟨g7, k8⟩ := lcG_some g7
 refine ⟨rfl, loopC_cast rfl ?_⟩
 refine lc_sim (e := D.int) (e2 := D.int) (l := v_numbers) (r := r6) (fun ρ => ρ = [.ow (T.fz (D.int v_size)), .ow (T.fz (D.list (v_numbers.map D.int))), .no, .no, .no, .no, .no]) g7 (wipe_1 (.ow <| .ow <| .no <| .no <| .no <| .no <| .no <| .nil) rfl) ?_ ?_
 ·rintro y5 o10 _ _ h9 rfl
  refine bd_nm (ρ2 := [.ow (T.fz (D.int v_size)), .ow (T.fz (D.list (v_numbers.map D.int))), .no, .ow (T.fz (D.int y5)), .no, .no, .no]) (.ow <| .ow <| .no <| .no <| .no <| .no <| .no <| .nil) rfl Free.no rfl ?_
  refine lcB_none ?_
  refine w_bin ?_
  refine w_var (oQ_in rfl ?_)
  refine w_var (oQ_in rfl ?_)
  refine ⟨rfl, oQ_in rfl (oQ_in rfl ?_)⟩
  replace h9 := bnd h9
  obtain ⟨x12, g13, h9⟩ := h9
  obtain ⟨k14, k15, rfl⟩ := divG_some g13
  refine wb_div k14 k15 ?_
  refine oQ_in rfl ⟨⟨(y5 / v_size), (Option.some.inj h9).symm, rfl⟩, (wipe_1 (.ow <| .ow <| .no <| .ow <| .no <| .no <| .no <| .nil) rfl)⟩
 ·rintro _ rfl
  refine ⟨fzs_len k8, ?_⟩
  refine set_in (ρ2 := [.ow (T.fz (D.int v_size)), .ow (T.fz (D.list (v_numbers.map D.int))), .ow (T.fl (r6.map D.int)), .no, .no, .no, .no]) (.ow <| .ow <| .no <| .no <| .no <| .no <| .no <| .nil) rfl Free.no rfl ?_
  refine nxe (ρ2 := [.ow (T.fz (D.int v_size)), .ow (T.fz (D.list (v_numbers.map D.int))), .ow (T.fl (r6.map D.int)), .no, .no, .no, .no]) rfl ?_
  refine ks_cons ?_
  refine wp_ret ?_
  refine w_lc ?_
  refine wi_enum ?_
  refine w_var (oQ_in rfl ?_)
  refine oQ_in (fzVal_fl (e := D.int) (l := r6) (ρ2 := [.ow (T.fz (D.int v_size)), .ow (T.fz (D.list (v_numbers.map D.int))), .ow (T.fz (D.list (r6.map D.int))), .no, .no, .no, .no]) rfl rfl) (dList_1 rfl ?_)
  replace h := bnd h
  obtain ⟨r17, g18, h⟩ := h
  obtain ⟨g18, k19⟩ := lcG_some g18
  refine ⟨rfl, loopC_cast (enumD_map (e := D.int) r6 0) ?_⟩
  refine lc_sim (e := (fun p => D.ltp [D.int p.1, (D.int p.2)])) (e2 := D.int) (l := (enumI 0 r6)) (r := r17) (fun ρ => ρ = [.ow (T.fz (D.int v_size)), .ow (T.fz (D.list (v_numbers.map D.int))), .ow (T.fz (D.list (r6.map D.int))), .no, .no, .no, .no]) g18 (wipe_2 (o := 5) (p := 6) (ρ1 := [.ow (T.fz (D.int v_size)), .ow (T.fz (D.list (v_numbers.map D.int))), .ow (T.fz (D.list (r6.map D.int))), .no, .no, .no, .no]) (.ow <| .ow <| .ow <| .no <| .no <| .no <| .no <| .nil) rfl (.ow <| .ow <| .ow <| .no <| .no <| .no <| .no <| .nil) rfl) ?_ ?_
  ·rintro y16 o21 _ _ h20 rfl
   refine bd_ltp rfl ?_
   refine bd_go_cons (ρ2 := [.ow (T.fz (D.int v_size)), .ow (T.fz (D.list (v_numbers.map D.int))), .ow (T.fz (D.list (r6.map D.int))), .no, .no, .ow (T.fz (D.int y16.1)), .no]) (.ow <| .ow <| .ow <| .no <| .no <| .no <| .no <| .nil) rfl Free.no rfl ?_
   refine bd_go_cons (ρ2 := [.ow (T.fz (D.int v_size)), .ow (T.fz (D.list (v_numbers.map D.int))), .ow (T.fz (D.list (r6.map D.int))), .no, .no, .ow (T.fz (D.int y16.1)), .ow (T.fz (D.int y16.2))]) (.ow <| .ow <| .ow <| .no <| .no <| .ow <| .no <| .nil) rfl Free.no rfl ?_
   refine bd_go_nil ?_
   refine lcB_none ?_
   refine w_ext ?_
   refine ws_cons ?_
   refine w_lc ?_
   refine wi_seq ?_
   refine w_sl ?_
   refine w_var (oQ_in rfl ?_)
   refine wo_some ?_
   refine w_bin ?_
   refine w_var (oQ_in rfl ?_)
   refine w_kst ?_
   refine ⟨rfl, oQ_in rfl (oQ_in rfl ?_)⟩
   refine wb_add ?_
   refine vInt_in rfl ?_
   refine wo_none ?_
   replace h20 := bnd h20
   obtain ⟨x23, g24, h20⟩ := h20
   obtain ⟨k25, k26, rfl⟩ := sliG_some g24
   refine ⟨rfl, k25, k26, oQ_in rfl ⟨_, slT_list (e := D.int) (l := r6) rfl, ?_⟩⟩
   refine oQ_in rfl (dSeq_1 (fl_toD (((r6.drop (HT.sIx r6.length 0 (some (y16.1 + 1)))).take (HT.sIx r6.length r6.length none - HT.sIx r6.length 0 (some (y16.1 + 1)))).map D.int)) ?_)
   replace h20 := bnd h20
   obtain ⟨r28, g29, h20⟩ := h20
   obtain ⟨g29, k30⟩ := lcG_some g29
   refine ⟨rfl, loopC_cast rfl ?_⟩
   refine lc_sim (e := D.int) (e2 := D.int) (l := ((r6.drop (HT.sIx r6.length 0 (some (y16.1 + 1)))).take (HT.sIx r6.length r6.length none - HT.sIx r6.length 0 (some (y16.1 + 1))))) (r := r28) (fun ρ => ρ = [.ow (T.fz (D.int v_size)), .ow (T.fz (D.list (v_numbers.map D.int))), .ow (T.fz (D.list (r6.map D.int))), .no, .no, .ow (T.fz (D.int y16.1)), .ow (T.fz (D.int y16.2))]) g29 (wipe_1 (.ow <| .ow <| .ow <| .no <| .no <| .ow <| .ow <| .nil) rfl) ?_ ?_
   ·rintro y27 o32 _ _ h31 rfl
    refine bd_nm (ρ2 := [.ow (T.fz (D.int v_size)), .ow (T.fz (D.list (v_numbers.map D.int))), .ow (T.fz (D.list (r6.map D.int))), .no, .ow (T.fz (D.int y27)), .ow (T.fz (D.int y16.1)), .ow (T.fz (D.int y16.2))]) (.ow <| .ow <| .ow <| .no <| .no <| .ow <| .ow <| .nil) rfl Free.no rfl ?_
    refine lcB_some ?_
    refine wt_cmp ?_
    refine w_var (oQ_in rfl ?_)
    refine w_var (oQ_in rfl ?_)
    refine ⟨rfl, oQ_in rfl (oQ_in rfl ?_)⟩
    by_cases c34 : y27 < y16.2
    ·replace h31 := ift c34 h31
     refine wc_lt_t c34 ?_
     refine ⟨fun _ => ?_, fun z => absurd z (by decide)⟩
     refine w_fzvK ?_
     refine w_var (oQ_in rfl ?_)
     refine fzk_fz (d := (D.int y27)) ?_
     refine oQ_in rfl ⟨⟨y27, (Option.some.inj h31).symm, rfl⟩, (wipe_1 (.ow <| .ow <| .ow <| .no <| .ow <| .ow <| .ow <| .nil) rfl)⟩
    ·replace h31 := iff_ c34 h31
     refine wc_lt_f c34 ?_
     exact ⟨fun z => absurd z (by decide), fun _ => ⟨(Option.some.inj h31).symm, (wipe_1 (.ow <| .ow <| .ow <| .no <| .ow <| .ow <| .ow <| .nil) rfl)⟩⟩
   ·rintro _ rfl
    refine ⟨fzs_len k30, ?_⟩
    refine ws_nil ?_
    refine ⟨rfl, ?_⟩
    replace h20 := bnd h20
    obtain ⟨x35, g36, h20⟩ := h20
    obtain ⟨k37, rfl⟩ := lsetG_some g36
    refine ⟨rfl, oQ_in rfl ⟨_, lset_q (l := r28) (flat_fl (r28.map D.int)) k37, ?_⟩⟩
    refine oQ_in rfl ⟨⟨((nubI r28).length : Int), (Option.some.inj h20).symm, rfl⟩, (wipe_2 (o := 5) (p := 6) (ρ1 := [.ow (T.fz (D.int v_size)), .ow (T.fz (D.list (v_numbers.map D.int))), .ow (T.fz (D.list (r6.map D.int))), .no, .no, .ow (T.fz (D.int y16.1)), .no]) (.ow <| .ow <| .ow <| .no <| .no <| .ow <| .ow <| .nil) rfl (.ow <| .ow <| .ow <| .no <| .no <| .ow <| .no <| .nil) rfl)⟩
  ·rintro _ rfl
   refine ⟨fzs_len k19, ?_⟩
   refine oQ_in rfl ?_
   obtain rfl := Option.some.inj h
   refine seqK_rt ?_
   exact ret_in rfl rfl
def p_law (v_script : List Int) : Option (Bool) :=
 (catG v_script ([(0 : Int)])).bind fun x1 =>
 (sliG x1 none (some (mx2 1 (mn2 (v_script.length : Int) 12)))).bind fun x2 =>
 (forR (fun (s_3 : Unit) (y4 : (Int × Int)) =>
  (p__law_source y4.2 y4.1).bind fun r15 =>
  (rngG 0 3).bind fun x16 =>
  (forR (fun (s_17 : List Int) (y18 : Int) =>
   (p__law_width s_17).bind fun r26 =>
   (
    if (y4.1 + y18) = 0 then
     (
     (deqG (D.list (v_script.map D.int)) (D.list (([]).map D.int))).bind fun x27 =>
     if ¬ x27 = true then
      (
      some ((200 : Int), r26.2)
      )
     else
      (
      (deqG (D.list (v_script.map D.int)) (D.list (([]).map D.int))).bind fun x28 =>
      (ixG ([(7 : Int), 31]) (if (!x28) = true then 1 else 0)).bind fun x29 =>
      (p__law_draw r26.2 x29).bind fun r30 =>
      some (r30.1, r30.2)
      )
     )
    else
     (
     (deqG (D.list (v_script.map D.int)) (D.list (([]).map D.int))).bind fun x31 =>
     (ixG ([(7 : Int), 31]) (if (!x31) = true then 1 else 0)).bind fun x32 =>
     (p__law_draw r26.2 x32).bind fun r33 =>
     some (r33.1, r33.2)
     )
   ).bind fun x34 =>
   (p__law_any x34.2 r26.1 x34.1).bind fun r35 =>
   (reprG (D.list (r35.1.map D.int))).bind fun x36 =>
   (p__law_due r26.1 r35.1).bind fun r37 =>
   (p_lots_heard r26.1 r35.1).bind fun r38 =>
   (p_lots_heard r26.1 r35.1).bind fun r39 =>
   (reprG (D.list [(D.list (r38.map D.int)), (D.list (r39.map D.int))])).bind fun x40 =>
   (reprG (D.list (([r37, r37]).map (eL D.int)))).bind fun x41 =>
   if ¬ x40 = x41 then
    (
    some (.inr false)
    )
   else
    (
    (reprG (D.list (r35.1.map D.int))).bind fun x42 =>
    if ¬ x42 = x36 then
     (
     some (.inr false)
     )
    else
     (
     (appG r38 7).bind fun x43 =>
     (p_lots_heard r26.1 r35.1).bind fun r44 =>
     (deqG (D.list (r44.map D.int)) (D.list (r37.map D.int))).bind fun x45 =>
     if ¬ x45 = true then
      (
      some (.inr false)
      )
     else
      (
      some (.inl r35.2)
      )
     )
    )
  ) x16 r15).bind fun r46 =>
  match r46 with
  | .inr b47 => some (.inr b47)
  | .inl r46 =>
  some (.inl ())
 ) (enumI 0 x2) ()).bind fun r55 =>
 match r55 with
 | .inr b56 => some b56
 | .inl r55 =>
 (p_lots_heard 2 ([(4 : Int), 0, 3, 1])).bind fun r67 =>
 (p_lots_heard (((10 : Int) ^ 30) - 1) ([(((10 : Int) ^ 30) - 1), 0, ((((10 : Int) ^ 30) - 1) - 1)])).bind fun r68 =>
 (p_lots_heard 1 ([])).bind fun r69 =>
 (deqG (D.list (([r67, r68, r69]).map (eL D.int))) (D.list (([[(2 : Int), 0, 1, 0], [(1 : Int), 0, 0], []]).map (eL D.int)))).bind fun x70 =>
 some x70
theorem m_law {v_script : List Int} {r : Bool} (h : p_law v_script = some r) : F_law.run [(T.fz (D.list (v_script.map D.int)))] = some ((T.fz (D.bool r)), []) := by
 unfold p_law at h
 rw [R_law]
 refine run_g (ρ := [.ow (T.fz (D.list (v_script.map D.int))), .no, .no, .no, .no, .no, .no, .no, .no, .no, .no, .no]) rfl rfl ?_
 refine ks_cons ?_
 refine wp_for ?_
 refine wi_enum ?_
 refine w_sl ?_
 refine w_bin ?_
 refine w_var (oQ_in rfl ?_)
 refine w_list ?_
 refine ws_cons ?_
 refine w_kst ?_
 refine ws_nil ?_
 refine ⟨rfl, ?_⟩
 refine oQ_in rfl ?_
 refine ⟨rfl, oQ_in rfl (oQ_in rfl ?_)⟩
 replace h := bnd h
 obtain ⟨x1, g2, h⟩ := h
 obtain ⟨k3, rfl⟩ := catG_some g2
 refine wb_addT (addT_lf (e := D.int) (l := v_script) (m := [(0 : Int)]) k3) ?_
 refine wo_none ?_
 refine wo_some ?_
 refine w_blt ?_
 refine ws_cons ?_
 refine w_kst ?_
 refine ws_cons ?_
 refine w_blt ?_
 refine ws_cons ?_
 refine w_blt ?_
 refine ws_cons ?_
 refine w_var (oQ_in rfl ?_)
 refine ws_nil ?_
 refine ⟨rfl, ?_⟩
 refine oQ_in rfl ?_
 refine len_list (e := D.int) (l := v_script) ?_
 refine ws_cons ?_
 refine w_kst ?_
 refine ws_nil ?_
 refine ⟨rfl, rfl, ?_⟩
 refine oQ_in rfl ?_
 refine wl_min ?_
 refine ws_nil ?_
 refine ⟨rfl, rfl, ?_⟩
 refine oQ_in rfl ?_
 refine wl_max ?_
 refine vInt_in rfl ?_
 replace h := bnd h
 obtain ⟨x4, g5, h⟩ := h
 obtain ⟨k6, k7, rfl⟩ := sliG_some g5
 refine ⟨rfl, k6, k7, oQ_in rfl ⟨_, slT_fl (e := D.int) (l := (v_script ++ [(0 : Int)])) rfl, ?_⟩⟩
 refine oQ_in rfl (dList_1 (fl_toD ((((v_script ++ [(0 : Int)]).drop (HT.sIx (v_script ++ [(0 : Int)]).length 0 none)).take (HT.sIx (v_script ++ [(0 : Int)]).length (v_script ++ [(0 : Int)]).length (some (mx2 1 (mn2 (v_script.length : Int) 12))) - HT.sIx (v_script ++ [(0 : Int)]).length 0 none)).map D.int)) ?_)
 replace h := bnd h
 obtain ⟨r10, g11, h⟩ := h
 refine loop_cast (enumD_map (e := D.int) (((v_script ++ [(0 : Int)]).drop (HT.sIx (v_script ++ [(0 : Int)]).length 0 none)).take (HT.sIx (v_script ++ [(0 : Int)]).length (v_script ++ [(0 : Int)]).length (some (mx2 1 (mn2 (v_script.length : Int) 12))) - HT.sIx (v_script ++ [(0 : Int)]).length 0 none)) 0) ?_
 refine for_simR (e := (fun p => D.ltp [D.int p.1, (D.int p.2)])) (fun (s_8 : Unit) ρ => ∃ (s12 : Slot) (s13 : Slot) (s14 : Slot) (s15 : Slot) (s16 : Slot) (s17 : Slot) (s18 : Slot) (s19 : Slot) (s20 : Slot) (s21 : Slot), ρ = [.ow (T.fz (D.list (v_script.map D.int))), s12, s13, s14, s15, s16, s17, s18, s19, s20, s21, .no] ∧ Free s12 ∧ Free s13 ∧ Free s14 ∧ Free s15 ∧ Free s16 ∧ Free s17 ∧ Free s18 ∧ Free s19 ∧ Free s20 ∧ Free s21) (fun b o => isRet [false] (T.fz (D.bool b)) [] o) g11 ⟨_, _, _, _, _, _, _, _, _, _, rfl, Free.no, Free.no, Free.no, Free.no, Free.no, Free.no, Free.no, Free.no, Free.no, Free.no⟩ ?_ ?_ ?_
 ·rintro y9 s_8 z23 _ _ h22 ⟨s12, s13, s14, s15, s16, s17, s18, s19, s20, s21, rfl, q12, q13, q14, q15, q16, q17, q18, q19, q20, q21⟩
  refine bd_ltp rfl ?_
  refine bd_go_cons (ρ2 := [.ow (T.fz (D.list (v_script.map D.int))), .ow (T.fz (D.int y9.1)), s13, s14, s15, s16, s17, s18, s19, s20, s21, .no]) (.ow <| .fr q12 <| .fr q13 <| .fr q14 <| .fr q15 <| .fr q16 <| .fr q17 <| .fr q18 <| .fr q19 <| .fr q20 <| .fr q21 <| .no <| .nil) rfl q12 rfl ?_
  refine bd_go_cons (ρ2 := [.ow (T.fz (D.list (v_script.map D.int))), .ow (T.fz (D.int y9.1)), .ow (T.fz (D.int y9.2)), s14, s15, s16, s17, s18, s19, s20, s21, .no]) (.ow <| .ow <| .fr q13 <| .fr q14 <| .fr q15 <| .fr q16 <| .fr q17 <| .fr q18 <| .fr q19 <| .fr q20 <| .fr q21 <| .no <| .nil) rfl q13 rfl ?_
  refine bd_go_nil ?_
  refine ks_cons ?_
  refine wp_set ?_
  refine w_call ?_
  refine ws_cons ?_
  refine w_fzvK ?_
  refine w_var (oQ_in rfl ?_)
  refine fzk_fz (d := (D.int y9.2)) ?_
  refine ws_cons ?_
  refine w_fzvK ?_
  refine w_var (oQ_in rfl ?_)
  refine fzk_fz (d := (D.int y9.1)) ?_
  refine ws_nil ?_
  refine ⟨rfl, rfl, ?_⟩
  refine oQ_in rfl ?_
  replace h22 := bnd h22
  obtain ⟨r24, g25, h22⟩ := h22
  have mg25 := m__law_source g25
  refine call_g (ρ2 := [.ow (T.fz (D.list (v_script.map D.int))), .ow (T.fz (D.int y9.1)), .ow (T.fz (D.int y9.2)), s14, s15, s16, s17, s18, s19, s20, s21, .no]) (.ow <| .ow <| .ow <| .fr q14 <| .fr q15 <| .fr q16 <| .fr q17 <| .fr q18 <| .fr q19 <| .fr q20 <| .fr q21 <| .no <| .nil) rfl (argT_fz (argT_fz argT_nil)) mg25 rfl rfl rfl ?_
  refine set_in (ρ2 := [.ow (T.fz (D.list (v_script.map D.int))), .ow (T.fz (D.int y9.1)), .ow (T.fz (D.int y9.2)), .ow (T.fl (r24.map D.int)), s15, s16, s17, s18, s19, s20, s21, .no]) (.ow <| .ow <| .ow <| .fr q14 <| .fr q15 <| .fr q16 <| .fr q17 <| .fr q18 <| .fr q19 <| .fr q20 <| .fr q21 <| .no <| .nil) rfl q14 rfl ?_
  refine nxe (ρ2 := [.ow (T.fz (D.list (v_script.map D.int))), .ow (T.fz (D.int y9.1)), .ow (T.fz (D.int y9.2)), .ow (T.fl (r24.map D.int)), s15, s16, s17, s18, s19, s20, s21, .no]) rfl ?_
  refine ks_cons ?_
  refine wp_for ?_
  refine wi_rng1 ?_
  refine w_kst ?_
  refine vInt_in rfl ?_
  replace h22 := bnd h22
  obtain ⟨x26, g27, h22⟩ := h22
  obtain ⟨k28, k29, rfl⟩ := rngG_some g27
  refine ⟨k29, ?_⟩
  replace h22 := bnd h22
  obtain ⟨r32, g33, h22⟩ := h22
  refine loop_cast (rangeD_map 0 3) ?_
  refine for_simR (e := D.int) (fun (s_30 : List Int) ρ => ∃ (s34 : Slot) (s35 : Slot) (s36 : Slot) (s37 : Slot) (s38 : Slot) (s39 : Slot) (s40 : Slot), ρ = [.ow (T.fz (D.list (v_script.map D.int))), .ow (T.fz (D.int y9.1)), .ow (T.fz (D.int y9.2)), .ow (T.fl (s_30.map D.int)), s34, s35, s36, s37, s38, s39, s40, .no] ∧ Free s34 ∧ Free s35 ∧ Free s36 ∧ Free s37 ∧ Free s38 ∧ Free s39 ∧ Free s40) (fun b o => isRet [false] (T.fz (D.bool b)) [] o) g33 ⟨_, _, _, _, _, _, _, rfl, q15, q16, q17, q18, q19, q20, q21⟩ ?_ ?_ ?_
  ·rintro y31 s_30 z42 _ _ h41 ⟨s34, s35, s36, s37, s38, s39, s40, rfl, q34, q35, q36, q37, q38, q39, q40⟩
   refine bd_nm (ρ2 := [.ow (T.fz (D.list (v_script.map D.int))), .ow (T.fz (D.int y9.1)), .ow (T.fz (D.int y9.2)), .ow (T.fl (s_30.map D.int)), .ow (T.fz (D.int y31)), s35, s36, s37, s38, s39, s40, .no]) (.ow <| .ow <| .ow <| .ow <| .fr q34 <| .fr q35 <| .fr q36 <| .fr q37 <| .fr q38 <| .fr q39 <| .fr q40 <| .no <| .nil) rfl q34 rfl ?_
   refine ks_cons ?_
   refine wp_set ?_
   refine w_fzvK ?_
   refine w_call ?_
   refine ws_cons ?_
   refine w_var (oQ_in rfl ?_)
   refine ws_nil ?_
   refine ⟨rfl, ?_⟩
   refine oQ_in rfl ?_
   replace h41 := bnd h41
   obtain ⟨r43, g44, h41⟩ := h41
   have mg44 := m__law_width g44
   refine call_g (ρ2 := [.ow (T.fz (D.list (v_script.map D.int))), .ow (T.fz (D.int y9.1)), .ow (T.fz (D.int y9.2)), .ow (T.fl (r43.2.map D.int)), .ow (T.fz (D.int y31)), s35, s36, s37, s38, s39, s40, .no]) (.ow <| .ow <| .ow <| .ow <| .ow <| .fr q35 <| .fr q36 <| .fr q37 <| .fr q38 <| .fr q39 <| .fr q40 <| .no <| .nil) rfl (argT_io rfl argT_nil) mg44 rfl rfl rfl ?_
   refine fzk_fz (d := (D.int r43.1)) ?_
   refine set_in (ρ2 := [.ow (T.fz (D.list (v_script.map D.int))), .ow (T.fz (D.int y9.1)), .ow (T.fz (D.int y9.2)), .ow (T.fl (r43.2.map D.int)), .ow (T.fz (D.int y31)), .ow (T.fz (D.int r43.1)), s36, s37, s38, s39, s40, .no]) (.ow <| .ow <| .ow <| .ow <| .ow <| .fr q35 <| .fr q36 <| .fr q37 <| .fr q38 <| .fr q39 <| .fr q40 <| .no <| .nil) rfl q35 rfl ?_
   refine nxe (ρ2 := [.ow (T.fz (D.list (v_script.map D.int))), .ow (T.fz (D.int y9.1)), .ow (T.fz (D.int y9.2)), .ow (T.fl (r43.2.map D.int)), .ow (T.fz (D.int y31)), .ow (T.fz (D.int r43.1)), s36, s37, s38, s39, s40, .no]) rfl ?_
   refine ks_cons ?_
   refine wp_set ?_
   refine w_fzvK ?_
   refine w_ite ?_
   replace h41 := bnd h41
   obtain ⟨x45, e46, h41⟩ := h41
   refine wt_bool ?_
   refine wb_cons ?_
   refine wt_cmp ?_
   refine w_bin ?_
   refine w_var (oQ_in rfl ?_)
   refine w_var (oQ_in rfl ?_)
   refine ⟨rfl, oQ_in rfl (oQ_in rfl ?_)⟩
   refine wb_add ?_
   refine w_kst ?_
   refine ⟨rfl, oQ_in rfl (oQ_in rfl ?_)⟩
   by_cases c47 : (y9.1 + y31) = 0
   ·replace e46 := ift c47 e46
    refine wc_eq_t c47 ?_
    refine ⟨fun _ => ?_, fun z => absurd z (by decide)⟩
    refine wb_one ?_
    refine wt_cmp ?_
    refine w_var (oQ_in rfl ?_)
    refine w_list ?_
    refine ws_nil ?_
    skip
    refine oQ_in rfl ?_
    refine ⟨rfl, oQ_in rfl (oQ_in rfl ?_)⟩
    replace e46 := bnd e46
    obtain ⟨x48, g49, e46⟩ := e46
    by_cases c50 : ¬ x48 = true
    ·replace e46 := ift c50 e46
     refine wCmp_inN_t (cmp_eq rfl (fl_toD (([]).map D.int)) g49) c50 ?_
     refine ⟨fun _ => ?_, fun z => absurd z (by decide)⟩
     refine w_kst ?_
     obtain rfl := Option.some.inj e46
     refine fzk_fz (d := (D.int 200)) ?_
     refine set_in (ρ2 := [.ow (T.fz (D.list (v_script.map D.int))), .ow (T.fz (D.int y9.1)), .ow (T.fz (D.int y9.2)), .ow (T.fl (r43.2.map D.int)), .ow (T.fz (D.int y31)), .ow (T.fz (D.int r43.1)), .ow (T.fz (D.int 200)), s37, s38, s39, s40, .no]) (.ow <| .ow <| .ow <| .ow <| .ow <| .ow <| .fr q36 <| .fr q37 <| .fr q38 <| .fr q39 <| .fr q40 <| .no <| .nil) rfl q36 rfl ?_
     refine nxe (ρ2 := [.ow (T.fz (D.list (v_script.map D.int))), .ow (T.fz (D.int y9.1)), .ow (T.fz (D.int y9.2)), .ow (T.fl (r43.2.map D.int)), .ow (T.fz (D.int y31)), .ow (T.fz (D.int r43.1)), .ow (T.fz (D.int 200)), s37, s38, s39, s40, .no]) rfl ?_
     refine ks_cons ?_
     refine wp_set ?_
     refine w_fzvK ?_
     refine w_call ?_
     refine ws_cons ?_
     refine w_var (oQ_in rfl ?_)
     refine ws_cons ?_
     refine w_fzvK ?_
     refine w_var (oQ_in rfl ?_)
     refine fzk_fz (d := (D.int r43.1)) ?_
     refine ws_cons ?_
     refine w_fzvK ?_
     refine w_var (oQ_in rfl ?_)
     refine fzk_fz (d := (D.int 200)) ?_
     refine ws_nil ?_
     refine ⟨rfl, rfl, rfl, ?_⟩
     refine oQ_in rfl ?_
     replace h41 := bnd h41
     obtain ⟨r51, g52, h41⟩ := h41
     have mg52 := m__law_any g52
     refine call_g (ρ2 := [.ow (T.fz (D.list (v_script.map D.int))), .ow (T.fz (D.int y9.1)), .ow (T.fz (D.int y9.2)), .ow (T.fl (r51.2.map D.int)), .ow (T.fz (D.int y31)), .ow (T.fz (D.int r43.1)), .ow (T.fz (D.int 200)), s37, s38, s39, s40, .no]) (.ow <| .ow <| .ow <| .ow <| .ow <| .ow <| .ow <| .fr q37 <| .fr q38 <| .fr q39 <| .fr q40 <| .no <| .nil) rfl (argT_io rfl (argT_fz (argT_fz argT_nil))) mg52 rfl rfl rfl ?_
     refine fzk_fz (d := (D.list (r51.1.map D.int))) ?_
     refine set_in (ρ2 := [.ow (T.fz (D.list (v_script.map D.int))), .ow (T.fz (D.int y9.1)), .ow (T.fz (D.int y9.2)), .ow (T.fl (r51.2.map D.int)), .ow (T.fz (D.int y31)), .ow (T.fz (D.int r43.1)), .ow (T.fz (D.int 200)), .ow (T.fz (D.list (r51.1.map D.int))), s38, s39, s40, .no]) (.ow <| .ow <| .ow <| .ow <| .ow <| .ow <| .ow <| .fr q37 <| .fr q38 <| .fr q39 <| .fr q40 <| .no <| .nil) rfl q37 rfl ?_
     refine nxe (ρ2 := [.ow (T.fz (D.list (v_script.map D.int))), .ow (T.fz (D.int y9.1)), .ow (T.fz (D.int y9.2)), .ow (T.fl (r51.2.map D.int)), .ow (T.fz (D.int y31)), .ow (T.fz (D.int r43.1)), .ow (T.fz (D.int 200)), .ow (T.fz (D.list (r51.1.map D.int))), s38, s39, s40, .no]) rfl ?_
     refine ks_cons ?_
     refine wp_par ?_
     refine ws_cons ?_
     refine w_blt ?_
     refine ws_cons ?_
     refine w_var (oQ_in rfl ?_)
     refine ws_nil ?_
     refine ⟨rfl, ?_⟩
     refine oQ_in rfl ?_
     replace h41 := bnd h41
     obtain ⟨x53, g54, h41⟩ := h41
     obtain ⟨k55, rfl⟩ := reprG_some g54
     refine wl_any (repr_g (d := (D.list (r51.1.map D.int))) rfl k55) ?_
     refine ws_cons ?_
     refine w_fzvK ?_
     refine w_call ?_
     refine ws_cons ?_
     refine w_fzvK ?_
     refine w_var (oQ_in rfl ?_)
     refine fzk_fz (d := (D.int r43.1)) ?_
     refine ws_cons ?_
     refine w_fzvK ?_
     refine w_var (oQ_in rfl ?_)
     refine fzk_fz (d := (D.list (r51.1.map D.int))) ?_
     refine ws_nil ?_
     refine ⟨rfl, rfl, ?_⟩
     refine oQ_in rfl ?_
     replace h41 := bnd h41
     obtain ⟨r56, g57, h41⟩ := h41
     have mg57 := m__law_due g57
     refine call_g (ρ2 := [.ow (T.fz (D.list (v_script.map D.int))), .ow (T.fz (D.int y9.1)), .ow (T.fz (D.int y9.2)), .ow (T.fl (r51.2.map D.int)), .ow (T.fz (D.int y31)), .ow (T.fz (D.int r43.1)), .ow (T.fz (D.int 200)), .ow (T.fz (D.list (r51.1.map D.int))), s38, s39, s40, .no]) (.ow <| .ow <| .ow <| .ow <| .ow <| .ow <| .ow <| .ow <| .fr q38 <| .fr q39 <| .fr q40 <| .no <| .nil) rfl (argT_fz (argT_fz argT_nil)) mg57 rfl rfl rfl ?_
     refine fzk_fz (d := (D.list (r56.map D.int))) ?_
     refine ws_nil ?_
     refine ⟨rfl, rfl, ?_⟩
     refine ⟨rfl, ?_⟩
     refine bvs_cons (ρ2 := [.ow (T.fz (D.list (v_script.map D.int))), .ow (T.fz (D.int y9.1)), .ow (T.fz (D.int y9.2)), .ow (T.fl (r51.2.map D.int)), .ow (T.fz (D.int y31)), .ow (T.fz (D.int r43.1)), .ow (T.fz (D.int 200)), .ow (T.fz (D.list (r51.1.map D.int))), .ow (T.fz (D.str ((D.list (r51.1.map D.int)).toPy.shown))), s39, s40, .no]) (.ow <| .ow <| .ow <| .ow <| .ow <| .ow <| .ow <| .ow <| .fr q38 <| .fr q39 <| .fr q40 <| .no <| .nil) rfl q38 rfl ?_
     refine bvs_cons (ρ2 := [.ow (T.fz (D.list (v_script.map D.int))), .ow (T.fz (D.int y9.1)), .ow (T.fz (D.int y9.2)), .ow (T.fl (r51.2.map D.int)), .ow (T.fz (D.int y31)), .ow (T.fz (D.int r43.1)), .ow (T.fz (D.int 200)), .ow (T.fz (D.list (r51.1.map D.int))), .ow (T.fz (D.str ((D.list (r51.1.map D.int)).toPy.shown))), .ow (T.fz (D.list (r56.map D.int))), s40, .no]) (.ow <| .ow <| .ow <| .ow <| .ow <| .ow <| .ow <| .ow <| .ow <| .fr q39 <| .fr q40 <| .no <| .nil) rfl q39 rfl ?_
     refine bvs_nil ?_
     refine nxe (ρ2 := [.ow (T.fz (D.list (v_script.map D.int))), .ow (T.fz (D.int y9.1)), .ow (T.fz (D.int y9.2)), .ow (T.fl (r51.2.map D.int)), .ow (T.fz (D.int y31)), .ow (T.fz (D.int r43.1)), .ow (T.fz (D.int 200)), .ow (T.fz (D.list (r51.1.map D.int))), .ow (T.fz (D.str ((D.list (r51.1.map D.int)).toPy.shown))), .ow (T.fz (D.list (r56.map D.int))), s40, .no]) rfl ?_
     refine ks_cons ?_
     refine wp_set ?_
     refine w_list ?_
     refine ws_cons ?_
     refine w_call ?_
     refine ws_cons ?_
     refine w_fzvK ?_
     refine w_var (oQ_in rfl ?_)
     refine fzk_fz (d := (D.int r43.1)) ?_
     refine ws_cons ?_
     refine w_fzvK ?_
     refine w_var (oQ_in rfl ?_)
     refine fzk_fz (d := (D.list (r51.1.map D.int))) ?_
     refine ws_nil ?_
     refine ⟨rfl, rfl, ?_⟩
     refine oQ_in rfl ?_
     replace h41 := bnd h41
     obtain ⟨r58, g59, h41⟩ := h41
     have mg59 := m_lots_heard g59
     refine call_g (ρ2 := [.ow (T.fz (D.list (v_script.map D.int))), .ow (T.fz (D.int y9.1)), .ow (T.fz (D.int y9.2)), .ow (T.fl (r51.2.map D.int)), .ow (T.fz (D.int y31)), .ow (T.fz (D.int r43.1)), .ow (T.fz (D.int 200)), .ow (T.fz (D.list (r51.1.map D.int))), .ow (T.fz (D.str ((D.list (r51.1.map D.int)).toPy.shown))), .ow (T.fz (D.list (r56.map D.int))), s40, .no]) (.ow <| .ow <| .ow <| .ow <| .ow <| .ow <| .ow <| .ow <| .ow <| .ow <| .fr q40 <| .no <| .nil) rfl (argT_fz (argT_fz argT_nil)) mg59 rfl rfl rfl ?_
     refine ws_cons ?_
     refine w_callk ?_
     refine ws_cons ?_
     refine w_fzvK ?_
     refine w_var (oQ_in rfl ?_)
     refine fzk_fz (d := (D.list (r51.1.map D.int))) ?_
     refine ws_cons ?_
     refine w_fzvK ?_
     refine w_var (oQ_in rfl ?_)
     refine fzk_fz (d := (D.int r43.1)) ?_
     refine ws_nil ?_
     refine ⟨rfl, rfl, ?_⟩
     refine oQ_in rfl ?_
     refine oQ_in rfl ?_
     replace h41 := bnd h41
     obtain ⟨r60, g61, h41⟩ := h41
     have mg61 := m_lots_heard g61
     refine call_g (ρ2 := [.ow (T.fz (D.list (v_script.map D.int))), .ow (T.fz (D.int y9.1)), .ow (T.fz (D.int y9.2)), .ow (T.fl (r51.2.map D.int)), .ow (T.fz (D.int y31)), .ow (T.fz (D.int r43.1)), .ow (T.fz (D.int 200)), .ow (T.fz (D.list (r51.1.map D.int))), .ow (T.fz (D.str ((D.list (r51.1.map D.int)).toPy.shown))), .ow (T.fz (D.list (r56.map D.int))), s40, .no]) (.ow <| .ow <| .ow <| .ow <| .ow <| .ow <| .ow <| .ow <| .ow <| .ow <| .fr q40 <| .no <| .nil) rfl (argT_fz (argT_fz argT_nil)) mg61 rfl rfl rfl ?_
     refine ws_nil ?_
     refine ⟨rfl, rfl, ?_⟩
     refine oQ_in rfl ?_
     refine set_in (ρ2 := [.ow (T.fz (D.list (v_script.map D.int))), .ow (T.fz (D.int y9.1)), .ow (T.fz (D.int y9.2)), .ow (T.fl (r51.2.map D.int)), .ow (T.fz (D.int y31)), .ow (T.fz (D.int r43.1)), .ow (T.fz (D.int 200)), .ow (T.fz (D.list (r51.1.map D.int))), .ow (T.fz (D.str ((D.list (r51.1.map D.int)).toPy.shown))), .ow (T.fz (D.list (r56.map D.int))), .ow (T.lst [(T.fl (r58.map D.int)), (T.fl (r60.map D.int))]), .no]) (.ow <| .ow <| .ow <| .ow <| .ow <| .ow <| .ow <| .ow <| .ow <| .ow <| .fr q40 <| .no <| .nil) rfl q40 rfl ?_
     refine nxe (ρ2 := [.ow (T.fz (D.list (v_script.map D.int))), .ow (T.fz (D.int y9.1)), .ow (T.fz (D.int y9.2)), .ow (T.fl (r51.2.map D.int)), .ow (T.fz (D.int y31)), .ow (T.fz (D.int r43.1)), .ow (T.fz (D.int 200)), .ow (T.fz (D.list (r51.1.map D.int))), .ow (T.fz (D.str ((D.list (r51.1.map D.int)).toPy.shown))), .ow (T.fz (D.list (r56.map D.int))), .ow (T.lst [(T.fl (r58.map D.int)), (T.fl (r60.map D.int))]), .no]) rfl ?_
     refine ks_ite ?_
     refine wt_bool ?_
     refine wb_cons ?_
     refine wt_cmp ?_
     refine w_blt ?_
     refine ws_cons ?_
     refine w_var (oQ_in rfl ?_)
     refine ws_nil ?_
     refine ⟨rfl, ?_⟩
     refine oQ_in rfl ?_
     replace h41 := bnd h41
     obtain ⟨x62, g63, h41⟩ := h41
     obtain ⟨k64, rfl⟩ := reprG_some g63
     refine wl_any (repr_g (d := (D.list [(D.list (r58.map D.int)), (D.list (r60.map D.int))])) (by simp only [T.toD, T.toDs, fl_toD]) k64) ?_
     refine w_blt ?_
     refine ws_cons ?_
     refine w_list ?_
     refine ws_cons ?_
     refine w_fzvK ?_
     refine w_var (oQ_in rfl ?_)
     refine fzk_fz (d := (D.list (r56.map D.int))) ?_
     refine ws_cons ?_
     refine w_fzvK ?_
     refine w_var (oQ_in rfl ?_)
     refine fzk_fz (d := (D.list (r56.map D.int))) ?_
     refine ws_nil ?_
     refine ⟨rfl, rfl, ?_⟩
     refine oQ_in rfl ?_
     refine ws_nil ?_
     refine ⟨rfl, ?_⟩
     refine oQ_in rfl ?_
     replace h41 := bnd h41
     obtain ⟨x65, g66, h41⟩ := h41
     obtain ⟨k67, rfl⟩ := reprG_some g66
     refine wl_any (repr_g (d := (D.list (([r56, r56]).map (eL D.int)))) (fl_toD (([r56, r56]).map (eL D.int))) k67) ?_
     refine ⟨rfl, oQ_in rfl (oQ_in rfl ?_)⟩
     by_cases c68 : ¬ (D.list [(D.list (r58.map D.int)), (D.list (r60.map D.int))]).toPy.shown = (D.list (([r56, r56]).map (eL D.int))).toPy.shown
     ·replace h41 := ift c68 h41
      refine wCmp_pN_t (eq_str _ _) c68 ?_
      refine ⟨fun z => absurd z (by decide), fun _ => ?_⟩
      refine ⟨fun _ => ?_, fun z => absurd z (by decide)⟩
      refine ks_cons ?_
      refine wp_ret ?_
      refine w_kst ?_
      refine oQ_in rfl ?_
      obtain rfl := Option.some.inj h41
      refine seqK_rt ?_
      refine seqK_rt ?_
      exact lpR_rt (ret_in rfl rfl)
     ·replace h41 := iff_ c68 h41
      refine wCmp_pN_f (eq_str _ _) c68 ?_
      refine ⟨fun _ => ?_, fun z => absurd z (by decide)⟩
      refine wb_one ?_
      refine wt_cmp ?_
      refine w_blt ?_
      refine ws_cons ?_
      refine w_var (oQ_in rfl ?_)
      refine ws_nil ?_
      refine ⟨rfl, ?_⟩
      refine oQ_in rfl ?_
      replace h41 := bnd h41
      obtain ⟨x69, g70, h41⟩ := h41
      obtain ⟨k71, rfl⟩ := reprG_some g70
      refine wl_any (repr_g (d := (D.list (r51.1.map D.int))) rfl k71) ?_
      refine w_var (oQ_in rfl ?_)
      refine ⟨rfl, oQ_in rfl (oQ_in rfl ?_)⟩
      by_cases c72 : ¬ (D.list (r51.1.map D.int)).toPy.shown = (D.list (r51.1.map D.int)).toPy.shown
      ·replace h41 := ift c72 h41
       refine wCmp_pN_t (eq_str _ _) c72 ?_
       refine ⟨fun _ => ?_, fun z => absurd z (by decide)⟩
       refine ks_cons ?_
       refine wp_ret ?_
       refine w_kst ?_
       refine oQ_in rfl ?_
       obtain rfl := Option.some.inj h41
       refine seqK_rt ?_
       refine seqK_rt ?_
       exact lpR_rt (ret_in rfl rfl)
      ·replace h41 := iff_ c72 h41
       refine wCmp_pN_f (eq_str _ _) c72 ?_
       refine ⟨fun z => absurd z (by decide), fun _ => ?_⟩
       refine ks_nil ?_
       refine nxe (ρ2 := [.ow (T.fz (D.list (v_script.map D.int))), .ow (T.fz (D.int y9.1)), .ow (T.fz (D.int y9.2)), .ow (T.fl (r51.2.map D.int)), .ow (T.fz (D.int y31)), .ow (T.fz (D.int r43.1)), .ow (T.fz (D.int 200)), .ow (T.fz (D.list (r51.1.map D.int))), .ow (T.fz (D.str ((D.list (r51.1.map D.int)).toPy.shown))), .ow (T.fz (D.list (r56.map D.int))), .ow (T.lst [(T.fl (r58.map D.int)), (T.fl (r60.map D.int))]), .no]) rfl ?_
       refine ks_cons ?_
       refine wp_app ?_
       refine w_ix ?_
       refine w_var (oQ_in rfl ?_)
       refine w_kst ?_
       refine vT_in rfl ⟨rfl, oQ_in rfl ?_⟩
       refine wIx_2 rfl (v := .pt 10 (some 0)) rfl ?_
       refine vPt_in rfl ⟨⟨_, rfl⟩, ?_⟩
       refine w_kst ?_
       replace h41 := bnd h41
       obtain ⟨x73, g74, h41⟩ := h41
       obtain ⟨k75, rfl⟩ := appG_some g74
       refine oQ_in rfl ⟨rfl, oQ_in rfl ⟨_, appT_fl (e := D.int) (l := r58) (x := 7) k75, oQ_in rfl ?_⟩⟩
       refine nxe (ρ2 := [.ow (T.fz (D.list (v_script.map D.int))), .ow (T.fz (D.int y9.1)), .ow (T.fz (D.int y9.2)), .ow (T.fl (r51.2.map D.int)), .ow (T.fz (D.int y31)), .ow (T.fz (D.int r43.1)), .ow (T.fz (D.int 200)), .ow (T.fz (D.list (r51.1.map D.int))), .ow (T.fz (D.str ((D.list (r51.1.map D.int)).toPy.shown))), .ow (T.fz (D.list (r56.map D.int))), .ow (T.lst [(T.fl ((r58 ++ [7]).map D.int)), (T.fl (r60.map D.int))]), .no]) rfl ?_
       refine ks_ite ?_
       refine wt_cmp ?_
       refine w_call ?_
       refine ws_cons ?_
       refine w_fzvK ?_
       refine w_var (oQ_in rfl ?_)
       refine fzk_fz (d := (D.int r43.1)) ?_
       refine ws_cons ?_
       refine w_fzvK ?_
       refine w_var (oQ_in rfl ?_)
       refine fzk_fz (d := (D.list (r51.1.map D.int))) ?_
       refine ws_nil ?_
       refine ⟨rfl, rfl, ?_⟩
       refine oQ_in rfl ?_
       replace h41 := bnd h41
       obtain ⟨r76, g77, h41⟩ := h41
       have mg77 := m_lots_heard g77
       refine call_g (ρ2 := [.ow (T.fz (D.list (v_script.map D.int))), .ow (T.fz (D.int y9.1)), .ow (T.fz (D.int y9.2)), .ow (T.fl (r51.2.map D.int)), .ow (T.fz (D.int y31)), .ow (T.fz (D.int r43.1)), .ow (T.fz (D.int 200)), .ow (T.fz (D.list (r51.1.map D.int))), .ow (T.fz (D.str ((D.list (r51.1.map D.int)).toPy.shown))), .ow (T.fz (D.list (r56.map D.int))), .ow (T.lst [(T.fl ((r58 ++ [7]).map D.int)), (T.fl (r60.map D.int))]), .no]) (.ow <| .ow <| .ow <| .ow <| .ow <| .ow <| .ow <| .ow <| .ow <| .ow <| .ow <| .no <| .nil) rfl (argT_fz (argT_fz argT_nil)) mg77 rfl rfl rfl ?_
       refine w_var (oQ_in rfl ?_)
       refine ⟨rfl, oQ_in rfl (oQ_in rfl ?_)⟩
       replace h41 := bnd h41
       obtain ⟨x78, g79, h41⟩ := h41
       by_cases c80 : ¬ x78 = true
       ·replace h41 := ift c80 h41
        refine wCmp_inN_t (cmp_eq (fl_toD (r76.map D.int)) rfl g79) c80 ?_
        refine ⟨fun _ => ?_, fun z => absurd z (by decide)⟩
        refine ks_cons ?_
        refine wp_ret ?_
        refine w_kst ?_
        refine oQ_in rfl ?_
        obtain rfl := Option.some.inj h41
        refine seqK_rt ?_
        refine seqK_rt ?_
        exact lpR_rt (ret_in rfl rfl)
       ·replace h41 := iff_ c80 h41
        refine wCmp_inN_f (cmp_eq (fl_toD (r76.map D.int)) rfl g79) c80 ?_
        refine ⟨fun z => absurd z (by decide), fun _ => ?_⟩
        refine ks_nil ?_
        refine nxe (ρ2 := [.ow (T.fz (D.list (v_script.map D.int))), .ow (T.fz (D.int y9.1)), .ow (T.fz (D.int y9.2)), .ow (T.fl (r51.2.map D.int)), .ow (T.fz (D.int y31)), .ow (T.fz (D.int r43.1)), .ow (T.fz (D.int 200)), .ow (T.fz (D.list (r51.1.map D.int))), .ow (T.fz (D.str ((D.list (r51.1.map D.int)).toPy.shown))), .ow (T.fz (D.list (r56.map D.int))), .ow (T.lst [(T.fl ((r58 ++ [7]).map D.int)), (T.fl (r60.map D.int))]), .no]) rfl ?_
        refine ks_nil ?_
        obtain rfl := Option.some.inj h41
        exact lpR_nx ⟨_, _, _, _, _, _, _, rfl, Free.ow, Free.ow, Free.ow, Free.ow, Free.ow, Free.ow, Free.ow⟩
    ·replace e46 := iff_ c50 e46
     refine wCmp_inN_f (cmp_eq rfl (fl_toD (([]).map D.int)) g49) c50 ?_
     refine ⟨fun z => absurd z (by decide), fun _ => ?_⟩
     refine w_call ?_
     refine ws_cons ?_
     refine w_var (oQ_in rfl ?_)
     refine ws_cons ?_
     refine w_fzvK ?_
     refine w_ix ?_
     refine w_list ?_
     refine ws_cons ?_
     refine w_kst ?_
     refine ws_cons ?_
     refine w_kst ?_
     refine ws_nil ?_
     refine ⟨rfl, rfl, ?_⟩
     refine oQ_in rfl ?_
     refine w_blt ?_
     refine ws_cons ?_
     refine w_cmp ?_
     refine w_var (oQ_in rfl ?_)
     refine w_list ?_
     refine ws_nil ?_
     skip
     refine oQ_in rfl ?_
     refine ⟨rfl, oQ_in rfl (oQ_in rfl ?_)⟩
     replace e46 := bnd e46
     obtain ⟨x81, g82, e46⟩ := e46
     refine wCmp_in (cmp_ne rfl (fl_toD (([]).map D.int)) g82) ?_
     refine ws_nil ?_
     refine ⟨rfl, ?_⟩
     refine oQ_in rfl ?_
     refine wl_intb ?_
     refine vT_in rfl ⟨rfl, oQ_in rfl ?_⟩
     replace e46 := bnd e46
     obtain ⟨x83, g84, e46⟩ := e46
     refine wIx_2 rfl (ixVal_flT (e := D.int) (l := [(7 : Int), 31]) (x := x83) g84) ?_
     refine fzk_fz (d := (D.int x83)) ?_
     refine ws_nil ?_
     refine ⟨rfl, rfl, ?_⟩
     refine oQ_in rfl ?_
     replace e46 := bnd e46
     obtain ⟨r85, g86, e46⟩ := e46
     have mg86 := m__law_draw g86
     refine call_g (ρ2 := [.ow (T.fz (D.list (v_script.map D.int))), .ow (T.fz (D.int y9.1)), .ow (T.fz (D.int y9.2)), .ow (T.fl (r85.2.map D.int)), .ow (T.fz (D.int y31)), .ow (T.fz (D.int r43.1)), s36, s37, s38, s39, s40, .no]) (.ow <| .ow <| .ow <| .ow <| .ow <| .ow <| .fr q36 <| .fr q37 <| .fr q38 <| .fr q39 <| .fr q40 <| .no <| .nil) rfl (argT_io rfl (argT_fz argT_nil)) mg86 rfl rfl rfl ?_
     obtain rfl := Option.some.inj e46
     refine fzk_fz (d := (D.int r85.1)) ?_
     refine set_in (ρ2 := [.ow (T.fz (D.list (v_script.map D.int))), .ow (T.fz (D.int y9.1)), .ow (T.fz (D.int y9.2)), .ow (T.fl (r85.2.map D.int)), .ow (T.fz (D.int y31)), .ow (T.fz (D.int r43.1)), .ow (T.fz (D.int r85.1)), s37, s38, s39, s40, .no]) (.ow <| .ow <| .ow <| .ow <| .ow <| .ow <| .fr q36 <| .fr q37 <| .fr q38 <| .fr q39 <| .fr q40 <| .no <| .nil) rfl q36 rfl ?_
     refine nxe (ρ2 := [.ow (T.fz (D.list (v_script.map D.int))), .ow (T.fz (D.int y9.1)), .ow (T.fz (D.int y9.2)), .ow (T.fl (r85.2.map D.int)), .ow (T.fz (D.int y31)), .ow (T.fz (D.int r43.1)), .ow (T.fz (D.int r85.1)), s37, s38, s39, s40, .no]) rfl ?_
     refine ks_cons ?_
     refine wp_set ?_
     refine w_fzvK ?_
     refine w_call ?_
     refine ws_cons ?_
     refine w_var (oQ_in rfl ?_)
     refine ws_cons ?_
     refine w_fzvK ?_
     refine w_var (oQ_in rfl ?_)
     refine fzk_fz (d := (D.int r43.1)) ?_
     refine ws_cons ?_
     refine w_fzvK ?_
     refine w_var (oQ_in rfl ?_)
     refine fzk_fz (d := (D.int r85.1)) ?_
     refine ws_nil ?_
     refine ⟨rfl, rfl, rfl, ?_⟩
     refine oQ_in rfl ?_
     replace h41 := bnd h41
     obtain ⟨r87, g88, h41⟩ := h41
     have mg88 := m__law_any g88
     refine call_g (ρ2 := [.ow (T.fz (D.list (v_script.map D.int))), .ow (T.fz (D.int y9.1)), .ow (T.fz (D.int y9.2)), .ow (T.fl (r87.2.map D.int)), .ow (T.fz (D.int y31)), .ow (T.fz (D.int r43.1)), .ow (T.fz (D.int r85.1)), s37, s38, s39, s40, .no]) (.ow <| .ow <| .ow <| .ow <| .ow <| .ow <| .ow <| .fr q37 <| .fr q38 <| .fr q39 <| .fr q40 <| .no <| .nil) rfl (argT_io rfl (argT_fz (argT_fz argT_nil))) mg88 rfl rfl rfl ?_
     refine fzk_fz (d := (D.list (r87.1.map D.int))) ?_
     refine set_in (ρ2 := [.ow (T.fz (D.list (v_script.map D.int))), .ow (T.fz (D.int y9.1)), .ow (T.fz (D.int y9.2)), .ow (T.fl (r87.2.map D.int)), .ow (T.fz (D.int y31)), .ow (T.fz (D.int r43.1)), .ow (T.fz (D.int r85.1)), .ow (T.fz (D.list (r87.1.map D.int))), s38, s39, s40, .no]) (.ow <| .ow <| .ow <| .ow <| .ow <| .ow <| .ow <| .fr q37 <| .fr q38 <| .fr q39 <| .fr q40 <| .no <| .nil) rfl q37 rfl ?_
     refine nxe (ρ2 := [.ow (T.fz (D.list (v_script.map D.int))), .ow (T.fz (D.int y9.1)), .ow (T.fz (D.int y9.2)), .ow (T.fl (r87.2.map D.int)), .ow (T.fz (D.int y31)), .ow (T.fz (D.int r43.1)), .ow (T.fz (D.int r85.1)), .ow (T.fz (D.list (r87.1.map D.int))), s38, s39, s40, .no]) rfl ?_
     refine ks_cons ?_
     refine wp_par ?_
     refine ws_cons ?_
     refine w_blt ?_
     refine ws_cons ?_
     refine w_var (oQ_in rfl ?_)
     refine ws_nil ?_
     refine ⟨rfl, ?_⟩
     refine oQ_in rfl ?_
     replace h41 := bnd h41
     obtain ⟨x89, g90, h41⟩ := h41
     obtain ⟨k91, rfl⟩ := reprG_some g90
     refine wl_any (repr_g (d := (D.list (r87.1.map D.int))) rfl k91) ?_
     refine ws_cons ?_
     refine w_fzvK ?_
     refine w_call ?_
     refine ws_cons ?_
     refine w_fzvK ?_
     refine w_var (oQ_in rfl ?_)
     refine fzk_fz (d := (D.int r43.1)) ?_
     refine ws_cons ?_
     refine w_fzvK ?_
     refine w_var (oQ_in rfl ?_)
     refine fzk_fz (d := (D.list (r87.1.map D.int))) ?_
     refine ws_nil ?_
     refine ⟨rfl, rfl, ?_⟩
     refine oQ_in rfl ?_
     replace h41 := bnd h41
     obtain ⟨r92, g93, h41⟩ := h41
     have mg93 := m__law_due g93
     refine call_g (ρ2 := [.ow (T.fz (D.list (v_script.map D.int))), .ow (T.fz (D.int y9.1)), .ow (T.fz (D.int y9.2)), .ow (T.fl (r87.2.map D.int)), .ow (T.fz (D.int y31)), .ow (T.fz (D.int r43.1)), .ow (T.fz (D.int r85.1)), .ow (T.fz (D.list (r87.1.map D.int))), s38, s39, s40, .no]) (.ow <| .ow <| .ow <| .ow <| .ow <| .ow <| .ow <| .ow <| .fr q38 <| .fr q39 <| .fr q40 <| .no <| .nil) rfl (argT_fz (argT_fz argT_nil)) mg93 rfl rfl rfl ?_
     refine fzk_fz (d := (D.list (r92.map D.int))) ?_
     refine ws_nil ?_
     refine ⟨rfl, rfl, ?_⟩
     refine ⟨rfl, ?_⟩
     refine bvs_cons (ρ2 := [.ow (T.fz (D.list (v_script.map D.int))), .ow (T.fz (D.int y9.1)), .ow (T.fz (D.int y9.2)), .ow (T.fl (r87.2.map D.int)), .ow (T.fz (D.int y31)), .ow (T.fz (D.int r43.1)), .ow (T.fz (D.int r85.1)), .ow (T.fz (D.list (r87.1.map D.int))), .ow (T.fz (D.str ((D.list (r87.1.map D.int)).toPy.shown))), s39, s40, .no]) (.ow <| .ow <| .ow <| .ow <| .ow <| .ow <| .ow <| .ow <| .fr q38 <| .fr q39 <| .fr q40 <| .no <| .nil) rfl q38 rfl ?_
     refine bvs_cons (ρ2 := [.ow (T.fz (D.list (v_script.map D.int))), .ow (T.fz (D.int y9.1)), .ow (T.fz (D.int y9.2)), .ow (T.fl (r87.2.map D.int)), .ow (T.fz (D.int y31)), .ow (T.fz (D.int r43.1)), .ow (T.fz (D.int r85.1)), .ow (T.fz (D.list (r87.1.map D.int))), .ow (T.fz (D.str ((D.list (r87.1.map D.int)).toPy.shown))), .ow (T.fz (D.list (r92.map D.int))), s40, .no]) (.ow <| .ow <| .ow <| .ow <| .ow <| .ow <| .ow <| .ow <| .ow <| .fr q39 <| .fr q40 <| .no <| .nil) rfl q39 rfl ?_
     refine bvs_nil ?_
     refine nxe (ρ2 := [.ow (T.fz (D.list (v_script.map D.int))), .ow (T.fz (D.int y9.1)), .ow (T.fz (D.int y9.2)), .ow (T.fl (r87.2.map D.int)), .ow (T.fz (D.int y31)), .ow (T.fz (D.int r43.1)), .ow (T.fz (D.int r85.1)), .ow (T.fz (D.list (r87.1.map D.int))), .ow (T.fz (D.str ((D.list (r87.1.map D.int)).toPy.shown))), .ow (T.fz (D.list (r92.map D.int))), s40, .no]) rfl ?_
     refine ks_cons ?_
     refine wp_set ?_
     refine w_list ?_
     refine ws_cons ?_
     refine w_call ?_
     refine ws_cons ?_
     refine w_fzvK ?_
     refine w_var (oQ_in rfl ?_)
     refine fzk_fz (d := (D.int r43.1)) ?_
     refine ws_cons ?_
     refine w_fzvK ?_
     refine w_var (oQ_in rfl ?_)
     refine fzk_fz (d := (D.list (r87.1.map D.int))) ?_
     refine ws_nil ?_
     refine ⟨rfl, rfl, ?_⟩
     refine oQ_in rfl ?_
     replace h41 := bnd h41
     obtain ⟨r94, g95, h41⟩ := h41
     have mg95 := m_lots_heard g95
     refine call_g (ρ2 := [.ow (T.fz (D.list (v_script.map D.int))), .ow (T.fz (D.int y9.1)), .ow (T.fz (D.int y9.2)), .ow (T.fl (r87.2.map D.int)), .ow (T.fz (D.int y31)), .ow (T.fz (D.int r43.1)), .ow (T.fz (D.int r85.1)), .ow (T.fz (D.list (r87.1.map D.int))), .ow (T.fz (D.str ((D.list (r87.1.map D.int)).toPy.shown))), .ow (T.fz (D.list (r92.map D.int))), s40, .no]) (.ow <| .ow <| .ow <| .ow <| .ow <| .ow <| .ow <| .ow <| .ow <| .ow <| .fr q40 <| .no <| .nil) rfl (argT_fz (argT_fz argT_nil)) mg95 rfl rfl rfl ?_
     refine ws_cons ?_
     refine w_callk ?_
     refine ws_cons ?_
     refine w_fzvK ?_
     refine w_var (oQ_in rfl ?_)
     refine fzk_fz (d := (D.list (r87.1.map D.int))) ?_
     refine ws_cons ?_
     refine w_fzvK ?_
     refine w_var (oQ_in rfl ?_)
     refine fzk_fz (d := (D.int r43.1)) ?_
     refine ws_nil ?_
     refine ⟨rfl, rfl, ?_⟩
     refine oQ_in rfl ?_
     refine oQ_in rfl ?_
     replace h41 := bnd h41
     obtain ⟨r96, g97, h41⟩ := h41
     have mg97 := m_lots_heard g97
     refine call_g (ρ2 := [.ow (T.fz (D.list (v_script.map D.int))), .ow (T.fz (D.int y9.1)), .ow (T.fz (D.int y9.2)), .ow (T.fl (r87.2.map D.int)), .ow (T.fz (D.int y31)), .ow (T.fz (D.int r43.1)), .ow (T.fz (D.int r85.1)), .ow (T.fz (D.list (r87.1.map D.int))), .ow (T.fz (D.str ((D.list (r87.1.map D.int)).toPy.shown))), .ow (T.fz (D.list (r92.map D.int))), s40, .no]) (.ow <| .ow <| .ow <| .ow <| .ow <| .ow <| .ow <| .ow <| .ow <| .ow <| .fr q40 <| .no <| .nil) rfl (argT_fz (argT_fz argT_nil)) mg97 rfl rfl rfl ?_
     refine ws_nil ?_
     refine ⟨rfl, rfl, ?_⟩
     refine oQ_in rfl ?_
     refine set_in (ρ2 := [.ow (T.fz (D.list (v_script.map D.int))), .ow (T.fz (D.int y9.1)), .ow (T.fz (D.int y9.2)), .ow (T.fl (r87.2.map D.int)), .ow (T.fz (D.int y31)), .ow (T.fz (D.int r43.1)), .ow (T.fz (D.int r85.1)), .ow (T.fz (D.list (r87.1.map D.int))), .ow (T.fz (D.str ((D.list (r87.1.map D.int)).toPy.shown))), .ow (T.fz (D.list (r92.map D.int))), .ow (T.lst [(T.fl (r94.map D.int)), (T.fl (r96.map D.int))]), .no]) (.ow <| .ow <| .ow <| .ow <| .ow <| .ow <| .ow <| .ow <| .ow <| .ow <| .fr q40 <| .no <| .nil) rfl q40 rfl ?_
     refine nxe (ρ2 := [.ow (T.fz (D.list (v_script.map D.int))), .ow (T.fz (D.int y9.1)), .ow (T.fz (D.int y9.2)), .ow (T.fl (r87.2.map D.int)), .ow (T.fz (D.int y31)), .ow (T.fz (D.int r43.1)), .ow (T.fz (D.int r85.1)), .ow (T.fz (D.list (r87.1.map D.int))), .ow (T.fz (D.str ((D.list (r87.1.map D.int)).toPy.shown))), .ow (T.fz (D.list (r92.map D.int))), .ow (T.lst [(T.fl (r94.map D.int)), (T.fl (r96.map D.int))]), .no]) rfl ?_
     refine ks_ite ?_
     refine wt_bool ?_
     refine wb_cons ?_
     refine wt_cmp ?_
     refine w_blt ?_
     refine ws_cons ?_
     refine w_var (oQ_in rfl ?_)
     refine ws_nil ?_
     refine ⟨rfl, ?_⟩
     refine oQ_in rfl ?_
     replace h41 := bnd h41
     obtain ⟨x98, g99, h41⟩ := h41
     obtain ⟨k100, rfl⟩ := reprG_some g99
     refine wl_any (repr_g (d := (D.list [(D.list (r94.map D.int)), (D.list (r96.map D.int))])) (by simp only [T.toD, T.toDs, fl_toD]) k100) ?_
     refine w_blt ?_
     refine ws_cons ?_
     refine w_list ?_
     refine ws_cons ?_
     refine w_fzvK ?_
     refine w_var (oQ_in rfl ?_)
     refine fzk_fz (d := (D.list (r92.map D.int))) ?_
     refine ws_cons ?_
     refine w_fzvK ?_
     refine w_var (oQ_in rfl ?_)
     refine fzk_fz (d := (D.list (r92.map D.int))) ?_
     refine ws_nil ?_
     refine ⟨rfl, rfl, ?_⟩
     refine oQ_in rfl ?_
     refine ws_nil ?_
     refine ⟨rfl, ?_⟩
     refine oQ_in rfl ?_
     replace h41 := bnd h41
     obtain ⟨x101, g102, h41⟩ := h41
     obtain ⟨k103, rfl⟩ := reprG_some g102
     refine wl_any (repr_g (d := (D.list (([r92, r92]).map (eL D.int)))) (fl_toD (([r92, r92]).map (eL D.int))) k103) ?_
     refine ⟨rfl, oQ_in rfl (oQ_in rfl ?_)⟩
     by_cases c104 : ¬ (D.list [(D.list (r94.map D.int)), (D.list (r96.map D.int))]).toPy.shown = (D.list (([r92, r92]).map (eL D.int))).toPy.shown
     ·replace h41 := ift c104 h41
      refine wCmp_pN_t (eq_str _ _) c104 ?_
      refine ⟨fun z => absurd z (by decide), fun _ => ?_⟩
      refine ⟨fun _ => ?_, fun z => absurd z (by decide)⟩
      refine ks_cons ?_
      refine wp_ret ?_
      refine w_kst ?_
      refine oQ_in rfl ?_
      obtain rfl := Option.some.inj h41
      refine seqK_rt ?_
      refine seqK_rt ?_
      exact lpR_rt (ret_in rfl rfl)
     ·replace h41 := iff_ c104 h41
      refine wCmp_pN_f (eq_str _ _) c104 ?_
      refine ⟨fun _ => ?_, fun z => absurd z (by decide)⟩
      refine wb_one ?_
      refine wt_cmp ?_
      refine w_blt ?_
      refine ws_cons ?_
      refine w_var (oQ_in rfl ?_)
      refine ws_nil ?_
      refine ⟨rfl, ?_⟩
      refine oQ_in rfl ?_
      replace h41 := bnd h41
      obtain ⟨x105, g106, h41⟩ := h41
      obtain ⟨k107, rfl⟩ := reprG_some g106
      refine wl_any (repr_g (d := (D.list (r87.1.map D.int))) rfl k107) ?_
      refine w_var (oQ_in rfl ?_)
      refine ⟨rfl, oQ_in rfl (oQ_in rfl ?_)⟩
      by_cases c108 : ¬ (D.list (r87.1.map D.int)).toPy.shown = (D.list (r87.1.map D.int)).toPy.shown
      ·replace h41 := ift c108 h41
       refine wCmp_pN_t (eq_str _ _) c108 ?_
       refine ⟨fun _ => ?_, fun z => absurd z (by decide)⟩
       refine ks_cons ?_
       refine wp_ret ?_
       refine w_kst ?_
       refine oQ_in rfl ?_
       obtain rfl := Option.some.inj h41
       refine seqK_rt ?_
       refine seqK_rt ?_
       exact lpR_rt (ret_in rfl rfl)
      ·replace h41 := iff_ c108 h41
       refine wCmp_pN_f (eq_str _ _) c108 ?_
       refine ⟨fun z => absurd z (by decide), fun _ => ?_⟩
       refine ks_nil ?_
       refine nxe (ρ2 := [.ow (T.fz (D.list (v_script.map D.int))), .ow (T.fz (D.int y9.1)), .ow (T.fz (D.int y9.2)), .ow (T.fl (r87.2.map D.int)), .ow (T.fz (D.int y31)), .ow (T.fz (D.int r43.1)), .ow (T.fz (D.int r85.1)), .ow (T.fz (D.list (r87.1.map D.int))), .ow (T.fz (D.str ((D.list (r87.1.map D.int)).toPy.shown))), .ow (T.fz (D.list (r92.map D.int))), .ow (T.lst [(T.fl (r94.map D.int)), (T.fl (r96.map D.int))]), .no]) rfl ?_
       refine ks_cons ?_
       refine wp_app ?_
       refine w_ix ?_
       refine w_var (oQ_in rfl ?_)
       refine w_kst ?_
       refine vT_in rfl ⟨rfl, oQ_in rfl ?_⟩
       refine wIx_2 rfl (v := .pt 10 (some 0)) rfl ?_
       refine vPt_in rfl ⟨⟨_, rfl⟩, ?_⟩
       refine w_kst ?_
       replace h41 := bnd h41
       obtain ⟨x109, g110, h41⟩ := h41
       obtain ⟨k111, rfl⟩ := appG_some g110
       refine oQ_in rfl ⟨rfl, oQ_in rfl ⟨_, appT_fl (e := D.int) (l := r94) (x := 7) k111, oQ_in rfl ?_⟩⟩
       refine nxe (ρ2 := [.ow (T.fz (D.list (v_script.map D.int))), .ow (T.fz (D.int y9.1)), .ow (T.fz (D.int y9.2)), .ow (T.fl (r87.2.map D.int)), .ow (T.fz (D.int y31)), .ow (T.fz (D.int r43.1)), .ow (T.fz (D.int r85.1)), .ow (T.fz (D.list (r87.1.map D.int))), .ow (T.fz (D.str ((D.list (r87.1.map D.int)).toPy.shown))), .ow (T.fz (D.list (r92.map D.int))), .ow (T.lst [(T.fl ((r94 ++ [7]).map D.int)), (T.fl (r96.map D.int))]), .no]) rfl ?_
       refine ks_ite ?_
       refine wt_cmp ?_
       refine w_call ?_
       refine ws_cons ?_
       refine w_fzvK ?_
       refine w_var (oQ_in rfl ?_)
       refine fzk_fz (d := (D.int r43.1)) ?_
       refine ws_cons ?_
       refine w_fzvK ?_
       refine w_var (oQ_in rfl ?_)
       refine fzk_fz (d := (D.list (r87.1.map D.int))) ?_
       refine ws_nil ?_
       refine ⟨rfl, rfl, ?_⟩
       refine oQ_in rfl ?_
       replace h41 := bnd h41
       obtain ⟨r112, g113, h41⟩ := h41
       have mg113 := m_lots_heard g113
       refine call_g (ρ2 := [.ow (T.fz (D.list (v_script.map D.int))), .ow (T.fz (D.int y9.1)), .ow (T.fz (D.int y9.2)), .ow (T.fl (r87.2.map D.int)), .ow (T.fz (D.int y31)), .ow (T.fz (D.int r43.1)), .ow (T.fz (D.int r85.1)), .ow (T.fz (D.list (r87.1.map D.int))), .ow (T.fz (D.str ((D.list (r87.1.map D.int)).toPy.shown))), .ow (T.fz (D.list (r92.map D.int))), .ow (T.lst [(T.fl ((r94 ++ [7]).map D.int)), (T.fl (r96.map D.int))]), .no]) (.ow <| .ow <| .ow <| .ow <| .ow <| .ow <| .ow <| .ow <| .ow <| .ow <| .ow <| .no <| .nil) rfl (argT_fz (argT_fz argT_nil)) mg113 rfl rfl rfl ?_
       refine w_var (oQ_in rfl ?_)
       refine ⟨rfl, oQ_in rfl (oQ_in rfl ?_)⟩
       replace h41 := bnd h41
       obtain ⟨x114, g115, h41⟩ := h41
       by_cases c116 : ¬ x114 = true
       ·replace h41 := ift c116 h41
        refine wCmp_inN_t (cmp_eq (fl_toD (r112.map D.int)) rfl g115) c116 ?_
        refine ⟨fun _ => ?_, fun z => absurd z (by decide)⟩
        refine ks_cons ?_
        refine wp_ret ?_
        refine w_kst ?_
        refine oQ_in rfl ?_
        obtain rfl := Option.some.inj h41
        refine seqK_rt ?_
        refine seqK_rt ?_
        exact lpR_rt (ret_in rfl rfl)
       ·replace h41 := iff_ c116 h41
        refine wCmp_inN_f (cmp_eq (fl_toD (r112.map D.int)) rfl g115) c116 ?_
        refine ⟨fun z => absurd z (by decide), fun _ => ?_⟩
        refine ks_nil ?_
        refine nxe (ρ2 := [.ow (T.fz (D.list (v_script.map D.int))), .ow (T.fz (D.int y9.1)), .ow (T.fz (D.int y9.2)), .ow (T.fl (r87.2.map D.int)), .ow (T.fz (D.int y31)), .ow (T.fz (D.int r43.1)), .ow (T.fz (D.int r85.1)), .ow (T.fz (D.list (r87.1.map D.int))), .ow (T.fz (D.str ((D.list (r87.1.map D.int)).toPy.shown))), .ow (T.fz (D.list (r92.map D.int))), .ow (T.lst [(T.fl ((r94 ++ [7]).map D.int)), (T.fl (r96.map D.int))]), .no]) rfl ?_
        refine ks_nil ?_
        obtain rfl := Option.some.inj h41
        exact lpR_nx ⟨_, _, _, _, _, _, _, rfl, Free.ow, Free.ow, Free.ow, Free.ow, Free.ow, Free.ow, Free.ow⟩
   ·replace e46 := iff_ c47 e46
    refine wc_eq_f c47 ?_
    refine ⟨fun z => absurd z (by decide), fun _ => ?_⟩
    refine ⟨fun z => absurd z (by decide), fun _ => ?_⟩
    refine w_call ?_
    refine ws_cons ?_
    refine w_var (oQ_in rfl ?_)
    refine ws_cons ?_
    refine w_fzvK ?_
    refine w_ix ?_
    refine w_list ?_
    refine ws_cons ?_
    refine w_kst ?_
    refine ws_cons ?_
    refine w_kst ?_
    refine ws_nil ?_
    refine ⟨rfl, rfl, ?_⟩
    refine oQ_in rfl ?_
    refine w_blt ?_
    refine ws_cons ?_
    refine w_cmp ?_
    refine w_var (oQ_in rfl ?_)
    refine w_list ?_
    refine ws_nil ?_
    skip
    refine oQ_in rfl ?_
    refine ⟨rfl, oQ_in rfl (oQ_in rfl ?_)⟩
    replace e46 := bnd e46
    obtain ⟨x117, g118, e46⟩ := e46
    refine wCmp_in (cmp_ne rfl (fl_toD (([]).map D.int)) g118) ?_
    refine ws_nil ?_
    refine ⟨rfl, ?_⟩
    refine oQ_in rfl ?_
    refine wl_intb ?_
    refine vT_in rfl ⟨rfl, oQ_in rfl ?_⟩
    replace e46 := bnd e46
    obtain ⟨x119, g120, e46⟩ := e46
    refine wIx_2 rfl (ixVal_flT (e := D.int) (l := [(7 : Int), 31]) (x := x119) g120) ?_
    refine fzk_fz (d := (D.int x119)) ?_
    refine ws_nil ?_
    refine ⟨rfl, rfl, ?_⟩
    refine oQ_in rfl ?_
    replace e46 := bnd e46
    obtain ⟨r121, g122, e46⟩ := e46
    have mg122 := m__law_draw g122
    refine call_g (ρ2 := [.ow (T.fz (D.list (v_script.map D.int))), .ow (T.fz (D.int y9.1)), .ow (T.fz (D.int y9.2)), .ow (T.fl (r121.2.map D.int)), .ow (T.fz (D.int y31)), .ow (T.fz (D.int r43.1)), s36, s37, s38, s39, s40, .no]) (.ow <| .ow <| .ow <| .ow <| .ow <| .ow <| .fr q36 <| .fr q37 <| .fr q38 <| .fr q39 <| .fr q40 <| .no <| .nil) rfl (argT_io rfl (argT_fz argT_nil)) mg122 rfl rfl rfl ?_
    obtain rfl := Option.some.inj e46
    refine fzk_fz (d := (D.int r121.1)) ?_
    refine set_in (ρ2 := [.ow (T.fz (D.list (v_script.map D.int))), .ow (T.fz (D.int y9.1)), .ow (T.fz (D.int y9.2)), .ow (T.fl (r121.2.map D.int)), .ow (T.fz (D.int y31)), .ow (T.fz (D.int r43.1)), .ow (T.fz (D.int r121.1)), s37, s38, s39, s40, .no]) (.ow <| .ow <| .ow <| .ow <| .ow <| .ow <| .fr q36 <| .fr q37 <| .fr q38 <| .fr q39 <| .fr q40 <| .no <| .nil) rfl q36 rfl ?_
    refine nxe (ρ2 := [.ow (T.fz (D.list (v_script.map D.int))), .ow (T.fz (D.int y9.1)), .ow (T.fz (D.int y9.2)), .ow (T.fl (r121.2.map D.int)), .ow (T.fz (D.int y31)), .ow (T.fz (D.int r43.1)), .ow (T.fz (D.int r121.1)), s37, s38, s39, s40, .no]) rfl ?_
    refine ks_cons ?_
    refine wp_set ?_
    refine w_fzvK ?_
    refine w_call ?_
    refine ws_cons ?_
    refine w_var (oQ_in rfl ?_)
    refine ws_cons ?_
    refine w_fzvK ?_
    refine w_var (oQ_in rfl ?_)
    refine fzk_fz (d := (D.int r43.1)) ?_
    refine ws_cons ?_
    refine w_fzvK ?_
    refine w_var (oQ_in rfl ?_)
    refine fzk_fz (d := (D.int r121.1)) ?_
    refine ws_nil ?_
    refine ⟨rfl, rfl, rfl, ?_⟩
    refine oQ_in rfl ?_
    replace h41 := bnd h41
    obtain ⟨r123, g124, h41⟩ := h41
    have mg124 := m__law_any g124
    refine call_g (ρ2 := [.ow (T.fz (D.list (v_script.map D.int))), .ow (T.fz (D.int y9.1)), .ow (T.fz (D.int y9.2)), .ow (T.fl (r123.2.map D.int)), .ow (T.fz (D.int y31)), .ow (T.fz (D.int r43.1)), .ow (T.fz (D.int r121.1)), s37, s38, s39, s40, .no]) (.ow <| .ow <| .ow <| .ow <| .ow <| .ow <| .ow <| .fr q37 <| .fr q38 <| .fr q39 <| .fr q40 <| .no <| .nil) rfl (argT_io rfl (argT_fz (argT_fz argT_nil))) mg124 rfl rfl rfl ?_
    refine fzk_fz (d := (D.list (r123.1.map D.int))) ?_
    refine set_in (ρ2 := [.ow (T.fz (D.list (v_script.map D.int))), .ow (T.fz (D.int y9.1)), .ow (T.fz (D.int y9.2)), .ow (T.fl (r123.2.map D.int)), .ow (T.fz (D.int y31)), .ow (T.fz (D.int r43.1)), .ow (T.fz (D.int r121.1)), .ow (T.fz (D.list (r123.1.map D.int))), s38, s39, s40, .no]) (.ow <| .ow <| .ow <| .ow <| .ow <| .ow <| .ow <| .fr q37 <| .fr q38 <| .fr q39 <| .fr q40 <| .no <| .nil) rfl q37 rfl ?_
    refine nxe (ρ2 := [.ow (T.fz (D.list (v_script.map D.int))), .ow (T.fz (D.int y9.1)), .ow (T.fz (D.int y9.2)), .ow (T.fl (r123.2.map D.int)), .ow (T.fz (D.int y31)), .ow (T.fz (D.int r43.1)), .ow (T.fz (D.int r121.1)), .ow (T.fz (D.list (r123.1.map D.int))), s38, s39, s40, .no]) rfl ?_
    refine ks_cons ?_
    refine wp_par ?_
    refine ws_cons ?_
    refine w_blt ?_
    refine ws_cons ?_
    refine w_var (oQ_in rfl ?_)
    refine ws_nil ?_
    refine ⟨rfl, ?_⟩
    refine oQ_in rfl ?_
    replace h41 := bnd h41
    obtain ⟨x125, g126, h41⟩ := h41
    obtain ⟨k127, rfl⟩ := reprG_some g126
    refine wl_any (repr_g (d := (D.list (r123.1.map D.int))) rfl k127) ?_
    refine ws_cons ?_
    refine w_fzvK ?_
    refine w_call ?_
    refine ws_cons ?_
    refine w_fzvK ?_
    refine w_var (oQ_in rfl ?_)
    refine fzk_fz (d := (D.int r43.1)) ?_
    refine ws_cons ?_
    refine w_fzvK ?_
    refine w_var (oQ_in rfl ?_)
    refine fzk_fz (d := (D.list (r123.1.map D.int))) ?_
    refine ws_nil ?_
    refine ⟨rfl, rfl, ?_⟩
    refine oQ_in rfl ?_
    replace h41 := bnd h41
    obtain ⟨r128, g129, h41⟩ := h41
    have mg129 := m__law_due g129
    refine call_g (ρ2 := [.ow (T.fz (D.list (v_script.map D.int))), .ow (T.fz (D.int y9.1)), .ow (T.fz (D.int y9.2)), .ow (T.fl (r123.2.map D.int)), .ow (T.fz (D.int y31)), .ow (T.fz (D.int r43.1)), .ow (T.fz (D.int r121.1)), .ow (T.fz (D.list (r123.1.map D.int))), s38, s39, s40, .no]) (.ow <| .ow <| .ow <| .ow <| .ow <| .ow <| .ow <| .ow <| .fr q38 <| .fr q39 <| .fr q40 <| .no <| .nil) rfl (argT_fz (argT_fz argT_nil)) mg129 rfl rfl rfl ?_
    refine fzk_fz (d := (D.list (r128.map D.int))) ?_
    refine ws_nil ?_
    refine ⟨rfl, rfl, ?_⟩
    refine ⟨rfl, ?_⟩
    refine bvs_cons (ρ2 := [.ow (T.fz (D.list (v_script.map D.int))), .ow (T.fz (D.int y9.1)), .ow (T.fz (D.int y9.2)), .ow (T.fl (r123.2.map D.int)), .ow (T.fz (D.int y31)), .ow (T.fz (D.int r43.1)), .ow (T.fz (D.int r121.1)), .ow (T.fz (D.list (r123.1.map D.int))), .ow (T.fz (D.str ((D.list (r123.1.map D.int)).toPy.shown))), s39, s40, .no]) (.ow <| .ow <| .ow <| .ow <| .ow <| .ow <| .ow <| .ow <| .fr q38 <| .fr q39 <| .fr q40 <| .no <| .nil) rfl q38 rfl ?_
    refine bvs_cons (ρ2 := [.ow (T.fz (D.list (v_script.map D.int))), .ow (T.fz (D.int y9.1)), .ow (T.fz (D.int y9.2)), .ow (T.fl (r123.2.map D.int)), .ow (T.fz (D.int y31)), .ow (T.fz (D.int r43.1)), .ow (T.fz (D.int r121.1)), .ow (T.fz (D.list (r123.1.map D.int))), .ow (T.fz (D.str ((D.list (r123.1.map D.int)).toPy.shown))), .ow (T.fz (D.list (r128.map D.int))), s40, .no]) (.ow <| .ow <| .ow <| .ow <| .ow <| .ow <| .ow <| .ow <| .ow <| .fr q39 <| .fr q40 <| .no <| .nil) rfl q39 rfl ?_
    refine bvs_nil ?_
    refine nxe (ρ2 := [.ow (T.fz (D.list (v_script.map D.int))), .ow (T.fz (D.int y9.1)), .ow (T.fz (D.int y9.2)), .ow (T.fl (r123.2.map D.int)), .ow (T.fz (D.int y31)), .ow (T.fz (D.int r43.1)), .ow (T.fz (D.int r121.1)), .ow (T.fz (D.list (r123.1.map D.int))), .ow (T.fz (D.str ((D.list (r123.1.map D.int)).toPy.shown))), .ow (T.fz (D.list (r128.map D.int))), s40, .no]) rfl ?_
    refine ks_cons ?_
    refine wp_set ?_
    refine w_list ?_
    refine ws_cons ?_
    refine w_call ?_
    refine ws_cons ?_
    refine w_fzvK ?_
    refine w_var (oQ_in rfl ?_)
    refine fzk_fz (d := (D.int r43.1)) ?_
    refine ws_cons ?_
    refine w_fzvK ?_
    refine w_var (oQ_in rfl ?_)
    refine fzk_fz (d := (D.list (r123.1.map D.int))) ?_
    refine ws_nil ?_
    refine ⟨rfl, rfl, ?_⟩
    refine oQ_in rfl ?_
    replace h41 := bnd h41
    obtain ⟨r130, g131, h41⟩ := h41
    have mg131 := m_lots_heard g131
    refine call_g (ρ2 := [.ow (T.fz (D.list (v_script.map D.int))), .ow (T.fz (D.int y9.1)), .ow (T.fz (D.int y9.2)), .ow (T.fl (r123.2.map D.int)), .ow (T.fz (D.int y31)), .ow (T.fz (D.int r43.1)), .ow (T.fz (D.int r121.1)), .ow (T.fz (D.list (r123.1.map D.int))), .ow (T.fz (D.str ((D.list (r123.1.map D.int)).toPy.shown))), .ow (T.fz (D.list (r128.map D.int))), s40, .no]) (.ow <| .ow <| .ow <| .ow <| .ow <| .ow <| .ow <| .ow <| .ow <| .ow <| .fr q40 <| .no <| .nil) rfl (argT_fz (argT_fz argT_nil)) mg131 rfl rfl rfl ?_
    refine ws_cons ?_
    refine w_callk ?_
    refine ws_cons ?_
    refine w_fzvK ?_
    refine w_var (oQ_in rfl ?_)
    refine fzk_fz (d := (D.list (r123.1.map D.int))) ?_
    refine ws_cons ?_
    refine w_fzvK ?_
    refine w_var (oQ_in rfl ?_)
    refine fzk_fz (d := (D.int r43.1)) ?_
    refine ws_nil ?_
    refine ⟨rfl, rfl, ?_⟩
    refine oQ_in rfl ?_
    refine oQ_in rfl ?_
    replace h41 := bnd h41
    obtain ⟨r132, g133, h41⟩ := h41
    have mg133 := m_lots_heard g133
    refine call_g (ρ2 := [.ow (T.fz (D.list (v_script.map D.int))), .ow (T.fz (D.int y9.1)), .ow (T.fz (D.int y9.2)), .ow (T.fl (r123.2.map D.int)), .ow (T.fz (D.int y31)), .ow (T.fz (D.int r43.1)), .ow (T.fz (D.int r121.1)), .ow (T.fz (D.list (r123.1.map D.int))), .ow (T.fz (D.str ((D.list (r123.1.map D.int)).toPy.shown))), .ow (T.fz (D.list (r128.map D.int))), s40, .no]) (.ow <| .ow <| .ow <| .ow <| .ow <| .ow <| .ow <| .ow <| .ow <| .ow <| .fr q40 <| .no <| .nil) rfl (argT_fz (argT_fz argT_nil)) mg133 rfl rfl rfl ?_
    refine ws_nil ?_
    refine ⟨rfl, rfl, ?_⟩
    refine oQ_in rfl ?_
    refine set_in (ρ2 := [.ow (T.fz (D.list (v_script.map D.int))), .ow (T.fz (D.int y9.1)), .ow (T.fz (D.int y9.2)), .ow (T.fl (r123.2.map D.int)), .ow (T.fz (D.int y31)), .ow (T.fz (D.int r43.1)), .ow (T.fz (D.int r121.1)), .ow (T.fz (D.list (r123.1.map D.int))), .ow (T.fz (D.str ((D.list (r123.1.map D.int)).toPy.shown))), .ow (T.fz (D.list (r128.map D.int))), .ow (T.lst [(T.fl (r130.map D.int)), (T.fl (r132.map D.int))]), .no]) (.ow <| .ow <| .ow <| .ow <| .ow <| .ow <| .ow <| .ow <| .ow <| .ow <| .fr q40 <| .no <| .nil) rfl q40 rfl ?_
    refine nxe (ρ2 := [.ow (T.fz (D.list (v_script.map D.int))), .ow (T.fz (D.int y9.1)), .ow (T.fz (D.int y9.2)), .ow (T.fl (r123.2.map D.int)), .ow (T.fz (D.int y31)), .ow (T.fz (D.int r43.1)), .ow (T.fz (D.int r121.1)), .ow (T.fz (D.list (r123.1.map D.int))), .ow (T.fz (D.str ((D.list (r123.1.map D.int)).toPy.shown))), .ow (T.fz (D.list (r128.map D.int))), .ow (T.lst [(T.fl (r130.map D.int)), (T.fl (r132.map D.int))]), .no]) rfl ?_
    refine ks_ite ?_
    refine wt_bool ?_
    refine wb_cons ?_
    refine wt_cmp ?_
    refine w_blt ?_
    refine ws_cons ?_
    refine w_var (oQ_in rfl ?_)
    refine ws_nil ?_
    refine ⟨rfl, ?_⟩
    refine oQ_in rfl ?_
    replace h41 := bnd h41
    obtain ⟨x134, g135, h41⟩ := h41
    obtain ⟨k136, rfl⟩ := reprG_some g135
    refine wl_any (repr_g (d := (D.list [(D.list (r130.map D.int)), (D.list (r132.map D.int))])) (by simp only [T.toD, T.toDs, fl_toD]) k136) ?_
    refine w_blt ?_
    refine ws_cons ?_
    refine w_list ?_
    refine ws_cons ?_
    refine w_fzvK ?_
    refine w_var (oQ_in rfl ?_)
    refine fzk_fz (d := (D.list (r128.map D.int))) ?_
    refine ws_cons ?_
    refine w_fzvK ?_
    refine w_var (oQ_in rfl ?_)
    refine fzk_fz (d := (D.list (r128.map D.int))) ?_
    refine ws_nil ?_
    refine ⟨rfl, rfl, ?_⟩
    refine oQ_in rfl ?_
    refine ws_nil ?_
    refine ⟨rfl, ?_⟩
    refine oQ_in rfl ?_
    replace h41 := bnd h41
    obtain ⟨x137, g138, h41⟩ := h41
    obtain ⟨k139, rfl⟩ := reprG_some g138
    refine wl_any (repr_g (d := (D.list (([r128, r128]).map (eL D.int)))) (fl_toD (([r128, r128]).map (eL D.int))) k139) ?_
    refine ⟨rfl, oQ_in rfl (oQ_in rfl ?_)⟩
    by_cases c140 : ¬ (D.list [(D.list (r130.map D.int)), (D.list (r132.map D.int))]).toPy.shown = (D.list (([r128, r128]).map (eL D.int))).toPy.shown
    ·replace h41 := ift c140 h41
     refine wCmp_pN_t (eq_str _ _) c140 ?_
     refine ⟨fun z => absurd z (by decide), fun _ => ?_⟩
     refine ⟨fun _ => ?_, fun z => absurd z (by decide)⟩
     refine ks_cons ?_
     refine wp_ret ?_
     refine w_kst ?_
     refine oQ_in rfl ?_
     obtain rfl := Option.some.inj h41
     refine seqK_rt ?_
     refine seqK_rt ?_
     exact lpR_rt (ret_in rfl rfl)
    ·replace h41 := iff_ c140 h41
     refine wCmp_pN_f (eq_str _ _) c140 ?_
     refine ⟨fun _ => ?_, fun z => absurd z (by decide)⟩
     refine wb_one ?_
     refine wt_cmp ?_
     refine w_blt ?_
     refine ws_cons ?_
     refine w_var (oQ_in rfl ?_)
     refine ws_nil ?_
     refine ⟨rfl, ?_⟩
     refine oQ_in rfl ?_
     replace h41 := bnd h41
     obtain ⟨x141, g142, h41⟩ := h41
     obtain ⟨k143, rfl⟩ := reprG_some g142
     refine wl_any (repr_g (d := (D.list (r123.1.map D.int))) rfl k143) ?_
     refine w_var (oQ_in rfl ?_)
     refine ⟨rfl, oQ_in rfl (oQ_in rfl ?_)⟩
     by_cases c144 : ¬ (D.list (r123.1.map D.int)).toPy.shown = (D.list (r123.1.map D.int)).toPy.shown
     ·replace h41 := ift c144 h41
      refine wCmp_pN_t (eq_str _ _) c144 ?_
      refine ⟨fun _ => ?_, fun z => absurd z (by decide)⟩
      refine ks_cons ?_
      refine wp_ret ?_
      refine w_kst ?_
      refine oQ_in rfl ?_
      obtain rfl := Option.some.inj h41
      refine seqK_rt ?_
      refine seqK_rt ?_
      exact lpR_rt (ret_in rfl rfl)
     ·replace h41 := iff_ c144 h41
      refine wCmp_pN_f (eq_str _ _) c144 ?_
      refine ⟨fun z => absurd z (by decide), fun _ => ?_⟩
      refine ks_nil ?_
      refine nxe (ρ2 := [.ow (T.fz (D.list (v_script.map D.int))), .ow (T.fz (D.int y9.1)), .ow (T.fz (D.int y9.2)), .ow (T.fl (r123.2.map D.int)), .ow (T.fz (D.int y31)), .ow (T.fz (D.int r43.1)), .ow (T.fz (D.int r121.1)), .ow (T.fz (D.list (r123.1.map D.int))), .ow (T.fz (D.str ((D.list (r123.1.map D.int)).toPy.shown))), .ow (T.fz (D.list (r128.map D.int))), .ow (T.lst [(T.fl (r130.map D.int)), (T.fl (r132.map D.int))]), .no]) rfl ?_
      refine ks_cons ?_
      refine wp_app ?_
      refine w_ix ?_
      refine w_var (oQ_in rfl ?_)
      refine w_kst ?_
      refine vT_in rfl ⟨rfl, oQ_in rfl ?_⟩
      refine wIx_2 rfl (v := .pt 10 (some 0)) rfl ?_
      refine vPt_in rfl ⟨⟨_, rfl⟩, ?_⟩
      refine w_kst ?_
      replace h41 := bnd h41
      obtain ⟨x145, g146, h41⟩ := h41
      obtain ⟨k147, rfl⟩ := appG_some g146
      refine oQ_in rfl ⟨rfl, oQ_in rfl ⟨_, appT_fl (e := D.int) (l := r130) (x := 7) k147, oQ_in rfl ?_⟩⟩
      refine nxe (ρ2 := [.ow (T.fz (D.list (v_script.map D.int))), .ow (T.fz (D.int y9.1)), .ow (T.fz (D.int y9.2)), .ow (T.fl (r123.2.map D.int)), .ow (T.fz (D.int y31)), .ow (T.fz (D.int r43.1)), .ow (T.fz (D.int r121.1)), .ow (T.fz (D.list (r123.1.map D.int))), .ow (T.fz (D.str ((D.list (r123.1.map D.int)).toPy.shown))), .ow (T.fz (D.list (r128.map D.int))), .ow (T.lst [(T.fl ((r130 ++ [7]).map D.int)), (T.fl (r132.map D.int))]), .no]) rfl ?_
      refine ks_ite ?_
      refine wt_cmp ?_
      refine w_call ?_
      refine ws_cons ?_
      refine w_fzvK ?_
      refine w_var (oQ_in rfl ?_)
      refine fzk_fz (d := (D.int r43.1)) ?_
      refine ws_cons ?_
      refine w_fzvK ?_
      refine w_var (oQ_in rfl ?_)
      refine fzk_fz (d := (D.list (r123.1.map D.int))) ?_
      refine ws_nil ?_
      refine ⟨rfl, rfl, ?_⟩
      refine oQ_in rfl ?_
      replace h41 := bnd h41
      obtain ⟨r148, g149, h41⟩ := h41
      have mg149 := m_lots_heard g149
      refine call_g (ρ2 := [.ow (T.fz (D.list (v_script.map D.int))), .ow (T.fz (D.int y9.1)), .ow (T.fz (D.int y9.2)), .ow (T.fl (r123.2.map D.int)), .ow (T.fz (D.int y31)), .ow (T.fz (D.int r43.1)), .ow (T.fz (D.int r121.1)), .ow (T.fz (D.list (r123.1.map D.int))), .ow (T.fz (D.str ((D.list (r123.1.map D.int)).toPy.shown))), .ow (T.fz (D.list (r128.map D.int))), .ow (T.lst [(T.fl ((r130 ++ [7]).map D.int)), (T.fl (r132.map D.int))]), .no]) (.ow <| .ow <| .ow <| .ow <| .ow <| .ow <| .ow <| .ow <| .ow <| .ow <| .ow <| .no <| .nil) rfl (argT_fz (argT_fz argT_nil)) mg149 rfl rfl rfl ?_
      refine w_var (oQ_in rfl ?_)
      refine ⟨rfl, oQ_in rfl (oQ_in rfl ?_)⟩
      replace h41 := bnd h41
      obtain ⟨x150, g151, h41⟩ := h41
      by_cases c152 : ¬ x150 = true
      ·replace h41 := ift c152 h41
       refine wCmp_inN_t (cmp_eq (fl_toD (r148.map D.int)) rfl g151) c152 ?_
       refine ⟨fun _ => ?_, fun z => absurd z (by decide)⟩
       refine ks_cons ?_
       refine wp_ret ?_
       refine w_kst ?_
       refine oQ_in rfl ?_
       obtain rfl := Option.some.inj h41
       refine seqK_rt ?_
       refine seqK_rt ?_
       exact lpR_rt (ret_in rfl rfl)
      ·replace h41 := iff_ c152 h41
       refine wCmp_inN_f (cmp_eq (fl_toD (r148.map D.int)) rfl g151) c152 ?_
       refine ⟨fun z => absurd z (by decide), fun _ => ?_⟩
       refine ks_nil ?_
       refine nxe (ρ2 := [.ow (T.fz (D.list (v_script.map D.int))), .ow (T.fz (D.int y9.1)), .ow (T.fz (D.int y9.2)), .ow (T.fl (r123.2.map D.int)), .ow (T.fz (D.int y31)), .ow (T.fz (D.int r43.1)), .ow (T.fz (D.int r121.1)), .ow (T.fz (D.list (r123.1.map D.int))), .ow (T.fz (D.str ((D.list (r123.1.map D.int)).toPy.shown))), .ow (T.fz (D.list (r128.map D.int))), .ow (T.lst [(T.fl ((r130 ++ [7]).map D.int)), (T.fl (r132.map D.int))]), .no]) rfl ?_
       refine ks_nil ?_
       obtain rfl := Option.some.inj h41
       exact lpR_nx ⟨_, _, _, _, _, _, _, rfl, Free.ow, Free.ow, Free.ow, Free.ow, Free.ow, Free.ow, Free.ow⟩
  ·rintro s_30 _ rfl ⟨s34, s35, s36, s37, s38, s39, s40, rfl, q34, q35, q36, q37, q38, q39, q40⟩
   refine nxe (ρ2 := [.ow (T.fz (D.list (v_script.map D.int))), .ow (T.fz (D.int y9.1)), .ow (T.fz (D.int y9.2)), .ow (T.fl (s_30.map D.int)), s34, s35, s36, s37, s38, s39, s40, .no]) rfl ?_
   refine ks_nil ?_
   obtain rfl := Option.some.inj h22
   exact lpR_nx ⟨_, _, _, _, _, _, _, _, _, _, rfl, Free.ow, Free.ow, Free.ow, q34, q35, q36, q37, q38, q39, q40⟩
  ·rintro b153 t ρ rfl q
   obtain rfl := Option.some.inj h22
   refine seqK_rt ?_
   exact lpR_rt q
 ·rintro s_8 _ rfl ⟨s12, s13, s14, s15, s16, s17, s18, s19, s20, s21, rfl, q12, q13, q14, q15, q16, q17, q18, q19, q20, q21⟩
  refine nxe (ρ2 := [.ow (T.fz (D.list (v_script.map D.int))), s12, s13, s14, s15, s16, s17, s18, s19, s20, s21, .no]) rfl ?_
  refine ks_cons ?_
  refine wp_set ?_
  refine w_bin ?_
  refine w_bin ?_
  refine w_kst ?_
  refine w_kst ?_
  refine ⟨rfl, oQ_in rfl (oQ_in rfl ?_)⟩
  refine wb_pow (n := 30) (by decide) (by decide) (by decide +kernel) rfl ?_
  refine w_kst ?_
  refine ⟨rfl, oQ_in rfl (oQ_in rfl ?_)⟩
  refine wb_sub ?_
  refine set_in (ρ2 := [.ow (T.fz (D.list (v_script.map D.int))), s12, s13, s14, s15, s16, s17, s18, s19, s20, s21, .ow (T.fz (D.int (((10 : Int) ^ 30) - 1)))]) (.ow <| .fr q12 <| .fr q13 <| .fr q14 <| .fr q15 <| .fr q16 <| .fr q17 <| .fr q18 <| .fr q19 <| .fr q20 <| .fr q21 <| .no <| .nil) rfl Free.no rfl ?_
  refine nxe (ρ2 := [.ow (T.fz (D.list (v_script.map D.int))), s12, s13, s14, s15, s16, s17, s18, s19, s20, s21, .ow (T.fz (D.int (((10 : Int) ^ 30) - 1)))]) rfl ?_
  refine ks_cons ?_
  refine wp_set ?_
  refine w_list ?_
  refine ws_cons ?_
  refine w_fzvK ?_
  refine w_call ?_
  refine ws_cons ?_
  refine w_kst ?_
  refine ws_cons ?_
  refine w_fzvK ?_
  refine w_list ?_
  refine ws_cons ?_
  refine w_kst ?_
  refine ws_cons ?_
  refine w_kst ?_
  refine ws_cons ?_
  refine w_kst ?_
  refine ws_cons ?_
  refine w_kst ?_
  refine ws_nil ?_
  refine ⟨rfl, rfl, rfl, rfl, ?_⟩
  refine oQ_in rfl ?_
  refine fzk_fl (ds := ([(4 : Int), 0, 3, 1]).map D.int) ?_
  refine ws_nil ?_
  refine ⟨rfl, rfl, ?_⟩
  refine oQ_in rfl ?_
  replace h := bnd h
  obtain ⟨r154, g155, h⟩ := h
  have mg155 := m_lots_heard g155
  refine call_g (ρ2 := [.ow (T.fz (D.list (v_script.map D.int))), s12, s13, s14, s15, s16, s17, s18, s19, s20, s21, .ow (T.fz (D.int (((10 : Int) ^ 30) - 1)))]) (.ow <| .fr q12 <| .fr q13 <| .fr q14 <| .fr q15 <| .fr q16 <| .fr q17 <| .fr q18 <| .fr q19 <| .fr q20 <| .fr q21 <| .ow <| .nil) rfl (argT_fz (argT_fz argT_nil)) mg155 rfl rfl rfl ?_
  refine fzk_fl (ds := r154.map D.int) ?_
  refine ws_cons ?_
  refine w_fzvK ?_
  refine w_call ?_
  refine ws_cons ?_
  refine w_fzvK ?_
  refine w_var (oQ_in rfl ?_)
  refine fzk_fz (d := (D.int (((10 : Int) ^ 30) - 1))) ?_
  refine ws_cons ?_
  refine w_fzvK ?_
  refine w_list ?_
  refine ws_cons ?_
  refine w_fzvK ?_
  refine w_var (oQ_in rfl ?_)
  refine fzk_fz (d := (D.int (((10 : Int) ^ 30) - 1))) ?_
  refine ws_cons ?_
  refine w_kst ?_
  refine ws_cons ?_
  refine w_bin ?_
  refine w_var (oQ_in rfl ?_)
  refine w_kst ?_
  refine ⟨rfl, oQ_in rfl (oQ_in rfl ?_)⟩
  refine wb_sub ?_
  refine ws_nil ?_
  refine ⟨rfl, rfl, rfl, ?_⟩
  refine oQ_in rfl ?_
  refine fzk_fl (ds := ([(((10 : Int) ^ 30) - 1), 0, ((((10 : Int) ^ 30) - 1) - 1)]).map D.int) ?_
  refine ws_nil ?_
  refine ⟨rfl, rfl, ?_⟩
  refine oQ_in rfl ?_
  replace h := bnd h
  obtain ⟨r156, g157, h⟩ := h
  have mg157 := m_lots_heard g157
  refine call_g (ρ2 := [.ow (T.fz (D.list (v_script.map D.int))), s12, s13, s14, s15, s16, s17, s18, s19, s20, s21, .ow (T.fz (D.int (((10 : Int) ^ 30) - 1)))]) (.ow <| .fr q12 <| .fr q13 <| .fr q14 <| .fr q15 <| .fr q16 <| .fr q17 <| .fr q18 <| .fr q19 <| .fr q20 <| .fr q21 <| .ow <| .nil) rfl (argT_fz (argT_fz argT_nil)) mg157 rfl rfl rfl ?_
  refine fzk_fl (ds := r156.map D.int) ?_
  refine ws_cons ?_
  refine w_fzvK ?_
  refine w_call ?_
  refine ws_cons ?_
  refine w_kst ?_
  refine ws_cons ?_
  refine w_fzvK ?_
  refine w_list ?_
  refine ws_nil ?_
  skip
  refine oQ_in rfl ?_
  refine fzk_fl (ds := ([]).map D.int) ?_
  refine ws_nil ?_
  refine ⟨rfl, rfl, ?_⟩
  refine oQ_in rfl ?_
  replace h := bnd h
  obtain ⟨r158, g159, h⟩ := h
  have mg159 := m_lots_heard g159
  refine call_g (ρ2 := [.ow (T.fz (D.list (v_script.map D.int))), s12, s13, s14, s15, s16, s17, s18, s19, s20, s21, .ow (T.fz (D.int (((10 : Int) ^ 30) - 1)))]) (.ow <| .fr q12 <| .fr q13 <| .fr q14 <| .fr q15 <| .fr q16 <| .fr q17 <| .fr q18 <| .fr q19 <| .fr q20 <| .fr q21 <| .ow <| .nil) rfl (argT_fz (argT_fz argT_nil)) mg159 rfl rfl rfl ?_
  refine fzk_fl (ds := r158.map D.int) ?_
  refine ws_nil ?_
  refine ⟨rfl, rfl, rfl, ?_⟩
  refine oQ_in rfl ?_
  refine set_in (ρ2 := [.ow (T.fz (D.list (v_script.map D.int))), s12, s13, s14, s15, s16, s17, s18, s19, s20, .ow (T.fl (([r154, r156, r158]).map (eL D.int))), .ow (T.fz (D.int (((10 : Int) ^ 30) - 1)))]) (.ow <| .fr q12 <| .fr q13 <| .fr q14 <| .fr q15 <| .fr q16 <| .fr q17 <| .fr q18 <| .fr q19 <| .fr q20 <| .fr q21 <| .ow <| .nil) rfl q21 rfl ?_
  refine nxe (ρ2 := [.ow (T.fz (D.list (v_script.map D.int))), s12, s13, s14, s15, s16, s17, s18, s19, s20, .ow (T.fl (([r154, r156, r158]).map (eL D.int))), .ow (T.fz (D.int (((10 : Int) ^ 30) - 1)))]) rfl ?_
  refine ks_cons ?_
  refine wp_ret ?_
  refine w_cmp ?_
  refine w_var (oQ_in rfl ?_)
  refine w_list ?_
  refine ws_cons ?_
  refine w_fzvK ?_
  refine w_list ?_
  refine ws_cons ?_
  refine w_kst ?_
  refine ws_cons ?_
  refine w_kst ?_
  refine ws_cons ?_
  refine w_kst ?_
  refine ws_cons ?_
  refine w_kst ?_
  refine ws_nil ?_
  refine ⟨rfl, rfl, rfl, rfl, ?_⟩
  refine oQ_in rfl ?_
  refine fzk_fl (ds := ([(2 : Int), 0, 1, 0]).map D.int) ?_
  refine ws_cons ?_
  refine w_fzvK ?_
  refine w_list ?_
  refine ws_cons ?_
  refine w_kst ?_
  refine ws_cons ?_
  refine w_kst ?_
  refine ws_cons ?_
  refine w_kst ?_
  refine ws_nil ?_
  refine ⟨rfl, rfl, rfl, ?_⟩
  refine oQ_in rfl ?_
  refine fzk_fl (ds := ([(1 : Int), 0, 0]).map D.int) ?_
  refine ws_cons ?_
  refine w_fzvK ?_
  refine w_list ?_
  refine ws_nil ?_
  skip
  refine oQ_in rfl ?_
  refine fzk_fl (ds := ([]).map D.int) ?_
  refine ws_nil ?_
  refine ⟨rfl, rfl, rfl, ?_⟩
  refine oQ_in rfl ?_
  refine ⟨rfl, oQ_in rfl (oQ_in rfl ?_)⟩
  replace h := bnd h
  obtain ⟨x160, g161, h⟩ := h
  refine wCmp_in (cmp_eq (fl_toD (([r154, r156, r158]).map (eL D.int))) (fl_toD (([[(2 : Int), 0, 1, 0], [(1 : Int), 0, 0], []]).map (eL D.int))) g161) ?_
  refine oQ_in rfl ?_
  obtain rfl := Option.some.inj h
  refine seqK_rt ?_
  exact ret_in rfl rfl
 ·rintro b162 t ρ rfl q
  obtain rfl := Option.some.inj h
  refine seqK_rt ?_
  exact q
end LW

end
section
set_option maxRecDepth 10000
set_option exponentiation.threshold 9000
namespace LW
open Mv
def unf1 (lot o : Int) : Int := if o ≤ lot then lot + 1 else lot
def unfin (fin : List Int) (d : Int) : Int := fin.foldl unf1 d
structure NS where
  found : List Int
  kv : List (Int × Int)
  fin : List Int
def nstep (w : Int) (s : NS) (d : Int) : NS := ⟨s.found ++ [unfin s.fin d * w + (getI s.kv (unfin s.fin d)).getD 0], putI s.kv (unfin s.fin d) ((getI s.kv (unfin s.fin d)).getD 0 + 1), if (getI s.kv (unfin s.fin d)).getD 0 + 1 = w then sortI (s.fin ++ [unfin s.fin d]) else s.fin⟩
def nall (w : Int) (l : List Int) : NS := l.foldl (nstep w) ⟨[], [], []⟩
def lstep (w : Int) (s : NS) (n : Int) : NS := ⟨s.found ++ [n / w - ((s.fin.filter fun o => decide (o < n / w)).length : Int)], putI s.kv (n / w) (n % w + 1), if n % w + 1 = w then s.fin ++ [n / w] else s.fin⟩
def lok (w : Int) (s : NS) (n : Int) : Prop := n % w = (getI s.kv (n / w)).getD 0
def lall (w : Int) (l : List Int) : NS := l.foldl (lstep w) ⟨[], [], []⟩
end LW
namespace LW
open Mv
def cntLe (fin : List Int) (x : Int) : Int := ((fin.filter fun o => decide (o ≤ x)).length : Int)
def cntLt (fin : List Int) (x : Int) : Int := ((fin.filter fun o => decide (o < x)).length : Int)
theorem cntLe_cons (s : Int) (fin : List Int) (x : Int) : cntLe (s :: fin) x = (if s ≤ x then 1 else 0) + cntLe fin x := by
  unfold cntLe
  rw [List.filter_cons]
  by_cases h : s ≤ x <;> simp [h] <;> omega
theorem cntLe_perm {f g : List Int} (h : f.Perm g) (x : Int) : cntLe f x = cntLe g x := by
  unfold cntLe; rw [(h.filter _).length_eq]
theorem unfin_cons (s : Int) (fin : List Int) (d : Int) : unfin (s :: fin) d = unfin fin (unf1 d s) := rfl
theorem unfin_id {fin : List Int} {d : Int} (h : ∀ s ∈ fin, d < s) : unfin fin d = d := by
  induction fin with
  | nil => rfl
  | cons s fin ih =>
    have h1 := h s (by simp)
    rw [unfin_cons, unf1, if_neg (by omega)]
    exact ih fun x hx => h x (by simp [hx])
theorem unfin_spec {fin : List Int} (h : fin.Pairwise (· < ·)) (d : Int) : d ≤ unfin fin d ∧ unfin fin d ∉ fin ∧ unfin fin d = d + cntLe fin (unfin fin d) := by
  induction fin generalizing d with
  | nil => simp [unfin, cntLe]
  | cons s fin ih =>
    obtain ⟨h1, h2⟩ := List.pairwise_cons.mp h
    by_cases hs : s ≤ d
    · have e : unfin (s :: fin) d = unfin fin (d + 1) := by rw [unfin_cons, unf1, if_pos hs]
      rw [e]
      obtain ⟨a, b, c⟩ := ih h2 (d + 1)
      refine ⟨by omega, ?_, ?_⟩
      · simp only [List.mem_cons, not_or]; exact ⟨by omega, b⟩
      · rw [cntLe_cons, if_pos (by omega)]; omega
    · have e : unfin (s :: fin) d = d := unfin_id fun x hx => by
        rcases List.mem_cons.mp hx with rfl | hx
        · omega
        · have := h1 x hx; omega
      rw [e]
      have hn : ∀ x ∈ s :: fin, d < x := fun x hx => by
        rcases List.mem_cons.mp hx with rfl | hx
        · omega
        · have := h1 x hx; omega
      refine ⟨by omega, fun q => by have := hn d q; omega, ?_⟩
      have : cntLe (s :: fin) d = 0 := by
        unfold cntLe
        rw [List.filter_eq_nil_iff.mpr]
        · rfl
        · intro x hx; have := hn x hx; simp; omega
      omega
theorem sortI_perm (l : List Int) : (sortI l).Perm l := List.mergeSort_perm l _
theorem sortI_le (l : List Int) : (sortI l).Pairwise (· ≤ ·) := by
  have := List.pairwise_mergeSort (le := fun (a b : Int) => decide (a ≤ b)) (fun a b c h1 h2 => by simp at *; omega) (fun a b => by simp; omega) l
  exact this.imp fun h => by simpa using h
theorem sortI_lt {l : List Int} (h : l.Nodup) : (sortI l).Pairwise (· < ·) := by
  have h2 := (sortI_perm l).nodup_iff.mpr h
  exact ((sortI_le l).and h2).imp fun ⟨a, b⟩ => by omega
theorem pw_nodup {l : List Int} (h : l.Pairwise (· < ·)) : l.Nodup := h.imp fun z => by omega
structure Good (w : Int) (kv : List (Int × Int)) (fin : List Int) : Prop where
  asc : fin.Pairwise (· < ·)
  lo : ∀ k, 0 ≤ (getI kv k).getD 0 ∧ (getI kv k).getD 0 ≤ w
  full : ∀ k, k ∈ fin ↔ (getI kv k).getD 0 = w
theorem Good.nil {w : Int} (h : 1 ≤ w) : Good w [] [] := ⟨List.Pairwise.nil, fun k => by simp [getI]; omega, fun k => by simp [getI]; omega⟩
theorem Good.lt {w : Int} {kv : List (Int × Int)} {fin : List Int} (g : Good w kv fin) {k : Int} (h : k ∉ fin) : (getI kv k).getD 0 < w := by
  have a := g.lo k
  have b := g.full k
  have : (getI kv k).getD 0 ≠ w := fun e => h (b.mpr e)
  omega
theorem Good.put {w : Int} {kv : List (Int × Int)} {fin : List Int} (g : Good w kv fin) {k : Int} (h : k ∉ fin) :
    Good w (putI kv k ((getI kv k).getD 0 + 1)) (if (getI kv k).getD 0 + 1 = w then sortI (fin ++ [k]) else fin) := by
  have l := g.lt h
  have l0 := (g.lo k).1
  have hm : ∀ x, x ∈ (if (getI kv k).getD 0 + 1 = w then sortI (fin ++ [k]) else fin) ↔ x ∈ fin ∨ (x = k ∧ (getI kv k).getD 0 + 1 = w) := by
    intro x
    split <;> rename_i e
    · rw [(sortI_perm _).mem_iff]; simp [e]
    · simp [e]
  refine ⟨?_, fun j => ?_, fun j => ?_⟩
  · split
    · refine sortI_lt (List.nodup_append.mpr ⟨pw_nodup g.asc, by simp, fun a ha b hb e => ?_⟩)
      simp at hb; subst hb; subst e; exact h ha
    · exact g.asc
  · rw [getI_put]
    split
    · simp; omega
    · exact g.lo j
  · rw [hm, getI_put]
    by_cases e : k = j
    · subst e
      simp [h]
    · rw [if_neg e, g.full j]
      constructor
      · rintro (q | ⟨q, _⟩)
        · exact q
        · exact absurd q.symm e
      · exact .inl
theorem Good.nall {w : Int} (hw : 1 ≤ w) (l : List Int) : Good w (nall w l).kv (nall w l).fin := by
  have go : ∀ (l : List Int) (s : NS), Good w s.kv s.fin → Good w (l.foldl (nstep w) s).kv (l.foldl (nstep w) s).fin := by
    intro l
    induction l with
    | nil => intro s h; exact h
    | cons d l ih =>
      intro s h
      exact ih _ (h.put (unfin_spec h.asc d).2.1)
  exact go l _ (Good.nil hw)
structure Back (w : Int) (s t : NS) (l : List Int) : Prop where
  kv : t.kv = s.kv
  fin : t.fin.Perm s.fin
  found : t.found = l
end LW
namespace LW
open Mv
theorem take_snoc {α : Type} {l : List α} {i : Nat} {x : α} (h : l[i]? = some x) : l.take (i + 1) = l.take i ++ [x] := by
  rw [List.take_add_one, h]; rfl
theorem cnt_gap {fin : List Int} (h : fin.Pairwise (· < ·)) {s L : Int} (hs : ∀ x ∈ fin, s < x) (hL : L ∉ fin) (hl : s < L) : cntLe fin L ≤ L - s - 1 := by
  induction fin generalizing s with
  | nil => simp [cntLe]; omega
  | cons a fin ih =>
    obtain ⟨h1, h2⟩ := List.pairwise_cons.mp h
    rw [cntLe_cons]
    have ha := hs a (by simp)
    have hne : L ≠ a := fun e => hL (by simp [e])
    by_cases c : a ≤ L
    · have := ih h2 h1 (fun z => hL (by simp [z])) (by omega)
      rw [if_pos c]; omega
    · have e : cntLe fin L = 0 := by
        unfold cntLe
        rw [List.filter_eq_nil_iff.mpr]
        · rfl
        · intro x hx; have := h1 x hx; simp; omega
      rw [if_neg c, e]; omega
theorem unfin_rank {fin : List Int} (h : fin.Pairwise (· < ·)) {L : Int} (hL : L ∉ fin) : unfin fin (L - cntLe fin L) = L := by
  induction fin with
  | nil => simp [unfin, cntLe]
  | cons s fin ih =>
    obtain ⟨h1, h2⟩ := List.pairwise_cons.mp h
    have hne : L ≠ s := fun e => hL (by simp [e])
    have hL2 : L ∉ fin := fun z => hL (by simp [z])
    rw [cntLe_cons]
    by_cases c : s ≤ L
    · have g := cnt_gap h2 h1 hL2 (show s < L by omega)
      rw [if_pos c, unfin_cons, unf1, if_pos (by omega)]
      have := ih h2 hL2
      rw [show L - (1 + cntLe fin L) + 1 = L - cntLe fin L by omega]
      exact this
    · have e : cntLe fin L = 0 := by
        unfold cntLe
        rw [List.filter_eq_nil_iff.mpr]
        · rfl
        · intro x hx; have := h1 x hx; simp; omega
      rw [if_neg c, e]
      simp only [Int.add_zero, Int.sub_zero]
      exact unfin_id fun x hx => by
        rcases List.mem_cons.mp hx with rfl | hx
        · omega
        · have := h1 x hx; omega
theorem unfin_mono (fin : List Int) {d e : Int} (h : d < e) : unfin fin d < unfin fin e := by
  induction fin generalizing d e with
  | nil => exact h
  | cons s fin ih =>
    rw [unfin_cons, unfin_cons]
    refine ih ?_
    unfold unf1
    split <;> split <;> omega
theorem cntLe_snoc (fin : List Int) (L M : Int) : cntLe (fin ++ [L]) M = cntLe fin M + if L ≤ M then 1 else 0 := by
  unfold cntLe
  rw [List.filter_append, List.length_append]
  by_cases h : L ≤ M <;> simp [h]
theorem unfin_done {fin : List Int} (h : fin.Pairwise (· < ·)) (d j : Int) : unfin (sortI (fin ++ [unfin fin d])) j = if j < d then unfin fin j else unfin fin (j + 1) := by
  obtain ⟨_, d2, d3⟩ := unfin_spec h d
  have hs : (sortI (fin ++ [unfin fin d])).Pairwise (· < ·) := sortI_lt (List.nodup_append.mpr ⟨pw_nodup h, by simp, fun a ha b hb e => by simp at hb; subst hb; subst e; exact d2 ha⟩)
  have hp := sortI_perm (fin ++ [unfin fin d])
  have go : ∀ k, k ≠ d → j = k - (if unfin fin d ≤ unfin fin k then 1 else 0) → unfin (sortI (fin ++ [unfin fin d])) j = unfin fin k := fun k hk hj => by
    obtain ⟨_, k2, k3⟩ := unfin_spec h k
    have hne : unfin fin k ≠ unfin fin d := fun e => by
      rcases Int.lt_or_gt_of_ne hk with z | z
      · have := unfin_mono fin z; omega
      · have := unfin_mono fin z; omega
    have hm : unfin fin k ∉ sortI (fin ++ [unfin fin d]) := by
      rw [hp.mem_iff]; simp [k2, hne]
    have r := unfin_rank hs hm
    rw [cntLe_perm hp, cntLe_snoc] at r
    rw [show j = unfin fin k - (cntLe fin (unfin fin k) + if unfin fin d ≤ unfin fin k then 1 else 0) by split at hj <;> rename_i q <;> simp only [q, if_true, if_false] <;> omega]
    exact r
  by_cases c : j < d
  · rw [if_pos c]
    have := unfin_mono fin c
    exact go j (by omega) (by rw [if_neg (by omega)]; omega)
  · rw [if_neg c]
    have := unfin_mono fin (show d < j + 1 by omega)
    exact go (j + 1) (by omega) (by rw [if_pos (by omega)]; omega)
structure Front (kv : List (Int × Int)) (fin : List Int) (front : List (Int × Int)) (fresh : Int) : Prop where
  len : front.length = 25
  at_ : ∀ j : Nat, j < 25 → front[j]? = some (unfin fin j, (getI kv (unfin fin j)).getD 0)
  fr : fresh = 25 + fin.length
  lt : ∀ x ∈ fin, x < fresh
  new : ∀ k, fresh ≤ k → (getI kv k).getD 0 = 0
theorem Front.last {kv : List (Int × Int)} {fin : List Int} {front : List (Int × Int)} {fresh : Int} (h : fin.Pairwise (· < ·)) (f : Front kv fin front fresh) : unfin fin 25 = fresh := by
  have c : cntLe fin fresh = fin.length := by
    unfold cntLe
    rw [List.filter_eq_self.mpr fun x hx => by have := f.lt x hx; simp; omega]
  have := unfin_rank h (L := fresh) fun z => by have := f.lt _ z; omega
  rw [c, f.fr] at this
  rw [f.fr, ← this]
  congr 1; omega
theorem Front.start : Front [] [] ((rngI 0 25).map fun y => (y, 0)) 25 := by
  refine ⟨by simp [rngI], fun j hj => ?_, by simp, by simp, by simp [getI]⟩
  simp [rngI, unfin, getI, hj]
theorem Front.more {kv : List (Int × Int)} {fin : List Int} {front : List (Int × Int)} {fresh : Int} (h : fin.Pairwise (· < ·)) (f : Front kv fin front fresh) {d : Nat} (hd : d < 25) (p : Int) :
    Front (putI kv (unfin fin d) p) fin (front.take d ++ [(unfin fin d, p)] ++ front.drop (d + 1)) fresh := by
  have ll := f.last h
  have hlt := unfin_mono fin (show (d : Int) < 25 by omega)
  refine ⟨by simp [f.len]; omega, fun j hj => ?_, f.fr, f.lt, fun k hk => ?_⟩
  · rw [List.append_assoc, List.getElem?_append]
    simp only [List.length_take, f.len, Nat.min_eq_left (show d ≤ 25 by omega)]
    by_cases c : j < d
    · have := unfin_mono fin (show (j : Int) < d by omega)
      rw [if_pos c, List.getElem?_take, if_pos c, f.at_ j hj, getI_put, if_neg (by omega)]
    · rw [if_neg c]
      by_cases e : j = d
      · subst e; simp [getI_put]
      · have := unfin_mono fin (show (d : Int) < j by omega)
        rw [show j - d = (j - d - 1) + 1 by omega, List.singleton_append, List.getElem?_cons_succ, List.getElem?_drop, show d + 1 + (j - d - 1) = j by omega, f.at_ j hj, getI_put, if_neg (by omega)]
  · rw [getI_put, if_neg (by omega)]; exact f.new k hk
theorem Front.done {kv : List (Int × Int)} {fin : List Int} {front : List (Int × Int)} {fresh : Int} (h : fin.Pairwise (· < ·)) (f : Front kv fin front fresh) {d : Nat} (hd : d < 25) (p : Int) :
    Front (putI kv (unfin fin d) p) (sortI (fin ++ [unfin fin d])) (front.take d ++ front.drop (d + 1) ++ [(fresh, 0)]) (fresh + 1) := by
  have ll := f.last h
  have hlt := unfin_mono fin (show (d : Int) < 25 by omega)
  refine ⟨by simp [f.len]; omega, fun j hj => ?_, ?_, fun x hx => ?_, fun k hk => ?_⟩
  · rw [List.append_assoc, List.getElem?_append]
    simp only [List.length_take, f.len, Nat.min_eq_left (show d ≤ 25 by omega)]
    rw [unfin_done h]
    by_cases c : j < d
    · have := unfin_mono fin (show (j : Int) < d by omega)
      rw [if_pos c, List.getElem?_take, if_pos c, f.at_ j hj, if_pos (by omega), getI_put, if_neg (by omega)]
    · have := unfin_mono fin (show (d : Int) < (j : Int) + 1 by omega)
      rw [if_neg c, if_neg (by omega), getI_put, if_neg (by omega), List.getElem?_append]
      simp only [List.length_drop, f.len]
      by_cases e : j = 24
      · subst e
        rw [if_neg (by omega), show 24 - d - (25 - (d + 1)) = 0 by omega]
        have : ((24 : Nat) : Int) + 1 = 25 := rfl
        rw [this, ll, f.new _ (Int.le_refl _)]; rfl
      · rw [if_pos (by omega), List.getElem?_drop, show d + 1 + (j - d) = j + 1 by omega, f.at_ (j + 1) (by omega)]
        simp
  · rw [f.fr, (sortI_perm _).length_eq]; simp; omega
  · rw [(sortI_perm _).mem_iff] at hx
    simp at hx
    rcases hx with hx | hx
    · have := f.lt x hx; omega
    · omega
  · rw [getI_put, if_neg (by omega)]; exact f.new k (by omega)
def vr (b : Int) : List Int → Int
  | [] => 0
  | s :: t => s + b * vr b t
end LW

end
section
set_option maxRecDepth 10000
set_option exponentiation.threshold 9000
namespace LW
open PySem PySem.Spec PyProof.Rows L2 Mv
theorem t_draw {c0 n : Int} {s : List Int} (h : Sr c0 s) (hn : 0 < n) (hn2 : okI n = true) (hc0 : c0 ≤ 1000000000) : OK (p__law_draw s n) fun r => 0 ≤ r.1 ∧ r.1 < n ∧ Sr (c0 + 1) r.2 := by
  obtain ⟨a, b, c, rfl, ha, hb, hb2, hc, hc2⟩ := h
  have m1 : okI (c + 1) = true := okI_nat (b := 1000000001) (by omega) (by omega) (by decide)
  have m2 : okI (b + 600011 * (c + 1)) = true := okI_nat (b := 1000000000000000000000000000000000000000000 + 600011 * 1000000001) (by omega) (by omega) (by decide)
  unfold p__law_draw
  refine ok_eq (show ixG [a, b, c] 0 = some a from rfl) ?_
  refine ok_if (fun ha2 => ?_) fun ha2 => ?_
  · refine ok_eq (show ixG [a, b, c] 0 = some a from rfl) (ok_eq (modG_ok hn) (ok_eq (show ixG [a, b, c] 0 = some a from rfl) (ok_eq (divG_ok hn hn2) (ok_eq (show stoG [a, b, c] 0 (a / n) = some [a / n, b, c] from rfl) (ok_some ?_)))))
    exact ⟨Int.emod_nonneg _ (by omega), Int.emod_lt_of_pos _ hn, _, _, _, rfl, Int.ediv_nonneg ha (by omega), hb, hb2, hc, by omega⟩
  · refine ok_eq (show ixG [a, b, c] 2 = some c from rfl) (ok_eq (show stoG [a, b, c] 2 (c + 1) = some [a, b, c + 1] from rfl) (ok_eq (show ixG [a, b, c + 1] 1 = some b from rfl) (ok_eq (show ixG [a, b, c + 1] 2 = some (c + 1) from rfl) ?_)))
    refine ok_eq (mulG_ok (by decide +kernel) m1) (ok_eq (powG_ok m2) (ok_eq (show ixG [a, b, c + 1] 2 = some (c + 1) from rfl) ?_))
    have q0 := Int.emod_nonneg ((b + 600011 * (c + 1)) ^ 3) (show (10 ^ 36 + 67 : Int) ≠ 0 by decide)
    have q1 := Int.emod_lt_of_pos ((b + 600011 * (c + 1)) ^ 3) (show (0 : Int) < 10 ^ 36 + 67 by decide)
    generalize (b + 600011 * (c + 1)) ^ 3 % (10 ^ 36 + 67) = x at q0 q1 ⊢
    have q2 : x * (c + 1) ≤ (10 ^ 36 + 67) * 1000000001 := Int.mul_le_mul (Int.le_of_lt q1) (by omega) (by omega) (by decide)
    have q3 : 0 ≤ x * (c + 1) := Int.mul_nonneg q0 (by omega)
    refine ok_eq (mulG_ok (okI_nat q0 (Int.le_of_lt q1) (by decide +kernel)) m1) ?_
    refine ok_eq (powG_ok (okI_nat (b := (10 ^ 36 + 67) * 1000000001 + 77773) (by omega) (by omega) (by decide +kernel))) (ok_eq (modG_ok hn) (ok_some ?_))
    exact ⟨Int.emod_nonneg _ (by omega), Int.emod_lt_of_pos _ hn, _, _, _, rfl, ha, hb, hb2, by omega, by omega⟩
theorem t_source {v k : Int} (hk : 0 ≤ k) (hk2 : k ≤ 1000) : OK (p__law_source v k) (Sr 0) := by
  unfold p__law_source
  have q0 := Int.emod_nonneg (absI v) (show (10 ^ 39 + 3 : Int) ≠ 0 by decide)
  have q1 := Int.emod_lt_of_pos (absI v) (show (0 : Int) < 10 ^ 39 + 3 by decide)
  generalize absI v % (10 ^ 39 + 3) = x at q0 q1 ⊢
  refine ok_eq (mulG_ok (okI_nat q0 (Int.le_of_lt q1) (by decide +kernel)) (by decide +kernel)) (ok_eq (mulG_ok (by decide +kernel) (okI_nat hk hk2 (by decide +kernel))) (ok_some ?_))
  refine ⟨_, _, _, rfl, ?_, ?_, ?_, by omega, by omega⟩
  · unfold mx2; split <;> omega
  · split <;> omega
  · split <;> omega
end LW

end
section
set_option maxRecDepth 10000
set_option exponentiation.threshold 9000
namespace LW
open PySem PySem.Spec PyProof.Rows L2 Mv
theorem t_width {c0 : Int} {s : List Int} (h : Sr c0 s) (hc : c0 ≤ 100000000) : OK (p__law_width s) fun r => 1 ≤ r.1 ∧ r.1 ≤ 1000000000000000000000000000 ∧ Sr (c0 + 3) r.2 := by
  unfold p__law_width
  refine ok_call (t_draw h (by decide) (by decide +kernel) (by omega)) fun r1 ⟨a0, a1, h1⟩ => ?_
  refine ok_call (t_draw h1 (by decide) (by decide +kernel) (by omega)) fun r2 ⟨b0, b1, h2⟩ => ?_
  refine ok_call (t_draw h2 (by decide) (by decide +kernel) (by omega)) fun r3 ⟨d0, d1, h3⟩ => ?_
  have h3 := h3.mono (show c0 + 1 + 1 + 1 ≤ c0 + 3 by omega)
  have : ∃ x, ixG [1, 1 + r2.1, 2, 1 + r3.1] r1.1 = some x ∧ 1 ≤ x ∧ x ≤ 1000000000000000000000000000 := by
    obtain ⟨i, hi⟩ := Int.eq_ofNat_of_zero_le a0
    rw [hi] at a1 ⊢
    match i, a1 with
    | 0, _ => exact ⟨_, rfl, by omega, by omega⟩
    | 1, _ => exact ⟨_, rfl, by omega, by omega⟩
    | 2, _ => exact ⟨_, rfl, by omega, by omega⟩
    | 3, _ => exact ⟨_, rfl, by omega, by omega⟩
    | n + 4, z => omega
  obtain ⟨x, e, x1, x2⟩ := this
  exact ok_eq e (ok_some ⟨x1, x2, h3⟩)
end LW

end
section
set_option maxRecDepth 10000
set_option exponentiation.threshold 9000
namespace LW
open PySem PySem.Spec PyProof.Rows L2 Mv
theorem lcS_ok {σ α β : Type} {f : σ → α → Option (Option β × σ)} (I : Nat → σ → Prop) (R : β → Prop) : ∀ {l : List α} {s : σ}, I 0 s → (∀ (i : Nat) (x : α) (s : σ), l[i]? = some x → I i s → OK (f s x) fun p => (∃ y, p.1 = some y ∧ R y) ∧ I (i + 1) p.2) → OK (lcS f l s) fun r => r.1.length = l.length ∧ (∀ y ∈ r.1, R y) ∧ I l.length r.2
  | [], s, h0, _ => ok_some ⟨rfl, fun y hy => (nomatch hy), h0⟩
  | x :: l, s, h0, hs => by
    obtain ⟨⟨o, s1⟩, e, ⟨y, ey, hy⟩, h1⟩ := hs 0 x s rfl h0
    dsimp only at ey h1
    subst ey
    obtain ⟨⟨r, s2⟩, e2, a, b, c⟩ := lcS_ok (fun i => I (i + 1)) R (l := l) h1 fun i x s hx => hs (i + 1) x s (by simpa using hx)
    refine ⟨(y :: r, s2), ?_, by dsimp only at a ⊢; rw [List.length_cons, List.length_cons, a], fun z hz => ?_, c⟩
    · unfold lcS
      rw [e, Option.bind_some, e2]; rfl
    · rcases List.mem_cons.mp hz with rfl | hz
      · exact hy
      · exact b z hz
theorem lcSG_ok {σ α β : Type} {f : σ → α → Option (Option β × σ)} (I : Nat → σ → Prop) (R : β → Prop) {l : List α} {s : σ} (hl : l.length ≤ 1000000) (h0 : I 0 s) (hs : ∀ (i : Nat) (x : α) (s : σ), l[i]? = some x → I i s → OK (f s x) fun p => (∃ y, p.1 = some y ∧ R y) ∧ I (i + 1) p.2) : OK (lcSG f l s) fun r => r.1.length = l.length ∧ (∀ y ∈ r.1, R y) ∧ I l.length r.2 := by
  obtain ⟨r, e, a, b⟩ := lcS_ok I R h0 hs
  refine ⟨r, ?_, a, b⟩
  unfold lcSG
  rw [e, Option.bind_some, if_pos]
  exact Nat.le_of_lt (lt_size (by omega))
end LW

end
section
set_option maxRecDepth 10000
set_option exponentiation.threshold 9000
namespace LW
open PySem PySem.Spec PyProof.Rows L2 Mv
theorem ints_RO {n : Nat} {l : List Int} (h : ∀ x ∈ l, 0 ≤ x ∧ x < 10 ^ 70) (hl : l.length ≤ 201) : RO 20000 (n + 1) (.list (l.map D.int)) := by
  refine (RO.ints (n := n) (k := 70) (by decide) (by decide) fun x hx => ?_).mono (by omega)
  obtain ⟨a, b⟩ := h x hx
  have : ((10 ^ 70 : Nat) : Int) = 10 ^ 70 := by norm_cast
  omega
theorem rp1 {l : List Int} (h : ∀ x ∈ l, 0 ≤ x ∧ x < 10 ^ 70) (hl : l.length ≤ 201) : reprG (.list (l.map D.int)) = some (D.list (l.map D.int)).toPy.shown := (ints_RO (n := 59) h hl).ok (by decide)
theorem rp2 {a b : List Int} (h : ∀ x ∈ a, 0 ≤ x ∧ x < 10 ^ 70) (hl : a.length ≤ 201) (h' : ∀ x ∈ b, 0 ≤ x ∧ x < 10 ^ 70) (hl' : b.length ≤ 201) : reprG (.list [.list (a.map D.int), .list (b.map D.int)]) = some (D.list [D.list (a.map D.int), D.list (b.map D.int)]).toPy.shown := by
  refine RO.ok (m := 100000) ((RO.list (m := 20000) (n := 59) fun d hd => ?_).mono (by simp)) (by decide)
  simp only [List.mem_cons, List.not_mem_nil, or_false] at hd
  rcases hd with rfl | rfl
  · exact ints_RO h hl
  · exact ints_RO h' hl'
end LW

end
section
set_option maxRecDepth 10000
set_option exponentiation.threshold 9000
namespace LW
open PySem PySem.Spec PyProof.Rows L2 Mv
theorem lset_ok {l : List Int} (h : l.length ≤ 4000) : lsetG l = some (((nubI l).length : Nat) : Int) := by unfold lsetG; rw [if_pos h]
def hd (lots : List Int) (L : Int) : Nat := (nubI ((lots.drop (lots.idxOf L + 1)).filter fun o => decide (o < L))).length
def need (lots : List Int) : Int := 1 + maxI 0 (lots.map fun L => (hd lots L : Int))
def MxH (m : Int) (h : List (Int × Int)) : Prop := 1 ≤ m ∧ (∀ L v, getI h L = some v → v + 1 ≤ m) ∧ (m = 1 ∨ ∃ L v, getI h L = some v ∧ m = v + 1)
theorem MxH.put {m : Int} {h : List (Int × Int)} (M : MxH m h) {L v : Int} (e : getI h L = some v) : MxH (mx2 m (v + 1 + 1)) (putI h L (v + 1)) := by
  obtain ⟨m1, m2, m3⟩ := M
  have mv := m2 L v e
  have em : mx2 m (v + 1 + 1) = max m (v + 2) := by unfold mx2; split <;> omega
  rw [em]
  refine ⟨by omega, fun K u g => ?_, ?_⟩
  · rw [getI_put] at g
    split at g
    · cases g; omega
    · have := m2 K u g; omega
  · by_cases c : v + 2 ≤ m
    · rcases m3 with m3 | ⟨K, u, g, m3⟩
      · exact .inl (by omega)
      · by_cases k : L = K
        · subst k; rw [e] at g; cases g; omega
        · exact .inr ⟨K, u, by rw [getI_put, if_neg k]; exact g, by omega⟩
    · exact .inr ⟨L, v + 1, by rw [getI_put, if_pos rfl], by omega⟩
theorem MxH.new {m : Int} {h : List (Int × Int)} (M : MxH m h) {L : Int} (e : getI h L = none) : MxH m (putI h L 0) := by
  obtain ⟨m1, m2, m3⟩ := M
  refine ⟨m1, fun K u g => ?_, ?_⟩
  · rw [getI_put] at g
    split at g
    · cases g; omega
    · exact m2 K u g
  · rcases m3 with m3 | ⟨K, u, g, m3⟩
    · exact .inl m3
    · refine .inr ⟨K, u, ?_, m3⟩
      rw [getI_put, if_neg (by rintro rfl; rw [e] at g; cases g)]; exact g
theorem MxH.need {m : Int} {h : List (Int × Int)} {pre : List Int} (M : MxH m h) (e : ∀ L, getI h L = if L ∈ pre then some (hd pre L : Int) else none) : m = need pre := by
  obtain ⟨m1, m2, m3⟩ := M
  obtain ⟨a, b⟩ := maxI_spec 0 (pre.map fun L => (hd pre L : Int))
  unfold LW.need
  have h0 := b 0 List.mem_cons_self
  refine Int.le_antisymm ?_ ?_
  · rcases m3 with m3 | ⟨L, v, g, m3⟩
    · omega
    · rw [e L] at g
      split at g
      · rename_i hL
        cases g
        have := b (hd pre L : Int) (List.mem_cons_of_mem _ (List.mem_map.mpr ⟨L, hL, rfl⟩))
        omega
      · cases g
  · rcases List.mem_cons.mp a with a | a
    · omega
    · obtain ⟨L, hL, a⟩ := List.mem_map.mp a
      have := m2 L (hd pre L) (by rw [e L, if_pos hL])
      omega
end LW

end
section
set_option maxRecDepth 10000
set_option exponentiation.threshold 9000
namespace LW
open PySem PySem.Spec PyProof.Rows L2 Mv
def lh : List Int → List Int
  | [] => []
  | x :: l => ((nubI (l.filter fun y => decide (y < x))).length : Int) :: lh l
theorem lh_len : ∀ l : List Int, (lh l).length = l.length
  | [] => rfl
  | x :: l => by simp [lh, lh_len l]
theorem lh_bd : ∀ (l : List Int), ∀ x ∈ lh l, 0 ≤ x ∧ x ≤ l.length
  | [], x, hx => by simp [lh] at hx
  | y :: l, x, hx => by
    simp only [lh, List.mem_cons] at hx
    rcases hx with rfl | hx
    · have := nodup_len_le (nubI_nodup (l.filter fun z => decide (z < y))) (m := l) fun k hk => (List.mem_filter.mp (nubI_mem.mp hk)).1
      simp; omega
    · have := lh_bd l x hx
      simp; omega
where nodup_len_le {a : List Int} (h : a.Nodup) {m : List Int} (s : ∀ k ∈ a, k ∈ m) : a.length ≤ m.length := h.length_le_of_subset s
theorem lh_enum (l : List Int) : ∀ (m : List Int) (n : Nat), m = l.drop n → (enumI n m).map (fun p : Int × Int => ((nubI ((l.drop (p.1.toNat + 1)).filter fun y => decide (y < p.2))).length : Int)) = lh m
  | [], n, h => rfl
  | x :: m, n, h => by
    have hm : m = l.drop (n + 1) := by rw [← List.drop_drop, ← h]; rfl
    simp only [enumI, List.map_cons, lh]
    rw [lh_enum l m (n + 1) hm]
    congr 3
    rw [hm]; rfl
theorem nub_as {l m : List Int} (hm : m.Nodup) (h : ∀ k, k ∈ l ↔ k ∈ m) : (nubI l).length = m.length := nodup_len (nubI_nodup l) hm fun k => by rw [nubI_mem]; exact h k
theorem t_size {w : Int} (h1 : 1 ≤ w) (h2 : w ≤ 999999999999999999999999999999) : p_need_size w = some () := by
  refine ok_get ?_
  unfold p_need_size
  refine ok_eq (x := true) (ok_get ?_) (ok_ift rfl (ok_some rfl))
  unfold p_is_integer
  exact ok_call (P := fun b => b = true) (ok_ift h1 (ok_some (by simpa using h2))) fun b hb => ok_some hb
theorem t_numbers {r : List Int} (hl : r.length ≤ 200) (h : ∀ x ∈ r, 0 ≤ x) : p_need_numbers r = some () := by
  refine ok_get ?_
  unfold p_need_numbers
  refine ok_iff (by omega) (ok_call (forP_ok (fun _ _ => True) trivial fun i p s hp _ => ?_) fun _ _ => ok_some rfl)
  obtain ⟨hx, _⟩ := enumI_get r 0 i p hp
  have h0 := h p.2 (List.mem_of_getElem? hx)
  refine ok_eq (x := true) (ok_get ?_) (ok_ift rfl (ok_some trivial))
  unfold p_is_integer_1
  exact ok_call (P := fun b => b = true) (ok_ift h0 (ok_some rfl)) fun b hb => ok_some hb
theorem t_heard {w : Int} {r : List Int} (h1 : 1 ≤ w) (h2 : w ≤ 999999999999999999999999999999) (hl : r.length ≤ 200) (h : ∀ x ∈ r, 0 ≤ x) : p_lots_heard w r = some (lh (r.map (· / w))) := by
  refine ok_get ?_
  unfold p_lots_heard
  have okw : okI w = true := okI_nat (b := 999999999999999999999999999999) (by omega) h2 (by decide +kernel)
  refine ok_eq (t_size h1 h2) (ok_eq (t_numbers hl h) (ok_eq (lcG_all (g := (· / w)) (fun y _ => by rw [divG_ok (by omega) okw]; rfl) (by omega)) ?_))
  generalize hlots : r.map (· / w) = lots
  have ll : lots.length ≤ 200 := by rw [← hlots, List.length_map]; exact hl
  refine ok_eq (lcG_all (g := fun p : Int × Int => ((nubI ((lots.drop (p.1.toNat + 1)).filter fun y => decide (y < p.2))).length : Int)) (fun p hp => ?_) (by rw [enumI_len]; omega)) (ok_some (lh_enum lots lots 0 rfl))
  obtain ⟨i, hi⟩ := List.getElem?_of_mem hp
  obtain ⟨hx, hn⟩ := enumI_get lots 0 i p hi
  have hi := (List.getElem?_eq_some_iff.mp hx).1
  have e1 : (p.1 + 1).toNat = p.1.toNat + 1 := by omega
  rw [sli_lo (by omega) (by omega), e1]
  have fl := List.length_filter_le (fun y => decide (y < p.2)) (lots.drop (p.1.toNat + 1))
  rw [List.length_drop] at fl
  rw [Option.bind_some, lcG_filter (p := fun y => decide (y < p.2)) (g := fun y => y) (fun y _ => by by_cases h : y < p.2 <;> simp [h]) (by rw [List.length_drop]; omega), Option.bind_some, List.map_id', lset_ok (by omega)]
  rfl
theorem t_ldue {w : Int} {r : List Int} (h1 : 1 ≤ w) (h2 : w ≤ 999999999999999999999999999999) (hl : r.length ≤ 200) : p__law_due w r = some (lh (r.map (· / w))) := by
  refine ok_get ?_
  unfold p__law_due
  have okw : okI w = true := okI_nat (b := 999999999999999999999999999999) (by omega) h2 (by decide +kernel)
  refine ok_call (forP_ok (fun i (st : List Int × List Int) => st.1.Nodup ∧ (∀ k, k ∈ st.1 ↔ k ∈ (r.reverse.take i).map (· / w)) ∧ st.2.reverse = lh ((r.reverse.take i).reverse.map (· / w)) ∧ st.1.length ≤ i) ⟨List.nodup_nil, by simp, rfl, Nat.le_refl _⟩ fun i x st hx ⟨n1, n2, n3, n4⟩ => ?_) fun st ⟨_, _, n3, _⟩ => ok_some ?_
  · have hi := (List.getElem?_eq_some_iff.mp hx).1
    rw [List.length_reverse] at hi
    have l2 : st.2.length ≤ 200 := by
      have := congrArg List.length n3
      rw [List.length_reverse, lh_len, List.length_map, List.length_reverse, List.length_take, List.length_reverse] at this
      omega
    refine ok_eq (divG_ok (by omega) okw) (ok_eq (lcG_filter (p := fun y => decide (y < x / w)) (g := fun y => y) (fun y _ => by by_cases h : y < x / w <;> simp [h]) (by omega)) (ok_eq (appG_ok (by omega)) ?_))
    rw [List.map_id']
    have e3 : (st.2 ++ [((st.1.filter fun y => decide (y < x / w)).length : Int)]).reverse = lh ((r.reverse.take (i + 1)).reverse.map (· / w)) := by
      rw [take_snoc hx, List.reverse_append, List.reverse_append, n3]
      simp only [List.reverse_cons, List.reverse_nil, List.nil_append, List.singleton_append, List.map_cons, lh]
      congr 2
      refine (nub_as (List.Pairwise.filter _ n1) fun k => ?_).symm
      rw [List.mem_filter, List.mem_filter, n2 k, List.map_reverse, List.mem_reverse]
    refine ok_call (P := fun j => j.Nodup ∧ (∀ k, k ∈ j ↔ k ∈ (r.reverse.take (i + 1)).map (· / w)) ∧ j.length ≤ i + 1) (ok_if (fun c => ok_eq (appG_ok (by omega)) (ok_some ⟨?_, fun k => ?_, by simp; omega⟩)) fun c => ok_some ⟨n1, fun k => ?_, by omega⟩) fun j ⟨j1, j2, j3⟩ => ok_some ⟨j1, j2, e3, j3⟩
    · rw [List.nodup_append]
      exact ⟨n1, by simp, fun a ha b hb => by rw [List.mem_singleton] at hb; subst hb; rintro rfl; exact c ha⟩
    · rw [take_snoc hx, List.map_append, List.mem_append, List.mem_append, n2 k]; simp
    · rw [take_snoc hx, List.map_append, List.mem_append, n2 k]
      have c : x / w ∈ st.1 := Decidable.of_not_not c
      rw [n2] at c
      constructor
      · exact .inl
      · rintro (z | z)
        · exact z
        · simp only [List.map_cons, List.map_nil, List.mem_singleton] at z
          subst z; exact c
  · rw [n3, List.take_length, List.reverse_reverse]
theorem t_any {c0 w many : Int} {s : List Int} (h : Sr c0 s) (hc : c0 ≤ 100000000) (h1 : 1 ≤ w) (h2 : w ≤ 1000000000000000000000000000) (m0 : 0 ≤ many) (m1 : many ≤ 200) :
    OK (p__law_any s w many) fun r => r.1.length ≤ 200 ∧ (∀ x ∈ r.1, 0 ≤ x ∧ x < 10 ^ 70) ∧ Sr (c0 + 500) r.2 := by
  unfold p__law_any
  refine ok_call (t_draw h (by decide) (by decide +kernel) (by omega)) fun r1 ⟨a0, a1, hr⟩ => ?_
  have : ∃ x, ixG ([(2 : Int), 5, 30, 900]) r1.1 = some x ∧ 1 ≤ x ∧ x ≤ 900 := by
    obtain ⟨i, hi⟩ := Int.eq_ofNat_of_zero_le a0
    rw [hi] at a1 ⊢
    match i, a1 with
    | 0, _ => exact ⟨_, rfl, by omega, by omega⟩
    | 1, _ => exact ⟨_, rfl, by omega, by omega⟩
    | 2, _ => exact ⟨_, rfl, by omega, by omega⟩
    | 3, _ => exact ⟨_, rfl, by omega, by omega⟩
    | n + 4, z => omega
  obtain ⟨x, e, x1, x2⟩ := this
  have okw : okI w = true := okI_nat (b := 1000000000000000000000000000) (by omega) h2 (by decide +kernel)
  have len : (rngI 0 many).length ≤ 200 := by
    unfold rngI
    rw [List.length_map, List.length_range]
    omega
  refine ok_eq e (ok_eq rngG_any (ok_call (lcSG_ok (fun i s => Sr (c0 + 1 + 2 * i) s) (fun y => 0 ≤ y ∧ y < 10 ^ 70) (by omega) (hr.mono (by omega)) fun i y s hy hs => ?_) fun r ⟨q1, q2, q3⟩ => ok_some ⟨by show r.1.length ≤ 200; omega, q2, q3.mono (by omega)⟩))
  have hi := (List.getElem?_eq_some_iff.mp hy).1
  refine ok_call (t_draw hs (by omega) (okI_nat (b := 900) (by omega) x2 (by decide)) (by omega)) fun r6 ⟨b0, b1, h6⟩ => ?_
  refine ok_eq (mulG_ok (okI_nat (b := 900) b0 (by omega) (by decide)) okw) (ok_call (t_draw h6 (by omega) okw (by omega)) fun r8 ⟨d0, d1, h8⟩ => ok_some ⟨⟨_, rfl, ?_⟩, h8.mono (by omega)⟩)
  have p0 : 0 ≤ r6.1 * w := Int.mul_nonneg b0 (by omega)
  have p1 : r6.1 * w ≤ 900 * 1000000000000000000000000000 := Int.mul_le_mul (by omega) h2 (by omega) (by decide)
  have : (10 : Int) ^ 70 = 10000000000000000000000000000000000000000000000000000000000000000000000 := by decide +kernel
  omega
theorem t_law {script : List Int} (hl : script.length ≤ 63) : p_law script = some true := by
  refine ok_get ?_
  unfold p_law
  refine ok_eq (catG_ok (by simp; omega)) ?_
  obtain ⟨hs, e, hsl⟩ := head_ok (m := 12) hl (by decide) (by decide)
  obtain ⟨b, eb⟩ := deq_ex (a := D.list (script.map D.int)) (b := D.list (([] : List Int).map D.int)) shp_ints shp_ints
  refine ok_eq e (ok_call (forR_all (fun _ _ => True) trivial fun i p st hp _ => ?_) ?_)
  · obtain ⟨hx, hj⟩ := enumI_get hs 0 i p hp
    have hi := (List.getElem?_eq_some_iff.mp hx).1
    refine ok_call (t_source (by omega) (by omega)) fun src h0 => ok_eq rngG_any ?_
    refine ok_call (forR_all (fun i s => Sr (1000 * i) s) (h0.mono (by omega)) fun t y s ht hs => ?_) ?_
    · obtain ⟨_, t3⟩ := rngI_get ht
      refine ok_call (t_width hs (by omega)) fun r26 ⟨w1, w2, h26⟩ => ?_
      have hd : OK ((ixG [(7 : Int), 31] (if (!b) = true then 1 else 0)).bind fun x => (p__law_draw r26.2 x).bind fun r => some (r.1, r.2)) fun z => (0 ≤ z.1 ∧ z.1 ≤ 200) ∧ Sr (1000 * t + 4) z.2 := by
        have : ∃ x, ixG [(7 : Int), 31] (if (!b) = true then 1 else 0) = some x ∧ 0 < x ∧ x ≤ 31 := by cases b <;> exact ⟨_, rfl, by decide, by decide⟩
        obtain ⟨x, e, x0, x1⟩ := this
        refine ok_eq e (ok_call (t_draw h26 x0 (okI_nat (b := 31) (by omega) (by omega) (by decide +kernel)) (by omega)) fun r ⟨a0, a1, h1⟩ => ok_some ⟨⟨a0, by show r.1 ≤ 200; omega⟩, h1.mono (by omega)⟩)
      refine ok_call (P := fun z => (0 ≤ z.1 ∧ z.1 ≤ 200) ∧ Sr (1000 * t + 4) z.2) (ok_if (fun _ => ok_eq eb (ok_if (fun _ => ok_some ⟨⟨show (0 : Int) ≤ 200 by decide, show (200 : Int) ≤ 200 by decide⟩, h26.mono (by omega)⟩) fun _ => ok_eq eb hd)) fun _ => ok_eq eb hd) fun z ⟨⟨z0, z1⟩, h4⟩ => ?_
      refine ok_call (t_any h4 (by omega) w1 w2 z0 z1) fun r35 ⟨l35, v35, h35⟩ => ?_
      have w3 : r26.1 ≤ 999999999999999999999999999999 := by omega
      have due := t_ldue (r := r35.1) w1 w3 l35
      have hrd := t_heard (r := r35.1) w1 w3 l35 fun x hx => (v35 x hx).1
      have ln := lh_len (r35.1.map (· / r26.1))
      have bd := lh_bd (r35.1.map (· / r26.1))
      generalize lh (r35.1.map (· / r26.1)) = m at due hrd ln bd
      rw [List.length_map] at ln bd
      have bd : ∀ x ∈ m, 0 ≤ x ∧ x < 10 ^ 70 := fun x hx => by
        have := bd x hx
        have q : (10 : Int) ^ 70 = 10000000000000000000000000000000000000000000000000000000000000000000000 := by decide +kernel
        omega
      have rr := rp2 (a := m) (b := m) bd (by omega) bd (by omega)
      refine ok_eq (rp1 v35 (by omega)) (ok_eq due (ok_eq hrd (ok_eq hrd (ok_eq rr (ok_eq rr (ok_iff (fun z => z rfl) (ok_eq (rp1 v35 (by omega)) (ok_iff (fun z => z rfl) (ok_eq (appG_ok (by omega)) (ok_eq hrd (ok_eq (deqG_self shp_ints) (ok_iff (fun z => z rfl) (ok_some ⟨_, rfl, h35.mono (by omega)⟩)))))))))))))
    · rintro _ ⟨s', rfl, _⟩
      exact ok_some ⟨_, rfl, trivial⟩
  · rintro _ ⟨s', rfl, _⟩
    refine ok_eq (x := [2, 0, 1, 0]) (by decide +kernel) (ok_eq (x := [1, 0, 0]) (by decide +kernel) (ok_eq (x := []) (by decide +kernel) (ok_eq (x := true) (by decide +kernel) (ok_some rfl))))
theorem law_true (ns : List Int) (hl : ns.length ≤ 63) (_ : ∀ z ∈ ns, Builtin.Int.intBits z ≤ 1048576) : F_law.run [.fz (.list (ns.map D.int))] = some (.fz (.bool true), []) := m_law (t_law hl)
end LW

end
open PySem PySem.W PyProof.Rows
set_option maxRecDepth 100000 in
set_option maxHeartbeats 0 in
theorem PySem.Challenge.cw_holesleft_k21_lots_heard_behind_holds : PySem.Challenge.rw_holesleft_k21_lots_heard_behind.Holds := by
  w_on; o_law; k_head; (case hw => w_witness2)
  k_fill
  refine Mv.walkG (l := PySem.Challenge.rw_holesleft_k21_lots_heard_behind) (n := 63) (lv := 4) (x := "script") (f := LW.F_law) rfl (by decide) rfl ⟨rfl, by decide, by decide⟩ (fun w h Y => PySem.W.kIn_of Y) ?F rfl LW.law_true
  case F =>
    intro w mg fa h KX G hmg
    refine' LW.all_mk KX G hmg ?a0 ?l0 ?c0 ?k0 ?a1 ?l1 ?c1 ?k1 ?a2 ?l2 ?c2 ?k2 ?a3 ?l3 ?c3 ?k3 ?a4 ?l4 ?c4 ?k4 ?a5 ?l5 ?c5 ?k5 ?a6 ?l6 ?c6 ?k6 ?a7 ?l7 ?c7 ?k7 ?a8 ?l8 ?c8 ?k8 ?a9 ?l9 ?c9 ?k9 ?z0 ?z1 ?z2 ?z3 ?z4 ?z5 ?z6 ?z7 ?z8 ?z9 ?z10 ?v0 ?v1
    (case a0 => k_is)
    (case a1 => k_is)
    (case a2 => k_is)
    (case a3 => k_is)
    (case a4 => k_is)
    (case a5 => k_is)
    (case a6 => k_is)
    (case a7 => k_is)
    (case a8 => k_is)
    (case a9 => k_is)
    (case l0 => k_is)
    (case c0 => k_is)
    (case k0 => k_is)
    (case l1 => k_is)
    (case c1 => k_is)
    (case k1 => k_is)
    (case l2 => k_is)
    (case c2 => k_is)
    (case k2 => k_is)
    (case l3 => k_is)
    (case c3 => k_is)
    (case k3 => k_is)
    (case l4 => k_is)
    (case c4 => k_is)
    (case k4 => k_is)
    (case l5 => k_is)
    (case c5 => k_is)
    (case k5 => k_is)
    (case l6 => k_is)
    (case c6 => k_is)
    (case k6 => k_is)
    (case l7 => k_is)
    (case c7 => k_is)
    (case k7 => k_is)
    (case l8 => k_is)
    (case c8 => k_is)
    (case k8 => k_is)
    (case l9 => k_is)
    (case c9 => k_is)
    (case k9 => k_is)
    (case z0 => k_is)
    (case z1 => k_is)
    (case z2 => k_is)
    (case z3 => k_is)
    (case z4 => k_is)
    (case z5 => k_is)
    (case z6 => k_is)
    (case z7 => k_is)
    (case z8 => k_is)
    (case z9 => k_is)
    (case z10 => k_is)
    (case v0 => k_is)
    (case v1 => k_is)
