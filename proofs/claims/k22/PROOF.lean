import PyProof.Rows.All
import Wide.All
import OpenK.AllK
import Wide.FinOn
import HandS.ForMost
import HandS.ForExc
import HandS.Wide
import HandS.TupMul
import HandS.Flow
import HandS.Deep
import HandS.TupLe
import HandS.TupAny
import HandS.IsInst
import HandS.Zip
import HandS.Words
import HandS.Codes
import KE.BitLaws
import KE.KBits
import PySem.Challenge.RW_stackwarden_k22_what_is_beneath
set_option Elab.async false
set_option linter.all false
set_option autoImplicit false
set_option maxRecDepth 100000
set_option maxHeartbeats 8000000
namespace RR
open PySem L2

inductive D where
  | non | bl (b : Bool) | int (i : Int) | str (s : Str)
  | tup (xs : List D) | lst (xs : List D) | dic (kvs : List (Key × D)) | obj (n : Nat)

abbrev LINE : Nat := 16777216

mutual
def D.pd : D → PyData
  | .non => .none | .bl b => .bool b | .int i => .int i | .str s => .str s
  | .tup xs => .tuple (pds xs) | .lst xs => .list (pds xs) | .dic _ => .dict [] | .obj _ => .dict []
def pds : List D → List PyData
  | [] => []
  | x :: xs => x.pd :: pds xs
end
mutual
/-- no list, no dict, no object within -/
def D.noL : D → Bool
  | .non => true | .bl _ => true | .int _ => true | .str _ => true
  | .tup xs => noLs xs | .lst _ => false | .dic _ => false | .obj _ => false
def noLs : List D → Bool
  | [] => true
  | x :: xs => x.noL && noLs xs
end
def D.flat : D → Bool
  | .non => true | .bl _ => true | .int _ => true | .str _ => true | _ => false
/-- a fresh list of such things, or such a thing -/
def D.noLq (d : D) (fr : Bool) : Bool := match d with
  | .lst xs => fr && noLs xs
  | d => d.noL

inductive Sl where
  | un | val (d : D) | own (d : D)
structure RS where
  sl : List Sl
structure Exn where
  cls : Str
  fs : List (Str × D)
inductive Out where
  | ok (d : D) (fr : Bool) (s : RS) | exc (x : Exn) (s : RS) | stuck
inductive OutL where
  | ok (ds : List D) (s : RS) | exc (x : Exn) (s : RS) | stuck
inductive OutB where
  | ok (b : Bool) (s : RS) | exc (x : Exn) (s : RS) | stuck
inductive SO where
  | nx (s : RS) | rt (d : D) (fr : Bool) (s : RS) | bk (s : RS) | ct (s : RS) | exc (x : Exn) (s : RS) | stuck
inductive FR where
  | ok (d : D) (fr : Bool) | exc (x : Exn) | stuck

def Out.bnd (o : Out) (k : D → RS → Out) : Out := match o with
  | .ok d _ s => k d s | .exc x s => .exc x s | .stuck => .stuck
def Out.bndB (o : Out) (k : D → RS → OutB) : OutB := match o with
  | .ok d _ s => k d s | .exc x s => .exc x s | .stuck => .stuck
def Out.bndL (o : Out) (k : D → RS → OutL) : OutL := match o with
  | .ok d _ s => k d s | .exc x s => .exc x s | .stuck => .stuck
def Out.bndS (o : Out) (k : D → Bool → RS → SO) : SO := match o with
  | .ok d fr s => k d fr s | .exc x s => .exc x s | .stuck => .stuck
def OutL.bnd (o : OutL) (k : List D → RS → Out) : Out := match o with
  | .ok d s => k d s | .exc x s => .exc x s | .stuck => .stuck
def OutL.bndL (o : OutL) (k : List D → RS → OutL) : OutL := match o with
  | .ok d s => k d s | .exc x s => .exc x s | .stuck => .stuck
def OutL.bndS (o : OutL) (k : List D → RS → SO) : SO := match o with
  | .ok d s => k d s | .exc x s => .exc x s | .stuck => .stuck
def OutB.bnd (o : OutB) (k : Bool → RS → Out) : Out := match o with
  | .ok d s => k d s | .exc x s => .exc x s | .stuck => .stuck
def OutB.bndB (o : OutB) (k : Bool → RS → OutB) : OutB := match o with
  | .ok d s => k d s | .exc x s => .exc x s | .stuck => .stuck
def OutB.bndS (o : OutB) (k : Bool → RS → SO) : SO := match o with
  | .ok d s => k d s | .exc x s => .exc x s | .stuck => .stuck
def SO.thn (o : SO) (k : RS → SO) : SO := match o with
  | .nx s => k s | r => r
/-- a pure result -/
def pur (s : RS) : Option (D × Bool) → Out
  | some (d, fr) => .ok d fr s
  | none => .stuck

def mulOk (i j : Int) : Bool := decide (-(2 ^ 64) < i ∧ i < 2 ^ 64) || decide (-(2 ^ 64) < j ∧ j < 2 ^ 64) || decide (i.natAbs.log2 + j.natAbs.log2 < 1000000)
def powOk (i j : Int) : Bool := decide (0 ≤ j ∧ j ≤ 1000000 ∧ i.natAbs < 2 ^ 64)
def binD (op : Operator) (x y : D) : Option (D × Bool) := match op, x, y with
  | .Add, .int i, .int j => some (.int (i + j), false)
  | .Add, .str s, .str t => if s.length + t.length ≤ LINE then some (.str (s ++ t), false) else none
  | .Add, .lst xs, .lst ys => if xs.length + ys.length ≤ LINE then some (.lst (xs ++ ys), true) else none
  | .Add, .tup xs, .tup ys => if xs.length + ys.length ≤ LINE then some (.tup (xs ++ ys), false) else none
  | .Sub, .int i, .int j => some (.int (i - j), false)
  | .Mult, .int i, .int j => if mulOk i j then some (.int (i * j), false) else none
  | .Mult, .lst xs, .int k => if decide (-(2 ^ 63) ≤ k ∧ k < 2 ^ 63) && decide (xs.length * k.toNat ≤ LINE) then some (.lst (List.replicate k.toNat xs).flatten, true) else none
  | .Mult, .tup xs, .int k => if decide (2 ≤ k ∧ k ≤ 1000 ∧ xs ≠ [] ∧ xs.length ≤ 1000) then some (.tup (List.replicate k.toNat xs).flatten, false) else none
  | .FloorDiv, .int i, .int j => if decide (0 < j ∧ j.natAbs.log2 < 9000) then some (.int (i / j), false) else if decide (j ≠ 0 ∧ j.natAbs < 1073741824) then some (.int (i.fdiv j), false) else none
  | .Mod, .int i, .int j => if 0 < j then some (.int (i % j), false) else if j ≠ 0 then some (.int (i.fmod j), false) else none
  | .Pow, .int i, .int j => if powOk i j then some (.int (i ^ j.toNat), false) else none
  | .LShift, .int i, .int j => if powOk i j then some (.int (i * 2 ^ j.toNat), false) else none
  | .RShift, .int i, .int j => if 0 ≤ j then some (.int (i / 2 ^ j.toNat), false) else none
  | .BitAnd, .int i, .int j => some (.int (Builtin.bitAnd i j), false)
  | .BitOr, .int i, .int j => some (.int (Builtin.bitOr i j), false)
  | _, _, _ => none

def eqD (x y : D) : Option Bool := match x, y with
  | .non, .non => some true | .non, .int _ => some false | .int _, .non => some false | .non, .bl _ => some false | .bl _, .non => some false | .non, .str _ => some false | .str _, .non => some false
  | .int i, .int j => some (decide (i = j)) | .bl i, .bl j => some (decide (i = j)) | .str i, .str j => some (decide (i = j))
  | .int _, .str _ => some false | .str _, .int _ => some false | .bl _, .str _ => some false | .str _, .bl _ => some false
  | x, y => if SeqAt.shaped x.pd && SeqAt.shaped y.pd then some (PyData.eqv x.pd y.pd) else none
def inD (x y : D) : Option Bool := match y with
  | .lst ys => if x.flat && ys.all D.flat then some (ys.any fun z => PyData.eqv z.pd x.pd) else
      if SeqAt.shaped x.pd && SeqAt.shaped (D.lst ys).pd then some (ys.any fun z => PyData.eqv z.pd x.pd) else none
  | .tup ys => if x.flat && ys.all D.flat then some (ys.any fun z => PyData.eqv z.pd x.pd) else none
  | .str t => match x with
    | .str s => some (!(Builtin.Str.occurrences t s 0 t.length 1).isEmpty)
    | _ => none
  | _ => none
def cmpD (op : CmpOp) (x y : D) : Option Bool := match op with
  | .Eq => eqD x y
  | .NotEq => (eqD x y).map (!·)
  | .Lt => match x, y with
    | .int i, .int j => some (decide (i < j)) | .str i, .str j => some (decide (i.cps.toList < j.cps.toList)) | _, _ => none
  | .LtE => match x, y with
    | .int i, .int j => some (decide (i ≤ j)) | _, _ => none
  | .Gt => match x, y with
    | .int i, .int j => some (decide (j < i)) | _, _ => none
  | .GtE => match x, y with
    | .int i, .int j => some (decide (j ≤ i)) | _, _ => none
  | .In => inD x y
  | .NotIn => (inD x y).map (!·)
  | .Is => match y with
    | .non => match x with | .non => some true | _ => some false
    | .bl b => match x with | .bl a => some (decide (a = b)) | _ => none
    | _ => none
  | .IsNot => match y with
    | .non => match x with | .non => some false | _ => some true
    | .bl b => match x with | .bl a => some (!decide (a = b)) | _ => none
    | _ => none

def cutL {α : Type} (xs : List α) (lo hi : Option Int) : List α := (xs.drop (HT.sIx xs.length 0 lo)).take (HT.sIx xs.length xs.length hi - HT.sIx xs.length 0 lo)
def idxD (x y : D) : Option (D × Bool) := match x, y with
  | .lst xs, .int i => (atI xs i).map fun d => (d, false)
  | .tup xs, .int i => (atI xs i).map fun d => (d, false)
  | .str z, .int i => if z.length ≤ LINE then (atI z.cps.toList i).map fun c => (.str ⟨#[c]⟩, false) else none
  | _, _ => none
def slcD (x : D) (lo hi : Option Int) : Option (D × Bool) := match x with
  | .lst xs => some (.lst (cutL xs lo hi), true)
  | .tup xs => some (.tup (cutL xs lo hi), false)
  | .str z => if z.length ≤ LINE then some (.str (cutS z lo hi), false) else none
  | _ => none
def oiD : D → Option (Option Int)
  | .non => some none | .int i => some (some i) | _ => none
def tru : D → Option Bool
  | .non => some false | .bl b => some b | .int i => some (decide (i ≠ 0))
  | .str s => if s.length ≤ LINE then some (decide (s.length ≠ 0)) else none
  | .tup xs => some (!xs.isEmpty) | .lst xs => some (!xs.isEmpty) | .dic kvs => some (!kvs.isEmpty) | .obj _ => none
def isiD (ty : Str) (x : D) : Option Bool :=
  if ty = "int" then (match x with | .int _ => some true | .bl _ => some true | .obj _ => none | _ => some false)
  else if ty = "bool" then (match x with | .bl _ => some true | .obj _ => none | _ => some false)
  else if ty = "str" then (match x with | .str _ => some true | .obj _ => none | _ => some false)
  else if ty = "tuple" then (match x with | .tup _ => some true | .obj _ => none | _ => some false)
  else if ty = "list" then (match x with | .lst _ => some true | .obj _ => none | _ => some false)
  else none
def allBl : List D → Option (List Bool)
  | [] => some []
  | .bl b :: r => (allBl r).map (b :: ·)
  | _ :: _ => none
def allInt : List D → Option (List Int)
  | [] => some []
  | .int b :: r => (allInt r).map (b :: ·)
  | _ :: _ => none
/-- built-ins by name -/
def biD (f : Str) (as : List D) : Option (D × Bool) :=
  if f = "len" then (match as with
    | [.lst xs] => some (.int xs.length, false) | [.tup xs] => some (.int xs.length, false)
    | [.str s] => if s.length ≤ LINE then some (.int s.length, false) else none
    | _ => none)
  else if f = "list" then (match as with
    | [.lst xs] => some (.lst xs, true) | [.tup xs] => some (.lst xs, true) | _ => none)
  else if f = "tuple" then (match as with
    | [.lst xs] => some (.tup xs, false) | [.tup xs] => some (.tup xs, false) | _ => none)
  else if f = "int" then (match as with
    | [.int i] => some (.int i, false) | [.bl b] => some (.int (if b then 1 else 0), false) | _ => none)
  else if f = "max" then (match as with
    | [.int i, .int j] => some (.int (if j > i then j else i), false) | _ => none)
  else if f = "min" then (match as with
    | [.int i, .int j] => some (.int (if j < i then j else i), false) | _ => none)
  else if f = "all" then (match as with
    | [.lst xs] => (allBl xs).map fun bs => (.bl (bs.all id), false) | _ => none)
  else if f = "sum" then (match as with
    | [.lst xs] => (allInt xs).map fun bs => (.int bs.sum, false) | _ => none)
  else none
/-- range(..) as items -/
def rngD : List D → Option (List D)
  | [.int n] => if decide (-(2 ^ 62) ≤ n ∧ n ≤ LINE) then some ((List.range n.toNat).map fun (k : Nat) => .int (0 + (k : Int))) else none
  | [.int a, .int b] => if decide (-(2 ^ 62) ≤ a ∧ a < 2 ^ 62 ∧ -(2 ^ 62) ≤ b ∧ b < 2 ^ 62 ∧ b - a ≤ LINE) then some ((List.range (b - a).toNat).map fun (k : Nat) => .int (a + (k : Int))) else none
  | _ => none
def seqD : D → Option (List D)
  | .lst xs => some xs | .tup xs => some xs | _ => none
def enumD : Nat → List D → List D
  | _, [] => []
  | k, x :: xs => .tup [.int k, x] :: enumD (k + 1) xs
def zipD : List D → List D → List D
  | x :: xs, y :: ys => .tup [x, y] :: zipD xs ys
  | _, _ => []

def zipDD (x y : D) : Option (List D) := match x, y with
  | .lst xs, .lst ys => some (zipD xs ys) | .tup xs, .tup ys => some (zipD xs ys) | _, _ => none
def enumDD : D → Option (List D)
  | .lst xs => some (enumD 0 xs) | _ => none
def revDD : D → Option (List D)
  | .lst xs => some xs.reverse | _ => none

inductive Tg where
  | nm (i : Nat) | tp (ts : List Nat)
mutual
inductive C where
  | int (i : Int) | str (s : Str) | bl (b : Bool) | non
  | var (i : Nat) | pk (i : Nat) | glob (x : Str)
  | bin (op : Operator) (a b : C) | neg (a : C) | not (a : C)
  | and (as : Cs) | or (as : Cs)
  | cmp (op : CmpOp) (a b : C) | chn (op op' : CmpOp) (a b c : C)
  | ite (c a b : C)
  | tup (es : Cs) | lst (es : Cs)
  | idx (a i : C) | slc (a : C) (lo hi : Oc)
  | call (f : Str) (as : Cs)
  | bi (f : Str) (as : Cs) | isi (ty : Str) (a : C)
  | lc (elt : C) (tg : Tg) (it : It) (cd : Oc)
inductive Oc where
  | no | so (c : C)
inductive Cs where
  | nil | cons (c : C) (r : Cs)
inductive It where
  | seq (c : C) | rng (as : Cs) | enm (c : C) | zip (a b : C) | rev (c : C)
end
mutual
inductive S where
  | set (i : Nat) (c : C) | unp (ts : List Nat) (c : C)
  | sidx (i : Nat) (ix c : C) | aug (i : Nat) (op : Operator) (c : C)
  | app (i : Nat) (c : C) | pop (i : Nat)
  | ex (c : C) | ret (c : C) | retv (i : Nat) | retN
  | ite (c : C) (a b : Ss)
  | for (tg : Tg) (it : It) (b : Ss) | whl (c : C) (b : Ss)
  | pas | cont | brk
inductive Ss where
  | nil | cons (s : S) (r : Ss)
end
def Cs.len : Cs → Nat
  | .nil => 0 | .cons _ r => r.len + 1
def It.sz : It → Bool
  | .seq _ => true | .rng _ => true | _ => false
def Cs.hasPk : Cs → Bool
  | .nil => false
  | .cons (.pk _) _ => true
  | .cons _ r => r.hasPk

def asg (tg : Tg) (d : D) (s : RS) : Option RS := match tg with
  | .nm i => some ⟨s.sl.set i (.val d)⟩
  | .tp ts => match d with
    | .tup ds => if ds.length = ts.length then some ⟨(ts.zip ds).foldl (fun sl p => sl.set p.1 (.val p.2)) s.sl⟩ else none
    | _ => none
def Tg.ix : Tg → List Nat
  | .nm i => [i] | .tp ts => ts
def peek (i : Nat) (s : RS) : Out := match s.sl[i]? with
  | some (.val d) => .ok d false s | some (.own d) => .ok d false s | _ => .stuck
def take (i : Nat) (s : RS) : Out := match s.sl[i]? with
  | some (.val d) => .ok d false s | some (.own d) => .ok d false ⟨s.sl.set i (.val d)⟩ | _ => .stuck
structure Cfg where
  call : Str → List D → FR
  glob : Str → Option D
def pkO (Γ : Cfg) (c : C) (r : Out) (s : RS) : Out := match c with
  | .pk i => peek i s
  | .glob x => match Γ.glob x with | some d => .ok d false s | none => .stuck
  | _ => r
inductive OutO where
  | ok (d : Option D) (s : RS) | exc (x : Exn) (s : RS) | stuck
def Out.bndO (o : Out) (k : D → RS → OutO) : OutO := match o with
  | .ok d _ s => k d s | .exc x s => .exc x s | .stuck => .stuck
def OutB.bndO (o : OutB) (k : Bool → RS → OutO) : OutO := match o with
  | .ok d s => k d s | .exc x s => .exc x s | .stuck => .stuck
/-- the items of a comprehension -/
def lcL (f : D → RS → OutO) : List D → List D → RS → OutL
  | [], acc, s => .ok acc s
  | x :: xs, acc, s => match f x s with
    | .ok (some y) s1 => lcL f xs (acc ++ [y]) s1
    | .ok none s1 => lcL f xs acc s1
    | .exc e s1 => .exc e s1
    | .stuck => .stuck
/-- a comprehension's own slots are free, and stand again behind it -/
def freeAt (sl : List Sl) (is : List Nat) : Bool := is.all fun i => match sl[i]? with | some (.own _) => false | some _ => true | none => false
def wipeR (sl : List Sl) : List Nat → List Sl
  | [] => sl
  | i :: is => (wipeR sl is).set i .un
def backR (old : List Sl) (sl : List Sl) : List Nat → List Sl
  | [] => sl
  | i :: is => (backR old sl is).set i (old.getD i .un)
def lcStep (tg : Tg) (cd : RS → OutB) (el : RS → Out) (x : D) (s2 : RS) : OutO := match asg tg x s2 with
  | none => .stuck
  | some s3 => (cd s3).bndO fun b s4 => match b with
    | true => (el s4).bndO fun d s5 => .ok (some d) ⟨wipeR s5.sl tg.ix⟩
    | false => .ok none ⟨wipeR s4.sl tg.ix⟩
def forStep (tg : Tg) (b : RS → SO) (x : D) (s2 : RS) : SO := match asg tg x s2 with
  | some s3 => b s3 | none => .stuck
def iok (f : Option (List D)) (s : RS) : OutL := match f with
  | some ds => .ok ds s | none => .stuck
def blB (x : D) (s : RS) : OutB := match x with | .bl b => .ok b s | _ => .stuck
def truB (x : D) (s : RS) : OutB := match tru x with | some b => .ok b s | none => .stuck
section
variable (Γ : Cfg)
mutual
def evE : C → RS → Out
  | .int i, s => .ok (.int i) false s
  | .str x, s => .ok (.str x) false s
  | .bl b, s => .ok (.bl b) false s
  | .non, s => .ok .non false s
  | .var i, s => take i s
  | .pk _, _ => .stuck
  | .glob x, s => match Γ.glob x with
    | some d => if d.noL then .ok d false s else .stuck
    | none => .stuck
  | .bin op a b, s => (pkO Γ a (evE a s) s).bnd fun x s1 => (pkO Γ b (evE b s1) s1).bnd fun y s2 => pur s2 (binD op x y)
  | .neg a, s => (evE a s).bnd fun x s1 => match x with | .int i => .ok (.int (-i)) false s1 | _ => .stuck
  | .not a, s => (pkO Γ a (evE a s) s).bnd fun x s1 => match tru x with | some b => .ok (.bl (!b)) false s1 | none => .stuck
  | .and as, s => evAnd as s
  | .or as, s => evOr as s
  | .cmp op a b, s => (pkO Γ a (evE a s) s).bnd fun x s1 => (pkO Γ b (evE b s1) s1).bnd fun y s2 => pur s2 ((cmpD op x y).map fun c => (.bl c, false))
  | .chn op op' a b c, s => (pkO Γ a (evE a s) s).bnd fun x s1 => (pkO Γ b (evE b s1) s1).bnd fun y s2 => match cmpD op x y with
    | some true => (pkO Γ c (evE c s2) s2).bnd fun z s3 => pur s3 ((cmpD op' y z).map fun k => (.bl k, false))
    | some false => .ok (.bl false) false s2
    | none => .stuck
  | .ite c a b, s => (evT c s).bnd fun k s1 => match k with | true => evE a s1 | false => evE b s1
  | .tup es, s => (evCs es s).bnd fun ds s1 => if ds.length ≤ LINE then .ok (.tup ds) false s1 else .stuck
  | .lst es, s => (evCs es s).bnd fun ds s1 => if ds.length ≤ LINE then .ok (.lst ds) true s1 else .stuck
  | .idx a i, s => (pkO Γ a (evE a s) s).bnd fun x s1 => (evE i s1).bnd fun y s2 => pur s2 (idxD x y)
  | .slc a lo hi, s => (pkO Γ a (evE a s) s).bnd fun x s1 => (evOc lo s1).bnd fun l s2 => match oiD l with
    | none => .stuck
    | some l' => (evOc hi s2).bnd fun h s3 => match oiD h with
      | none => .stuck
      | some h' => pur s3 (slcD x l' h')
  | .call f as, s => (evOs as s).bnd fun ds s1 => match Γ.call f ds with
    | .ok d fr => if as.hasPk && !d.noLq fr then .stuck else .ok d fr s1
    | .exc x => .exc x s1
    | .stuck => .stuck
  | .bi f as, s => (evOs as s).bnd fun ds s1 => pur s1 (biD f ds)
  | .isi ty a, s => (pkO Γ a (evE a s) s).bnd fun x s1 => pur s1 ((isiD ty x).map fun b => (.bl b, false))
  | .lc elt tg it cd, s => (evIt it s).bnd fun xs s1 => if freeAt s1.sl tg.ix && (it.sz || decide (xs.length ≤ LINE)) then
      (lcL (lcStep tg (evOcT cd) (evE elt)) xs [] ⟨wipeR s1.sl tg.ix⟩).bnd fun ys s2 => .ok (.lst ys) true ⟨backR s1.sl s2.sl tg.ix⟩
      else .stuck
/-- as a test -/
def evT : C → RS → OutB
  | .and as, s => evTAnd as s
  | .or as, s => evTOr as s
  | .not a, s => (evT a s).bndB fun b s1 => .ok (!b) s1
  | .cmp op a b, s => (evE (.cmp op a b) s).bndB blB
  | .chn op op' a b c, s => (evE (.chn op op' a b c) s).bndB blB
  | .ite _ _ _, _ => .stuck
  | c, s => (pkO Γ c (evE c s) s).bndB truB
def evAnd : Cs → RS → Out
  | .nil, _ => .stuck
  | .cons a .nil, s => evE a s
  | .cons a r, s => (evE a s).bnd fun x s1 => match x with
    | .bl true => evAnd r s1 | .bl false => .ok (.bl false) false s1 | _ => .stuck
def evOr : Cs → RS → Out
  | .nil, _ => .stuck
  | .cons a .nil, s => evE a s
  | .cons a r, s => (evE a s).bnd fun x s1 => match x with
    | .bl true => .ok (.bl true) false s1 | .bl false => evOr r s1 | _ => .stuck
def evTAnd : Cs → RS → OutB
  | .nil, _ => .stuck
  | .cons a .nil, s => evT a s
  | .cons a r, s => (evT a s).bndB fun x s1 => match x with | true => evTAnd r s1 | false => .ok false s1
def evTOr : Cs → RS → OutB
  | .nil, _ => .stuck
  | .cons a .nil, s => evT a s
  | .cons a r, s => (evT a s).bndB fun x s1 => match x with | true => .ok true s1 | false => evTOr r s1
def evOc : Oc → RS → Out
  | .no, s => .ok .non false s
  | .so c, s => (evE c s).bnd fun x s1 => match x with | .int i => .ok (.int i) false s1 | _ => .stuck
def evOcT : Oc → RS → OutB
  | .no, s => .ok true s
  | .so c, s => evT c s
def evCs : Cs → RS → OutL
  | .nil, s => .ok [] s
  | .cons c r, s => (evE c s).bndL fun x s1 => (evCs r s1).bndL fun xs s2 => .ok (x :: xs) s2
def evOs : Cs → RS → OutL
  | .nil, s => .ok [] s
  | .cons c r, s => (pkO Γ c (evE c s) s).bndL fun x s1 => (evOs r s1).bndL fun xs s2 => .ok (x :: xs) s2
def evIt : It → RS → OutL
  | .seq c, s => (evE c s).bndL fun x s1 => iok (seqD x) s1
  | .rng as, s => (evOs as s).bndL fun ds s1 => iok (rngD ds) s1
  | .enm c, s => (evE c s).bndL fun x s1 => iok (enumDD x) s1
  | .zip a b, s => (evE a s).bndL fun x s1 => (evE b s1).bndL fun y s2 => iok (zipDD x y) s2
  | .rev c, s => (evE c s).bndL fun x s1 => iok (revDD x) s1
end
end

def forL (f : D → RS → SO) : List D → RS → SO
  | [], s => .nx s
  | x :: xs, s => match f x s with
    | .nx s1 => forL f xs s1 | .ct s1 => forL f xs s1 | .bk s1 => .nx s1
    | .rt d fr s1 => .rt d fr s1 | .exc e s1 => .exc e s1 | .stuck => .stuck
def whlN (c : RS → OutB) (b : RS → SO) : Nat → RS → SO
  | 0, _ => .stuck
  | n + 1, s => match c s with
    | .ok true s1 => (match b s1 with
      | .nx s2 => whlN c b n s2 | .ct s2 => whlN c b n s2 | .bk s2 => .nx s2
      | .rt d fr s2 => .rt d fr s2 | .exc e s2 => .exc e s2 | .stuck => .stuck)
    | .ok false s1 => .nx s1
    | .exc e s1 => .exc e s1
    | .stuck => .stuck
open Classical in
noncomputable def whl (c : RS → OutB) (b : RS → SO) (s : RS) : SO := if h : ∃ n, whlN c b n s ≠ .stuck then whlN c b (Classical.choose h) s else .stuck
theorem whlN_succ {c : RS → OutB} {b : RS → SO} : ∀ {n : Nat} {s : RS}, whlN c b n s ≠ .stuck → whlN c b (n + 1) s = whlN c b n s
  | 0, _, h => absurd rfl h
  | n + 1, s, h => by
    rw [whlN] at h
    rw [whlN, whlN]
    cases hc : c s with
    | ok k s1 =>
      rw [hc] at h
      cases k with
      | true =>
        simp only at h ⊢
        cases hb : b s1 with
        | nx s2 => rw [hb] at h; exact whlN_succ h
        | ct s2 => rw [hb] at h; exact whlN_succ h
        | bk s2 => rfl
        | rt d fr s2 => rfl
        | exc e s2 => rfl
        | stuck => rfl
      | false => rfl
    | exc e s1 => rfl
    | stuck => rfl
theorem whlN_le {c : RS → OutB} {b : RS → SO} {n m : Nat} {s : RS} (h : whlN c b n s ≠ .stuck) (le : n ≤ m) : whlN c b m s = whlN c b n s := by
  induction le with
  | refl => rfl
  | step le ih => rw [whlN_succ (by rw [ih]; exact h), ih]
theorem whl_of {c : RS → OutB} {b : RS → SO} {n : Nat} {s : RS} (h : whlN c b n s ≠ .stuck) : whl c b s = whlN c b n s := by
  have hx : ∃ n, whlN c b n s ≠ .stuck := ⟨n, h⟩
  unfold whl
  rw [dif_pos hx]
  have h2 := Classical.choose_spec hx
  rcases Nat.le_total n (Classical.choose hx) with l | l
  · exact whlN_le h l
  · exact (whlN_le h2 l).symm
theorem whl_ex {c : RS → OutB} {b : RS → SO} {s : RS} (h : whl c b s ≠ .stuck) : ∃ n, whlN c b n s = whl c b s := by
  unfold whl at h ⊢
  by_cases hx : ∃ n, whlN c b n s ≠ .stuck
  · rw [dif_pos hx]; exact ⟨_, rfl⟩
  · rw [dif_neg hx] at h; exact absurd rfl h
/-- one turn -/
theorem whl_eq (c : RS → OutB) (b : RS → SO) (s : RS) : whl c b s = match c s with
    | .ok true s1 => (match b s1 with
      | .nx s2 => whl c b s2 | .ct s2 => whl c b s2 | .bk s2 => .nx s2
      | .rt d fr s2 => .rt d fr s2 | .exc e s2 => .exc e s2 | .stuck => .stuck)
    | .ok false s1 => .nx s1
    | .exc e s1 => .exc e s1
    | .stuck => .stuck := by
  have go : ∀ s2, (∀ n, whlN c b (n + 1) s = whlN c b n s2) → whl c b s = whl c b s2 := by
    intro s2 h
    by_cases hx : ∃ n, whlN c b n s2 ≠ .stuck
    · obtain ⟨n, hn⟩ := hx
      rw [whl_of hn, whl_of (n := n + 1) (by rw [h]; exact hn), h]
    · have n1 : whl c b s2 = .stuck := by unfold whl; rw [dif_neg hx]
      have n2 : ¬ ∃ n, whlN c b n s ≠ .stuck := by
        rintro ⟨n, hn⟩
        cases n with
        | zero => exact hn rfl
        | succ n => exact hx ⟨n, by rw [← h]; exact hn⟩
      rw [n1]
      unfold whl
      rw [dif_neg n2]
  have fin : ∀ r, (∀ n, whlN c b (n + 1) s = r) → whl c b s = r := by
    intro r h
    by_cases hr : r = .stuck
    · subst hr
      have n2 : ¬ ∃ n, whlN c b n s ≠ .stuck := by
        rintro ⟨n, hn⟩
        cases n with
        | zero => exact hn rfl
        | succ n => exact hn (h n)
      unfold whl
      rw [dif_neg n2]
    · rw [whl_of (n := 1) (by rw [h]; exact hr), h]
  cases hc : c s with
  | ok k s1 =>
    cases k with
    | true =>
      simp only
      cases hb : b s1 with
      | nx s2 => exact go s2 fun n => by rw [whlN, hc]; simp only [hb]
      | ct s2 => exact go s2 fun n => by rw [whlN, hc]; simp only [hb]
      | bk s2 => exact fin _ fun n => by rw [whlN, hc]; simp only [hb]
      | rt d fr s2 => exact fin _ fun n => by rw [whlN, hc]; simp only [hb]
      | exc e s2 => exact fin _ fun n => by rw [whlN, hc]; simp only [hb]
      | stuck => exact fin _ fun n => by rw [whlN, hc]; simp only [hb]
    | false => exact fin _ fun n => by rw [whlN, hc]
  | exc e s1 => exact fin _ fun n => by rw [whlN, hc]
  | stuck => exact fin _ fun n => by rw [whlN, hc]

def isC : D → Bool
  | .lst _ => true | .dic _ => true | _ => false
/-- what a name holds: a fresh list is its own -/
def slOf (d : D) (fr : Bool) : Sl := if fr && isC d then .own d else .val d
/-- a name that holds a list of its own; that holds a value -/
def ownAt (i : Nat) (s : RS) (r : SO) : SO := match s.sl[i]? with
  | some (.own (.lst _)) => r | _ => .stuck
def valAt (i : Nat) (s : RS) (r : SO) : SO := match s.sl[i]? with
  | some (.val _) => r | _ => .stuck
def unpS (ts : List Nat) (d : D) (s : RS) : SO := match d with
  | .tup ds => if ds.length = ts.length then .nx ⟨(ts.zip ds).foldl (fun sl p => sl.set p.1 (.val p.2)) s.sl⟩ else .stuck
  | _ => .stuck
def setS (i : Nat) (k d : D) (s : RS) : SO := match s.sl[i]?, k with
  | some (.own (.lst xs)), .int j => (match ixN xs.length j with
    | some n => .nx ⟨s.sl.set i (.own (.lst (xs.set n d)))⟩
    | none => .stuck)
  | _, _ => .stuck
def augS (i : Nat) (op : Operator) (y : D) (s : RS) : SO := match op, s.sl[i]?, y with
  | .Add, some (.val (.int a)), .int b => .nx ⟨s.sl.set i (.val (.int (a + b)))⟩
  | .Sub, some (.val (.int a)), .int b => .nx ⟨s.sl.set i (.val (.int (a - b)))⟩
  | _, _, _ => .stuck
def appS (i : Nat) (d : D) (s : RS) : SO := match s.sl[i]? with
  | some (.own (.lst xs)) => if xs.length < LINE then .nx ⟨s.sl.set i (.own (.lst (xs ++ [d])))⟩ else .stuck
  | _ => .stuck
def popS (i : Nat) (s : RS) : SO := match s.sl[i]? with
  | some (.own (.lst xs)) => if xs = [] then .stuck else .nx ⟨s.sl.set i (.own (.lst xs.dropLast))⟩
  | _ => .stuck
def retS (i : Nat) (s : RS) : SO := match s.sl[i]? with
  | some (.val d) => .rt d false s | some (.own d) => .rt d true ⟨s.sl.set i .un⟩ | _ => .stuck
section
variable (Γ : Cfg)
mutual
noncomputable def evS : S → RS → SO
  | .set i c, s => (evE Γ c s).bndS fun d fr s1 => .nx ⟨s1.sl.set i (slOf d fr)⟩
  | .unp ts c, s => (evE Γ c s).bndS fun d _ s1 => unpS ts d s1
  | .sidx i ix c, s => (evE Γ c s).bndS fun d _ s1 => ownAt i s1 ((evE Γ ix s1).bndS fun k _ s2 => setS i k d s2)
  | .aug i op c, s => valAt i s ((evE Γ c s).bndS fun y _ s1 => augS i op y s1)
  | .app i c, s => ownAt i s ((evE Γ c s).bndS fun d _ s1 => appS i d s1)
  | .pop i, s => popS i s
  | .ex c, s => (evE Γ c s).bndS fun _ _ s1 => .nx s1
  | .ret c, s => (evE Γ c s).bndS fun d fr s1 => .rt d fr s1
  | .retv i, s => retS i s
  | .retN, s => .rt .non false s
  | .ite c a b, s => (evT Γ c s).bndS fun k s1 => match k with | true => evSs a s1 | false => evSs b s1
  | .for tg it b, s => (evIt Γ it s).bndS fun xs s1 => forL (forStep tg (evSs b)) xs s1
  | .whl c b, s => whl (evT Γ c) (evSs b) s
  | .pas, s => .nx s
  | .cont, s => .ct s
  | .brk, s => .bk s
noncomputable def evSs : Ss → RS → SO
  | .nil, s => .nx s
  | .cons a r, s => (evS a s).thn (evSs r)
end
end
structure Fn where
  ps : Nat
  N : List Str
  body : Ss
noncomputable def runF (Γ : Cfg) (fn : Fn) (as : List D) : FR :=
  if as.length = fn.ps then
    match evSs Γ fn.body ⟨as.map .val ++ List.replicate (fn.N.length - fn.ps) .un⟩ with
    | .nx _ => .ok .non false
    | .rt d fr _ => .ok d fr
    | .exc x _ => .exc x
    | _ => .stuck
  else .stuck
structure Tb where
  fn : Str → Option Fn
  glob : Str → Option D
noncomputable def callF (T : Tb) : Nat → Str → List D → FR
  | 0, _, _ => .stuck
  | n + 1, f, as => match T.fn f with
    | some fn => runF ⟨callF T n, T.glob⟩ fn as
    | none => .stuck
noncomputable abbrev Tb.cfg (T : Tb) (n : Nat) : Cfg := ⟨callF T n, T.glob⟩
end RR

namespace RR
open PySem L2

mutual
inductive Rep (K : PySem.W.Frag) (G : Hp) : D → V → Prop
  | non : Rep K G .non .non
  | bl (b : Bool) : Rep K G (.bl b) (.bl b)
  | int (i : Int) : Rep K G (.int i) (.int i)
  | str (x : Str) : Rep K G (.str x) (.str x)
  | lst {p : Addr} {vs : List V} {ds : List D} : SqL K G p vs → Reps K G ds vs → Rep K G (.lst ds) (.ref p)
  | tup {p : Addr} {vs : List V} {ds : List D} : SqT K G p vs → Reps K G ds vs → Rep K G (.tup ds) (.ref p)
  | dic {p : Addr} {kvs : List (Key × V)} {kds : List (Key × D)} : G p = some (.dK kvs) → KReps K G kds kvs → Rep K G (.dic kds) (.ref p)
inductive Reps (K : PySem.W.Frag) (G : Hp) : List D → List V → Prop
  | nil : Reps K G [] []
  | cons {d : D} {v : V} {ds : List D} {vs : List V} : Rep K G d v → Reps K G ds vs → Reps K G (d :: ds) (v :: vs)
inductive KReps (K : PySem.W.Frag) (G : Hp) : List (Key × D) → List (Key × V) → Prop
  | nil : KReps K G [] []
  | cons {k : Key} {d : D} {v : V} {ds : List (Key × D)} {vs : List (Key × V)} : Rep K G d v → KReps K G ds vs → KReps K G ((k, d) :: ds) ((k, v) :: vs)
end

def Sub (G H : Hp) : Prop := ∀ b o, G b = some o → H b = some o
theorem Sub.refl (G : Hp) : Sub G G := fun _ _ h => h
theorem Sub.trans {G H J : Hp} (a : Sub G H) (b : Sub H J) : Sub G J := fun c o h => b c o (a c o h)
theorem Sub.upd {G : Hp} {p : Addr} {o : HO} (h : G p = none) : Sub G (upd G p o) := fun b u e => by rw [upd_ne (ne_of_none e h)]; exact e
theorem Sub.upd2 {G H : Hp} {p : Addr} {o : HO} (s : Sub G H) (h : G p = none) : Sub G (L2.upd H p o) := fun b u e => by rw [upd_ne (ne_of_none e h)]; exact s _ _ e
theorem Sub.updB {G H : Hp} {p : Addr} {o : HO} (s : Sub G H) : Sub (L2.upd G p o) (L2.upd H p o) := fun b u e => by
  by_cases hb : b = p
  · subst hb; rw [upd_same] at e ⊢; exact e
  · rw [upd_ne hb] at e ⊢; exact s _ _ e
theorem Sub.none {G H : Hp} (s : Sub G H) {p : Addr} (h : H p = none) : G p = none := by
  cases q : G p with
  | none => rfl
  | some o => rw [s _ _ q] at h; cases h
theorem Sub.rd {G H : Hp} (s : Sub G H) {p : Addr} {u : HO} (h : Rd G p u) : Rd H p u := by
  rcases h with h | ⟨o, h⟩
  · exact .inl (s _ _ h)
  · exact .inr ⟨o, s _ _ h⟩
theorem Sub.sqT {K : PySem.W.Frag} {G H : Hp} (s : Sub G H) {p : Addr} {vs : List V} (h : SqT K G p vs) : SqT K H p vs := by
  rcases h with h | h
  · exact .inl (s.rd h)
  · exact .inr h
theorem Sub.sqL {K : PySem.W.Frag} {G H : Hp} (s : Sub G H) {p : Addr} {vs : List V} (h : SqL K G p vs) : SqL K H p vs := by
  rcases h with h | h
  · exact .inl (s.rd h)
  · exact .inr h
section
variable {K : PySem.W.Frag} {G H : Hp}
mutual
theorem Rep.mono (s : Sub G H) : ∀ {d : D} {v : V}, Rep K G d v → Rep K H d v
  | _, _, .non => .non
  | _, _, .bl b => .bl b
  | _, _, .int i => .int i
  | _, _, .str x => .str x
  | _, _, .lst h r => .lst (s.sqL h) (Reps.mono s r)
  | _, _, .tup h r => .tup (s.sqT h) (Reps.mono s r)
  | _, _, .dic h r => .dic (s _ _ h) (KReps.mono s r)
theorem Reps.mono (s : Sub G H) : ∀ {d : List D} {v : List V}, Reps K G d v → Reps K H d v
  | _, _, .nil => .nil
  | _, _, .cons h r => .cons (Rep.mono s h) (Reps.mono s r)
theorem KReps.mono (s : Sub G H) : ∀ {d : List (Key × D)} {v : List (Key × V)}, KReps K G d v → KReps K H d v
  | _, _, .nil => .nil
  | _, _, .cons h r => .cons (Rep.mono s h) (KReps.mono s r)
end
theorem Reps.length : ∀ {ds : List D} {vs : List V}, Reps K G ds vs → ds.length = vs.length
  | _, _, .nil => rfl
  | _, _, .cons _ r => by rw [List.length_cons, List.length_cons, Reps.length r]
theorem Reps.append : ∀ {ds es : List D} {vs us : List V}, Reps K G ds vs → Reps K G es us → Reps K G (ds ++ es) (vs ++ us)
  | _, _, _, _, .nil, s => s
  | _, _, _, _, .cons h r, s => .cons h (Reps.append r s)
theorem Reps.get : ∀ {ds : List D} {vs : List V} {i : Nat} {d : D}, Reps K G ds vs → ds[i]? = some d → ∃ v, vs[i]? = some v ∧ Rep K G d v
  | _, _, _, _, .nil, e => by simp at e
  | _, _, 0, _, .cons h _, e => by simp at e; subst e; exact ⟨_, rfl, h⟩
  | _, _, i + 1, d, .cons _ r, e => by
    obtain ⟨v, h1, h2⟩ := Reps.get (i := i) (d := d) r (by simpa using e)
    exact ⟨v, by simpa using h1, h2⟩
theorem Reps.getV : ∀ {ds : List D} {vs : List V} {i : Nat} {v : V}, Reps K G ds vs → vs[i]? = some v → ∃ d, ds[i]? = some d ∧ Rep K G d v
  | _, _, _, _, .nil, e => by simp at e
  | _, _, 0, _, .cons h _, e => by simp at e; subst e; exact ⟨_, rfl, h⟩
  | _, _, i + 1, v, .cons _ r, e => by
    obtain ⟨d, h1, h2⟩ := Reps.getV (i := i) (v := v) r (by simpa using e)
    exact ⟨d, by simpa using h1, h2⟩
theorem Reps.set {d : D} {v : V} (h : Rep K G d v) : ∀ {ds : List D} {vs : List V} (i : Nat), Reps K G ds vs → Reps K G (ds.set i d) (vs.set i v)
  | _, _, _, .nil => .nil
  | _, _, 0, .cons _ r => .cons h r
  | _, _, i + 1, .cons q r => .cons q (Reps.set h i r)
theorem Reps.take : ∀ {ds : List D} {vs : List V} (n : Nat), Reps K G ds vs → Reps K G (ds.take n) (vs.take n)
  | _, _, 0, _ => .nil
  | _, _, _ + 1, .nil => .nil
  | _, _, n + 1, .cons h r => .cons h (Reps.take n r)
theorem Reps.drop : ∀ {ds : List D} {vs : List V} (n : Nat), Reps K G ds vs → Reps K G (ds.drop n) (vs.drop n)
  | _, _, 0, r => r
  | _, _, _ + 1, .nil => .nil
  | _, _, n + 1, .cons _ r => Reps.drop n r
theorem Reps.reverse : ∀ {ds : List D} {vs : List V}, Reps K G ds vs → Reps K G ds.reverse vs.reverse
  | _, _, .nil => .nil
  | _, _, .cons h r => by rw [List.reverse_cons, List.reverse_cons]; exact Reps.append (Reps.reverse r) (.cons h .nil)
theorem Reps.rep : ∀ {ds : List D} {vs : List V} (n : Nat), Reps K G ds vs → Reps K G (List.replicate n ds).flatten (List.replicate n vs).flatten
  | _, _, 0, _ => .nil
  | _, _, n + 1, r => by
    rw [List.replicate_succ, List.replicate_succ, List.flatten_cons, List.flatten_cons]
    exact r.append (Reps.rep n r)
theorem Reps.cut {ds : List D} {vs : List V} (r : Reps K G ds vs) (lo hi : Option Int) : Reps K G (cutL ds lo hi) (cutV vs lo hi) := by
  unfold cutL cutV
  rw [r.length]
  exact (r.drop _).take _
theorem Reps.ints : ∀ {ds : List D} {vs : List V} {is : List Int}, Reps K G ds vs → allInt ds = some is → vs = is.map V.int
  | _, _, is, .nil, e => by simp only [allInt, Option.some.injEq] at e; subst e; rfl
  | _, _, is, .cons (d := d) h r, e => by
    cases d with
    | int i =>
      simp only [allInt] at e
      cases q : allInt _ with
      | none => rw [q] at e; cases e
      | some js =>
        rw [q] at e
        cases e
        cases h
        rw [Reps.ints r q]
        rfl
    | _ => simp [allInt] at e
theorem Reps.bls : ∀ {ds : List D} {vs : List V} {is : List Bool}, Reps K G ds vs → allBl ds = some is → vs = is.map V.bl
  | _, _, is, .nil, e => by simp only [allBl, Option.some.injEq] at e; subst e; rfl
  | _, _, is, .cons (d := d) h r, e => by
    cases d with
    | bl i =>
      simp only [allBl] at e
      cases q : allBl _ with
      | none => rw [q] at e; cases e
      | some js =>
        rw [q] at e
        cases e
        cases h
        rw [Reps.bls r q]
        rfl
    | _ => simp [allBl] at e
theorem Reps.ofInts : ∀ (is : List Int), Reps K G (is.map D.int) (is.map V.int)
  | [] => .nil
  | i :: is => .cons (.int i) (Reps.ofInts is)
end

def Cont (K : PySem.W.Frag) (G : Hp) (d : D) (o : HO) : Prop := match d with
  | .lst ds => ∃ vs, o = .lst vs ∧ Reps K G ds vs
  | .dic ds => ∃ vs, o = .dK vs ∧ KReps K G ds vs
  | _ => False
theorem Cont.mono {K : PySem.W.Frag} {G H : Hp} (s : Sub G H) {d : D} {o : HO} (h : Cont K G d o) : Cont K H d o := by
  cases d with
  | lst ds => obtain ⟨vs, e, r⟩ := h; exact ⟨vs, e, r.mono s⟩
  | dic ds => obtain ⟨vs, e, r⟩ := h; exact ⟨vs, e, r.mono s⟩
  | _ => exact (show False from h).elim
theorem Cont.rep {K : PySem.W.Frag} {G : Hp} {p : Addr} {d : D} {o : HO} (h : Cont K G d o) (n : G p = none) : Rep K (upd G p o) d (.ref p) := by
  have s : Sub G (upd G p o) := Sub.upd n
  cases d with
  | lst ds => obtain ⟨vs, e, r⟩ := h; subst e; exact .lst (.inl (.inl upd_same)) (r.mono s)
  | dic ds => obtain ⟨vs, e, r⟩ := h; subst e; exact .dic upd_same (r.mono s)
  | _ => exact (show False from h).elim
/-- a value that is looked at: what is in it is settled -/
inductive View (K : PySem.W.Frag) (G H : Hp) : D → V → Prop
  | rep {d : D} {v : V} : Rep K G d v → View K G H d v
  | lst {p : Addr} {vs : List V} {ds : List D} : SqL K H p vs → Reps K G ds vs → View K G H (.lst ds) (.ref p)
  | dic {p : Addr} {kvs : List (Key × V)} {kds : List (Key × D)} : H p = some (.dK kvs) → KReps K G kds kvs → View K G H (.dic kds) (.ref p)
theorem View.mono {K : PySem.W.Frag} {G G' H H' : Hp} (s : Sub G G') (t : Sub H H') {d : D} {v : V} (h : View K G H d v) : View K G' H' d v := by
  cases h with
  | rep r => exact .rep (r.mono s)
  | lst q r => exact .lst (t.sqL q) (r.mono s)
  | dic q r => exact .dic (t _ _ q) (r.mono s)
theorem View.of_cont {K : PySem.W.Frag} {G H : Hp} {d : D} {p : Addr} {o : HO} (e : H p = some o) (c : Cont K G d o) : View K G H d (.ref p) := by
  cases d with
  | lst ds => obtain ⟨vs, rfl, r⟩ := c; exact .lst (.inl (.of e)) r
  | dic ds => obtain ⟨vs, rfl, r⟩ := c; exact .dic e r
  | _ => exact (show False from c).elim
section
variable {K : PySem.W.Frag} {G H : Hp} {v : V}
theorem View.lstE (t : Sub G H) {ds : List D} (h : View K G H (.lst ds) v) : ∃ p vs, v = .ref p ∧ SqL K H p vs ∧ Reps K G ds vs := by
  cases h with
  | rep r => cases r with | lst q r => exact ⟨_, _, rfl, t.sqL q, r⟩
  | lst q r => exact ⟨_, _, rfl, q, r⟩
theorem View.tupE (t : Sub G H) {ds : List D} (h : View K G H (.tup ds) v) : ∃ p vs, v = .ref p ∧ SqT K H p vs ∧ Reps K G ds vs := by
  cases h with
  | rep r => cases r with | tup q r => exact ⟨_, _, rfl, t.sqT q, r⟩
theorem View.intE {i : Int} (h : View K G H (.int i) v) : v = .int i := by cases h with | rep r => cases r; rfl
theorem View.strE {i : Str} (h : View K G H (.str i) v) : v = .str i := by cases h with | rep r => cases r; rfl
theorem View.blE {i : Bool} (h : View K G H (.bl i) v) : v = .bl i := by cases h with | rep r => cases r; rfl
theorem View.nonE (h : View K G H .non v) : v = .non := by cases h with | rep r => cases r; rfl
theorem Rep.intE {i : Int} (h : Rep K G (.int i) v) : v = .int i := by cases h; rfl
theorem Rep.blE {i : Bool} (h : Rep K G (.bl i) v) : v = .bl i := by cases h; rfl
theorem Rep.strE {i : Str} (h : Rep K G (.str i) v) : v = .str i := by cases h; rfl
theorem Rep.nonE (h : Rep K G .non v) : v = .non := by cases h; rfl
end

structure Wd where
  G : Hp
  ω : Addr → Option Nat
/-- a def's entry -/
structure En where
  G : Hp
  H : Hp
structure Rel (K : PySem.W.Frag) (e : En) (w : Wd) (S : RS) (σ : St) (H : Hp) : Prop where
  gH : Sub w.G H
  gω : ∀ b o, w.G b = some o → w.ω b = none
  len : S.sl.length = σ.length
  val : ∀ (i : Nat) (d : D), S.sl[i]? = some (Sl.val d) → ∃ v, σ[i]? = some (some v) ∧ Rep K w.G d v
  own : ∀ (i : Nat) (d : D), S.sl[i]? = some (Sl.own d) → ∃ (p : Addr) (o : HO), σ[i]? = some (some (.ref p)) ∧ H p = some o ∧ Cont K w.G d o ∧ w.ω p = some i
  owned : ∀ (b : Addr) (i : Nat), w.ω b = some i → ∃ d, S.sl[i]? = some (Sl.own d) ∧ σ[i]? = some (some (.ref b))
  e0H : Sub e.H H
  e0G : Sub e.G w.G
  eNew : ∀ b o, w.G b = some o → e.G b = some o ∨ e.H b = none
  eω : ∀ (b : Addr) (i : Nat), w.ω b = some i → e.H b = none
structure Ext (w : Wd) (H : Hp) (w' : Wd) (H' : Hp) : Prop where
  g : Sub w.G w'.G
  h : Sub H H'
  own : ∀ (b : Addr) (i : Nat) (o : HO), w.ω b = some i → H b = some o → w'.ω b = some i ∨ w'.G b = some o
  shr : ∀ (b : Addr) (i : Nat), w'.ω b = some i → w.ω b = some i
  gnew : ∀ (b : Addr) (o : HO), w'.G b = some o → w.G b = some o ∨ H b = none ∨ ∃ i, w.ω b = some i
theorem Ext.refl (w : Wd) (H : Hp) : Ext w H w H := ⟨Sub.refl _, Sub.refl _, fun _ _ _ h _ => .inl h, fun _ _ h => h, fun _ _ h => .inl h⟩
theorem Ext.trans {w w1 w2 : Wd} {H H1 H2 : Hp} (a : Ext w H w1 H1) (b : Ext w1 H1 w2 H2) : Ext w H w2 H2 := ⟨a.g.trans b.g, a.h.trans b.h, fun c i o h ho => by
  rcases a.own c i o h ho with q | q
  · exact b.own c i o q (a.h _ _ ho)
  · exact .inr (b.g _ _ q), fun c i h => a.shr c i (b.shr c i h), fun c o h => by
  rcases b.gnew c o h with q | q | ⟨i, q⟩
  · exact a.gnew c o q
  · exact .inr (.inl (a.h.none q))
  · exact .inr (.inr ⟨i, a.shr c i q⟩)⟩
/-- a fresh container (it was not there in Hb), of which nobody knows -/
def Fresh (K : PySem.W.Frag) (Hb : Hp) (w : Wd) (H : Hp) (d : D) (v : V) : Prop := ∃ p o, v = .ref p ∧ H p = some o ∧ Cont K w.G d o ∧ w.G p = none ∧ w.ω p = none ∧ Hb p = none
def Res1 (K : PySem.W.Frag) (Hb : Hp) (w : Wd) (H : Hp) (d : D) (fr : Bool) (v : V) : Prop := if fr then Fresh K Hb w H d v else Rep K w.G d v

section
variable {K : PySem.W.Frag} {e : En} {w : Wd} {S : RS} {σ : St} {H : Hp}
/-- a new object, not settled -/
theorem Rel.alloc (r : Rel K e w S σ H) {p : Addr} {o : HO} (n : H p = none) : Rel K e w S σ (upd H p o) where
  gH := r.gH.upd2 (r.gH.none n)
  gω := r.gω
  len := r.len
  val := r.val
  own := fun i d q => by
    obtain ⟨p', o', h1, h2, h3, h4⟩ := r.own i d q
    exact ⟨p', o', h1, by rw [upd_ne (ne_of_none h2 n)]; exact h2, h3, h4⟩
  owned := r.owned
  e0H := r.e0H.upd2 (r.e0H.none n)
  e0G := r.e0G
  eNew := r.eNew
  eω := r.eω
/-- what is not owned is settled -/
theorem Rel.settle (r : Rel K e w S σ H) {p : Addr} {o : HO} (h : H p = some o) (n : w.ω p = none) (g : w.G p = none) (ne : e.H p = none) : Rel K e ⟨upd w.G p o, w.ω⟩ S σ H where
  gH := fun b u q => by
    by_cases hb : b = p
    · subst hb; have q : upd w.G b o b = some u := q; rw [upd_same] at q; cases q; exact h
    · have q : upd w.G p o b = some u := q; rw [upd_ne hb] at q; exact r.gH _ _ q
  gω := fun b u q => by
    by_cases hb : b = p
    · subst hb; exact n
    · have q : upd w.G p o b = some u := q; rw [upd_ne hb] at q; exact r.gω _ _ q
  len := r.len
  val := fun i d q => by
    obtain ⟨v, h1, h2⟩ := r.val i d q
    exact ⟨v, h1, h2.mono (Sub.upd g)⟩
  own := fun i d q => by
    obtain ⟨p', o', h1, h2, h3, h4⟩ := r.own i d q
    exact ⟨p', o', h1, h2, h3.mono (Sub.upd g), h4⟩
  owned := r.owned
  e0H := r.e0H
  e0G := r.e0G.trans (Sub.upd g)
  eNew := fun b u q => by
    by_cases hb : b = p
    · subst hb; exact .inr ne
    · have q : upd w.G p o b = some u := q; rw [upd_ne hb] at q; exact r.eNew _ _ q
  eω := r.eω
theorem Rel.ownH (r : Rel K e w S σ H) {b : Addr} {i : Nat} (h : w.ω b = some i) : ∃ d o, S.sl[i]? = some (Sl.own d) ∧ σ[i]? = some (some (.ref b)) ∧ H b = some o ∧ Cont K w.G d o := by
  obtain ⟨d, h1, h2⟩ := r.owned b i h
  obtain ⟨p, o, h3, h4, h5, h6⟩ := r.own i d h1
  rw [h2] at h3
  cases h3
  exact ⟨d, o, h1, h2, h4, h5⟩
theorem Rel.ωnone (r : Rel K e w S σ H) {b : Addr} (h : H b = none) : w.ω b = none := by
  cases q : w.ω b with
  | none => rfl
  | some i =>
    obtain ⟨_, _, _, _, h2, _⟩ := r.ownH q
    rw [h] at h2; cases h2
/-- a new object, settled at once -/
theorem Rel.allocG (r : Rel K e w S σ H) {p : Addr} {o : HO} (n : H p = none) : Rel K e ⟨upd w.G p o, w.ω⟩ S σ (upd H p o) :=
  (r.alloc n).settle upd_same (r.ωnone n) (r.gH.none n) (r.e0H.none n)
theorem Ext.allocG {w : Wd} {H : Hp} {p : Addr} {o : HO} (s : Sub w.G H) (n : H p = none) : Ext w H ⟨upd w.G p o, w.ω⟩ (upd H p o) := ⟨Sub.upd (s.none n), Sub.upd n, fun _ _ _ h _ => .inl h, fun _ _ h => h, fun b u h => by
  by_cases hb : b = p
  · subst hb; exact .inr (.inl n)
  · have h : upd w.G p o b = some u := h; rw [upd_ne hb] at h; exact .inl h⟩
theorem Ext.alloc {w : Wd} {H : Hp} {p : Addr} {o : HO} (n : H p = none) : Ext w H w (upd H p o) := ⟨Sub.refl _, Sub.upd n, fun _ _ _ h _ => .inl h, fun _ _ h => h, fun _ _ h => .inl h⟩
/-- what is fresh is settled -/
theorem Rel.fin {w' : Wd} {H' : Hp} (r : Rel K e w' S σ H') (x : Ext w H w' H') (e0 : Sub e.H H) {d : D} {fr : Bool} {v : V} (q : Res1 K H w' H' d fr v) : ∃ w2, Ext w H w2 H' ∧ Rel K e w2 S σ H' ∧ Rep K w2.G d v := by
  cases fr with
  | false => exact ⟨w', x, r, q⟩
  | true =>
    obtain ⟨p, o, rfl, h1, h2, h3, h4, h5⟩ := q
    refine ⟨⟨upd w'.G p o, w'.ω⟩, ⟨x.g.trans (Sub.upd h3), x.h, fun b i u y z => ?_, x.shr, fun b u y => ?_⟩, r.settle h1 h4 h3 (e0.none h5), h2.rep h3⟩
    · rcases x.own b i u y z with q | q
      · exact .inl q
      · exact .inr (Sub.upd h3 _ _ q)
    · by_cases hb : b = p
      · subst hb; exact .inr (.inl h5)
      · have y : upd w'.G p o b = some u := y
        rw [upd_ne hb] at y
        exact x.gnew b u y
/-- an own thing is settled -/
theorem Rel.freeze (r : Rel K e w S σ H) {i : Nat} {d : D} (h : S.sl[i]? = some (Sl.own d)) : ∃ w' v, σ[i]? = some (some v) ∧ Ext w H w' H ∧ Rel K e w' ⟨S.sl.set i (.val d)⟩ σ H ∧ Rep K w'.G d v := by
  obtain ⟨p, o, h1, h2, h3, h4⟩ := r.own i d h
  have gp : w.G p = none := by
    cases q : w.G p with
    | none => rfl
    | some u => rw [r.gω _ _ q] at h4; cases h4
  have li : i < S.sl.length := (List.getElem?_eq_some_iff.mp h).1
  refine ⟨⟨upd w.G p o, fun b => if b = p then none else w.ω b⟩, .ref p, h1, ⟨Sub.upd gp, Sub.refl _, fun b j u hb hu => ?_, fun b j hb => ?_, fun b u hb => ?_⟩, ?_, h3.rep gp⟩
  · by_cases z : b = p
    · subst z; rw [h2] at hu; cases hu; exact .inr upd_same
    · exact .inl (by simp only [z, if_false]; exact hb)
  · by_cases z : b = p
    · simp [z] at hb
    · simpa only [z, if_false] using hb
  · by_cases z : b = p
    · subst z; exact .inr (.inr ⟨i, h4⟩)
    · have hb : upd w.G p o b = some u := hb
      rw [upd_ne z] at hb; exact .inl hb
  refine ⟨fun b u q => ?_, fun b u q => ?_, by simpa using r.len, fun j d' q => ?_, fun j d' q => ?_, fun b j q => ?_, r.e0H, r.e0G.trans (Sub.upd gp), fun b u q => ?_, fun b j q => ?_⟩
  · by_cases hb : b = p
    · subst hb; have q : upd w.G b o b = some u := q; rw [upd_same] at q; cases q; exact h2
    · have q : upd w.G p o b = some u := q; rw [upd_ne hb] at q; exact r.gH _ _ q
  · by_cases hb : b = p
    · simp [hb]
    · have q : upd w.G p o b = some u := q; rw [upd_ne hb] at q
      simp only [hb, if_false]
      exact r.gω _ _ q
  · by_cases hj : i = j
    · subst hj
      rw [List.getElem?_set_self li] at q
      cases q
      exact ⟨.ref p, h1, h3.rep gp⟩
    · rw [List.getElem?_set_ne hj] at q
      obtain ⟨v, e1, e2⟩ := r.val j d' q
      exact ⟨v, e1, e2.mono (Sub.upd gp)⟩
  · by_cases hj : i = j
    · subst hj
      rw [List.getElem?_set_self li] at q
      cases q
    · rw [List.getElem?_set_ne hj] at q
      obtain ⟨p', o', e1, e2, e3, e4⟩ := r.own j d' q
      have hp : p' ≠ p := fun z => by
        rw [z, h4] at e4
        exact hj (Option.some.inj e4)
      exact ⟨p', o', e1, e2, e3.mono (Sub.upd gp), by simp only [hp, if_false]; exact e4⟩
  · by_cases hb : b = p
    · simp [hb] at q
    · simp only [hb, if_false] at q
      obtain ⟨d', e1, e2⟩ := r.owned b j q
      have hj : i ≠ j := fun z => by
        subst z
        rw [h1] at e2
        cases e2
        exact hb rfl
      exact ⟨d', by rw [List.getElem?_set_ne hj]; exact e1, e2⟩
  · by_cases hb : b = p
    · subst hb; exact .inr (r.eω _ _ h4)
    · have q : upd w.G p o b = some u := q; rw [upd_ne hb] at q; exact r.eNew _ _ q
  · by_cases hb : b = p
    · simp [hb] at q
    · simp only [hb, if_false] at q
      exact r.eω _ _ q
/-- an own thing is let go: it is fresh -/
theorem Rel.moved (r : Rel K e w S σ H) {i : Nat} {d : D} (h : S.sl[i]? = some (Sl.own d)) : ∃ w' v, σ[i]? = some (some v) ∧ Sub w.G w'.G ∧ Rel K e w' ⟨S.sl.set i .un⟩ σ H ∧ Fresh K e.H w' H d v := by
  obtain ⟨p, o, h1, h2, h3, h4⟩ := r.own i d h
  have gp : w.G p = none := by
    cases q : w.G p with
    | none => rfl
    | some u => rw [r.gω _ _ q] at h4; cases h4
  have li : i < S.sl.length := (List.getElem?_eq_some_iff.mp h).1
  refine ⟨⟨w.G, fun b => if b = p then none else w.ω b⟩, .ref p, h1, Sub.refl _, ?_, p, o, rfl, h2, h3, gp, by simp, r.eω _ _ h4⟩
  refine ⟨r.gH, fun b u q => ?_, by simpa using r.len, fun j d' q => ?_, fun j d' q => ?_, fun b j q => ?_, r.e0H, r.e0G, r.eNew, fun b j q => ?_⟩
  · by_cases hb : b = p
    · simp [hb]
    · simp only [hb, if_false]
      exact r.gω _ _ q
  · by_cases hj : i = j
    · subst hj
      rw [List.getElem?_set_self li] at q
      cases q
    · rw [List.getElem?_set_ne hj] at q
      exact r.val j d' q
  · by_cases hj : i = j
    · subst hj
      rw [List.getElem?_set_self li] at q
      cases q
    · rw [List.getElem?_set_ne hj] at q
      obtain ⟨p', o', e1, e2, e3, e4⟩ := r.own j d' q
      have hp : p' ≠ p := fun z => by
        rw [z, h4] at e4
        exact hj (Option.some.inj e4)
      exact ⟨p', o', e1, e2, e3, by simp only [hp, if_false]; exact e4⟩
  · by_cases hb : b = p
    · simp [hb] at q
    · simp only [hb, if_false] at q
      obtain ⟨d', e1, e2⟩ := r.owned b j q
      have hj : i ≠ j := fun z => by
        subst z
        rw [h1] at e2
        cases e2
        exact hb rfl
      exact ⟨d', by rw [List.getElem?_set_ne hj]; exact e1, e2⟩
  · by_cases hb : b = p
    · simp [hb] at q
    · simp only [hb, if_false] at q
      exact r.eω _ _ q
end
end RR

namespace RR
open PySem L2

theorem line_eq : LINE = sizeLine := by rw [sizeLine_eq]
/-- a pure operation's result -/
def ResV (K : PySem.W.Frag) (G H : Hp) (d : D) (fr : Bool) (v : V) (H' : Hp) : Prop :=
  (fr = true ∧ ∃ p o, v = .ref p ∧ H p = none ∧ H' = upd H p o ∧ Cont K G d o) ∨ (fr = false ∧ H' = H ∧ Rep K G d v) ∨
  (fr = false ∧ ∃ p o, v = .ref p ∧ H p = none ∧ H' = upd H p o ∧ Rep K (upd G p o) d v)
theorem ResV.same {K : PySem.W.Frag} {G H : Hp} {d : D} {v : V} (r : Rep K G d v) : ResV K G H d false v H := .inr (.inl ⟨rfl, rfl, r⟩)
theorem ResV.lst {K : PySem.W.Frag} {G H : Hp} {ds : List D} {vs : List V} {p : Addr} (n : H p = none) (r : Reps K G ds vs) : ResV K G H (.lst ds) true (.ref p) (upd H p (.lst vs)) := .inl ⟨rfl, p, _, rfl, n, rfl, _, rfl, r⟩
theorem ResV.tup {K : PySem.W.Frag} {G H : Hp} {ds : List D} {vs : List V} {p : Addr} (s : Sub G H) (n : H p = none) (r : Reps K G ds vs) : ResV K G H (.tup ds) false (.ref p) (upd H p (.tup vs)) :=
  .inr (.inr ⟨rfl, p, _, rfl, n, rfl, .tup (.inl (.inl upd_same)) (r.mono (Sub.upd (s.none n)))⟩)
/-- the reading of a pure operation on two looked-at values -/
def rO2 (K : PySem.W.Frag) (f : D → D → Option (D × Bool)) : R2 := fun x y H Q => ∃ G dx dy d fr, Sub G H ∧ View K G H dx x ∧ View K G H dy y ∧ f dx dy = some (d, fr) ∧ ∀ v H', ResV K G H d fr v H' → Q v H'

section
variable {X : Cx}
theorem catW (p1 p2 : Addr) (xs ys : Array Value) (n1 n2 : Nat) (z1 z2 : Array (Option Value)) (hz : xs.size + ys.size ≤ sizeLine) :
    Meets (Builtin.«list.__add__» ⟨[.ref p1, .ref p2], []⟩) (fun _ R s => s.heap.get? p1 = some ⟨.type "list", none, .seq xs n1, z1⟩ ∧ s.heap.get? p2 = some ⟨.type "list", none, .seq ys n2, z2⟩ ∧ R (.ok (.ret (Value.ref s.heap.objs.size))) { s with heap := s.heap.push { cls := Value.type "list", data := Data.seq (xs ++ ys) }, toks := s.toks }) :=
  PyProof.Rows.list_addW p1 p2 xs ys n1 n2 none none z1 z2 hz
theorem repW0 (i : Int) (t : Tok) (p : Addr) (xs : Array Value) (m : Nat) (z : Array (Option Value)) :
    Meets (Builtin.«int.__rmul__» ⟨[.int i t, .ref p], []⟩) (fun _ R s => s.heap.get? p = some ⟨.type "list", none, .seq xs m, z⟩ ∧ R (.ok (.ret Value.notImplemented)) s) :=
  .of_wp fun _ _ _ _ s h => by
    obtain ⟨hp, g, d, tk, os⟩ := s
    obtain ⟨hl, h⟩ := h
    wp_walk
    exact ⟨_, rfl, h⟩
theorem repW (p : Addr) (xs : Array Value) (m : Nat) (z : Array (Option Value)) (i : Int) (t : Tok) (h0 : ¬(!Builtin.List.listFitsIndex i) = true) (h1 : ¬xs.size * i.toNat > (2 ^ 63 - 1) / 8) (h2 : ¬Builtin.List.listTooLong (xs.size * i.toNat) = true) :
    Meets (Builtin.«list.__mul__» ⟨[.ref p, .int i t], []⟩) (fun _ R s => s.heap.get? p = some ⟨.type "list", none, .seq xs m, z⟩ ∧ R (.ok (.ret (Value.ref s.heap.objs.size))) { s with heap := s.heap.push { cls := Value.type "list", data := Data.seq (List.foldl (fun a b => a ++ b) #[] (List.replicate (if xs.isEmpty = true then 0 else i.toNat) xs)) }, toks := s.toks }) :=
  .of_wp fun _ _ _ _ s h => by
    obtain ⟨hp, g, d, tk, os⟩ := s
    obtain ⟨hl, h⟩ := h
    have hz := PySem.AutoListH.joined_fits h2
    wp_walk using wpAny_loadPart' hl
    refine wpAny_ite_false (decide_eq_false (Nat.not_lt.mpr hz)) ?_
    wp_walk using wpAny_loadPart' hl
    exact ⟨_, rfl, h⟩
theorem op_catL : OpR X (binaryOp .Add) (fun x y H Q => ∃ l b xs zs, x = .ref l ∧ y = .ref b ∧ SqL X.K H l xs ∧ SqL X.K H b zs ∧ xs.length + zs.length ≤ sizeLine ∧ ∀ p, H p = none → Q (.ref p) (upd H p (.lst (xs ++ zs)))) := by
  intro pn s1 st Hh x y v u Q I rx ry h
  obtain ⟨l, b, xs, zs, rfl, rfl, hH, hB, hz, q⟩ := h
  cases rx
  cases ry
  obtain ⟨its, r, ⟨⟨c1, d1, da1, sl1⟩, m1, e, f1, f2, f3⟩, _⟩ := I.list hH
  obtain ⟨its2, r2, ⟨⟨c2, d2, da2, sl2⟩, m2, e2, f4, f5, f6⟩, _⟩ := I.list hB
  simp only at f1 f2 f3 f4 f5 f6
  subst f1 f2 f3 f4 f5 f6
  have hl := r.length
  have hl2 := r2.length
  refine concat_meets ⟨_, e, rfl⟩ ⟨_, e2, rfl⟩ noFill_list_add seq_list_add PySem.F.slot_list_add PySem.F.entry_list_add (PySem.F.args_list_add_2 _ _) (catW l b its.toArray its2.toArray m1 m2 sl1 sl2 (by rw [List.size_toArray, List.size_toArray]; omega)) ⟨e, e2, ?_⟩
  have ea : its.toArray ++ its2.toArray = (its ++ its2).toArray := by simp
  rw [ea]
  exact ⟨.ref _, _, I.lnew (t' := s1.toks) (r.append r2) (by rw [List.length_append]; omega), rfl, q _ I.fresh⟩
theorem op_repL : OpR X (binaryOp .Mult) (fun x y H Q => ∃ l k xs, x = .ref l ∧ y = .int k ∧ SqL X.K H l xs ∧ -(2 ^ 63) ≤ k ∧ k < 2 ^ 63 ∧ xs.length * k.toNat ≤ sizeLine ∧
  ∀ p, H p = none → Q (.ref p) (upd H p (.lst (List.replicate k.toNat xs).flatten))) := by
  intro pn s1 st Hh x y v u Q I rx ry h
  obtain ⟨l, k, xs, rfl, rfl, hH, h1, h2, hz, q⟩ := h
  cases rx
  obtain ⟨t, rfl⟩ := ry
  obtain ⟨its, r, ⟨⟨c1, d1, da1, sl1⟩, n, e, f1, f2, f3⟩, _⟩ := I.list hH
  simp only at f1 f2 f3
  subst f1 f2 f3
  have hl := r.length
  have zl : its.toArray.size * k.toNat ≤ sizeLine := by
    rw [List.size_toArray, ← hl]; exact hz
  have zc : ¬ its.toArray.size * k.toNat > (2 ^ 63 - 1) / 8 := by
    have z1 : (sizeLine : Nat) ≤ (2 ^ 63 - 1) / 8 := by decide
    omega
  have zf : ¬ (!Builtin.List.listFitsIndex k) = true := by
    rw [fitsIndex_both h1 h2]; simp
  have zg : ¬ Builtin.List.listTooLong (its.toArray.size * k.toNat) = true := by
    rw [notLongL zl]; simp
  have zn : List.foldl (fun a b => a ++ b) #[] (List.replicate (if its.toArray.isEmpty = true then 0 else k.toNat) its.toArray) = (List.replicate k.toNat its).flatten.toArray := by
    rw [show ∀ m : Nat, List.foldl (fun a b => a ++ b) #[] (List.replicate m its.toArray) = (List.replicate m its).flatten.toArray from fun m => by simpa using foldl_rep its m []]
    cases its with
    | nil => simp
    | cons a r' => simp
  refine wpAny_binaryOp_repeat_ref (T := "list") (U := "int") (by decide) ⟨_, e, rfl⟩ (fun s' => typeIs_int s' k t) noFill_list_mul F.fills_int_mul F.slot_int_rmul repeat_list F.slot_int_index.lookup ?_
  refine call_meets F.slot_int_rmul (typeIs_int s1 k t) F.entry_int_rmul (F.args_int_rmul_2 _ _) (repW0 k t l its.toArray n sl1) ?_
  refine ⟨e, rfl, ⟨_, e, rfl⟩, ?_⟩
  refine call_meets F.slot_list_mul ⟨_, e, rfl⟩ F.entry_list_mul (F.args_list_mul_2 _ _) (repW l its.toArray n sl1 k t zf zc zg) ⟨e, ?_⟩
  rw [zn]
  refine ⟨.ref _, _, I.lnew (t' := s1.toks) (r.rep k.toNat) ?_, rfl, q _ I.fresh⟩
  rw [PyProof.Rows.lm_len_rep_flat, Nat.mul_comm]; exact hz

theorem op_bin (op : Operator) : OpR X (binaryOp op) (rO2 X.K (binD op)) := by
  intro pins s σ H x y v u Q I rx ry h
  obtain ⟨G, dx, dy, d, fr, sG, vx, vy, e, q⟩ := h
  unfold binD at e
  split at e
  · cases e; rw [vx.intE] at rx; rw [vy.intE] at ry
    exact op_add pins s σ H _ _ v u Q I rx ry ⟨_, _, rfl, rfl, q _ _ (.same (.int _))⟩
  · rename_i s1 s2
    split at e
    · rename_i hz
      cases e; rw [vx.strE] at rx; rw [vy.strE] at ry
      exact op_add_str pins s σ H _ _ v u Q I rx ry ⟨_, _, rfl, rfl, by rw [← line_eq]; exact hz, q _ _ (.same (.str _))⟩
    · cases e
  · split at e
    · rename_i hz
      cases e
      obtain ⟨p, xs, rfl, h1, r1⟩ := vx.lstE sG
      obtain ⟨p2, ys, rfl, h2, r2⟩ := vy.lstE sG
      refine op_catL pins s σ H _ _ v u Q I rx ry ⟨_, _, _, _, rfl, rfl, h1, h2, ?_, fun l hl => q _ _ (.lst hl (r1.append r2))⟩
      rw [← r1.length, ← r2.length, ← line_eq]; exact hz
    · cases e
  · split at e
    · rename_i hz
      cases e
      obtain ⟨p, xs, rfl, h1, r1⟩ := vx.tupE sG
      obtain ⟨p2, ys, rfl, h2, r2⟩ := vy.tupE sG
      refine op_catA pins s σ H _ _ v u Q I rx ry ⟨_, _, _, _, rfl, rfl, h1, h2, ?_, fun z => q _ _ (.same ?_), fun _ z => q _ _ (.same ?_), fun _ _ l hl => q _ _ (.tup sG hl (r1.append r2))⟩
      · rw [← r1.length, ← r2.length, ← line_eq]; exact hz
      · subst z; cases r1
        cases vy with | rep r => exact r
      · subst z; cases r2
        rw [List.append_nil]
        cases vx with | rep r => exact r
    · cases e
  · cases e; rw [vx.intE] at rx; rw [vy.intE] at ry
    exact op_sub pins s σ H _ _ v u Q I rx ry ⟨_, _, rfl, rfl, q _ _ (.same (.int _))⟩
  · split at e
    · rename_i i j hz
      cases e; rw [vx.intE] at rx; rw [vy.intE] at ry
      unfold mulOk at hz
      rw [Bool.or_eq_true, Bool.or_eq_true, decide_eq_true_eq, decide_eq_true_eq, decide_eq_true_eq] at hz
      rcases hz with (hz | hz) | hz
      · exact op_mul pins s σ H _ _ v u Q I rx ry ⟨_, _, rfl, rfl, .inl hz, q _ _ (.same (.int _))⟩
      · exact op_mul pins s σ H _ _ v u Q I rx ry ⟨_, _, rfl, rfl, .inr hz, q _ _ (.same (.int _))⟩
      · exact op_mulW pins s σ H _ _ v u Q I rx ry ⟨_, _, rfl, rfl, hz, q _ _ (.same (.int _))⟩
    · cases e
  · split at e
    · rename_i hz
      cases e
      obtain ⟨p, xs, rfl, h1, r1⟩ := vx.lstE sG
      rw [vy.intE] at ry
      rw [Bool.and_eq_true, decide_eq_true_eq, decide_eq_true_eq] at hz
      refine op_repL pins s σ H _ _ v u Q I rx ry ⟨_, _, _, rfl, rfl, h1, hz.1.1, hz.1.2, ?_, fun l hl => q _ _ (.lst hl (r1.rep _))⟩
      rw [← r1.length, ← line_eq]; exact hz.2
    · cases e
  · split at e
    · rename_i hz
      cases e
      obtain ⟨p, xs, rfl, h1, r1⟩ := vx.tupE sG
      rw [vy.intE] at ry
      rw [decide_eq_true_eq] at hz
      refine op_repT pins s σ H _ _ v u Q I rx ry ⟨_, _, _, rfl, rfl, h1, fun z => ?_, hz.1, hz.2.1, ?_, fun l hl => q _ _ (.tup sG hl (r1.rep _))⟩
      · subst z; cases r1; exact hz.2.2.1 rfl
      · rw [← r1.length]; exact hz.2.2.2
    · cases e
  · split at e
    · rename_i hz
      cases e; rw [vx.intE] at rx; rw [vy.intE] at ry
      rw [decide_eq_true_eq] at hz
      exact op_fdivW pins s σ H _ _ v u Q I rx ry ⟨_, _, rfl, rfl, hz, q _ _ (.same (.int _))⟩
    · split at e
      · rename_i hz
        cases e; rw [vx.intE] at rx; rw [vy.intE] at ry
        rw [decide_eq_true_eq] at hz
        exact op_fdivN pins s σ H _ _ v u Q I rx ry ⟨_, _, rfl, rfl, hz, q _ _ (.same (.int _))⟩
      · cases e
  · split at e
    · rename_i hz
      cases e; rw [vx.intE] at rx; rw [vy.intE] at ry
      exact op_mod pins s σ H _ _ v u Q I rx ry ⟨_, _, rfl, rfl, hz, q _ _ (.same (.int _))⟩
    · split at e
      · rename_i hz
        cases e; rw [vx.intE] at rx; rw [vy.intE] at ry
        exact op_modN pins s σ H _ _ v u Q I rx ry ⟨_, _, rfl, rfl, hz, q _ _ (.same (.int _))⟩
      · cases e
  · split at e
    · rename_i hz
      cases e; rw [vx.intE] at rx; rw [vy.intE] at ry
      unfold powOk at hz; rw [decide_eq_true_eq] at hz
      exact op_pow pins s σ H _ _ v u Q I rx ry ⟨_, _, rfl, rfl, hz, q _ _ (.same (.int _))⟩
    · cases e
  · split at e
    · rename_i hz
      cases e; rw [vx.intE] at rx; rw [vy.intE] at ry
      unfold powOk at hz; rw [decide_eq_true_eq] at hz
      exact op_shl pins s σ H _ _ v u Q I rx ry ⟨_, _, rfl, rfl, hz, q _ _ (.same (.int _))⟩
    · cases e
  · split at e
    · rename_i hz
      cases e; rw [vx.intE] at rx; rw [vy.intE] at ry
      exact op_shr pins s σ H _ _ v u Q I rx ry ⟨_, _, rfl, rfl, hz, q _ _ (.same (.int _))⟩
    · cases e
  · cases e; rw [vx.intE] at rx; rw [vy.intE] at ry
    exact op_and pins s σ H _ _ v u Q I rx ry ⟨_, _, rfl, rfl, q _ _ (.same (.int _))⟩
  · cases e; rw [vx.intE] at rx; rw [vy.intE] at ry
    exact op_or pins s σ H _ _ v u Q I rx ry ⟨_, _, rfl, rfl, q _ _ (.same (.int _))⟩
  · cases e
end

section
variable {K : PySem.W.Frag} {G H : Hp}
mutual
theorem Rep.dp (t : Sub G H) : ∀ {d : D} {v : V}, Rep K G d v → d.pd.canLay0 = true → Dp K H v d.pd
  | _, _, .non, _ => .non
  | _, _, .bl b, _ => .bl b
  | _, _, .int i, _ => .int i
  | _, _, .str x, _ => .str x
  | _, _, .lst h r, e => .lst (t.sqL h) (Reps.dp t r (by simpa [D.pd, PyData.canLay0] using e))
  | _, _, .tup h r, e => .tup (t.sqT h) (Reps.dp t r (by simpa [D.pd, PyData.canLay0] using e))
  | _, _, .dic _ _, e => by simp [D.pd, PyData.canLay0] at e
theorem Reps.dp (t : Sub G H) : ∀ {d : List D} {v : List V}, Reps K G d v → PyData.canLayAll0 (pds d) = true → DpAll K H v (pds d)
  | _, _, .nil, _ => .nil
  | _, _, .cons h r, e => by
    rw [pds, PyData.canLayAll0, Bool.and_eq_true] at e
    exact .cons (Rep.dp t h e.1) (Reps.dp t r e.2)
end
theorem View.dp (t : Sub G H) {d : D} {v : V} (h : View K G H d v) (e : SeqAt.shaped d.pd = true) : Dp K H v d.pd := by
  have e1 := SeqAt.canLay_of_shaped e
  cases h with
  | rep r => exact r.dp t e1
  | lst q r => exact .lst q (r.dp t (by simpa [D.pd, PyData.canLay0] using e1))
  | dic _ _ => simp [D.pd, PyData.canLay0] at e1
theorem flatE {d : D} {v : V} (h : View K G H d v) (f : d.flat = true) : (d = .non ∧ v = .non) ∨ (∃ b, d = .bl b ∧ v = .bl b) ∨ (∃ i, d = .int i ∧ v = .int i) ∨ ∃ z, d = .str z ∧ v = .str z := by
  cases d with
  | non => exact .inl ⟨rfl, h.nonE⟩
  | bl b => exact .inr (.inl ⟨b, rfl, h.blE⟩)
  | int i => exact .inr (.inr (.inl ⟨i, rfl, h.intE⟩))
  | str z => exact .inr (.inr (.inr ⟨z, rfl, h.strE⟩))
  | _ => exact absurd (show false = true from f) Bool.false_ne_true
theorem flatV_of {d : D} {v : V} (h : View K G H d v) (f : d.flat = true) : flatV v = true := by
  rcases flatE h f with ⟨rfl, rfl⟩ | ⟨b, rfl, rfl⟩ | ⟨i, rfl, rfl⟩ | ⟨z, rfl, rfl⟩ <;> rfl
theorem eqV_of {d1 d2 : D} {v1 v2 : V} (h1 : View K G H d1 v1) (h2 : View K G H d2 v2) (f1 : d1.flat = true) (f2 : d2.flat = true) : eqV v1 v2 = PyData.eqv d1.pd d2.pd := by
  rcases flatE h1 f1 with ⟨rfl, rfl⟩ | ⟨b, rfl, rfl⟩ | ⟨i, rfl, rfl⟩ | ⟨z, rfl, rfl⟩ <;> rcases flatE h2 f2 with ⟨rfl, rfl⟩ | ⟨b', rfl, rfl⟩ | ⟨i', rfl, rfl⟩ | ⟨z', rfl, rfl⟩ <;> simp only [eqV, D.pd, PyData.eqv]
theorem flats_of : ∀ {ds : List D} {vs : List V}, Reps K G ds vs → ds.all D.flat = true → vs.all flatV = true
  | _, _, .nil, _ => rfl
  | _, _, .cons h r, f => by
    rw [List.all_cons, Bool.and_eq_true] at f
    rw [List.all_cons, flatV_of (H := G) (.rep h) f.1, flats_of r f.2]; rfl
theorem inV_of {d : D} {v : V} (h : View K G H d v) (f : d.flat = true) : ∀ {ds : List D} {vs : List V}, Reps K G ds vs → ds.all D.flat = true → inV v vs = ds.any fun z => PyData.eqv z.pd d.pd
  | _, _, .nil, _ => rfl
  | _, _, .cons h1 r, f1 => by
    rw [List.all_cons, Bool.and_eq_true] at f1
    have ih := inV_of h f r f1.2
    unfold inV at ih ⊢
    rw [List.any_cons, List.any_cons, ih, eqV_of (.rep h1) h f1.1 f]
theorem pds_any (p : PyData → Bool) : ∀ (ds : List D), (pds ds).any p = ds.any fun z => p z.pd
  | [] => rfl
  | d :: ds => by rw [pds, List.any_cons, List.any_cons, pds_any p ds]
end

section
variable {X : Cx}
/-- the reading of a comparison of two looked-at values -/
def rCm (K : PySem.W.Frag) (op : CmpOp) : R2 := fun x y H Q => ∃ G dx dy b, Sub G H ∧ View K G H dx x ∧ View K G H dy y ∧ cmpD op dx dy = some b ∧ Q (.bl b) H
theorem scal_case {K : PySem.W.Frag} {G H : Hp} {dx dy : D} {x y : V} {b : Bool} (t : Sub G H) (vx : View K G H dx x) (vy : View K G H dy y) (e : eqD dx dy = some b) :
    (scal x y = true ∧ b = decide (x = y)) ∨ (SeqAt.shaped dx.pd = true ∧ SeqAt.shaped dy.pd = true ∧ b = PyData.eqv dx.pd dy.pd) := by
  unfold eqD at e
  split at e
  all_goals first
    | (left; cases e
       first
        | (rw [vx.nonE]) | (rw [vx.intE]) | (rw [vx.strE]) | (rw [vx.blE])
       first
        | (rw [vy.nonE]; exact ⟨rfl, by simp⟩) | (rw [vy.intE]; exact ⟨rfl, by simp⟩) | (rw [vy.strE]; exact ⟨rfl, by simp⟩) | (rw [vy.blE]; exact ⟨rfl, by simp⟩))
    | (right
       split at e
       · rename_i z
         rw [Bool.and_eq_true] at z
         cases e
         exact ⟨z.1, z.2, rfl⟩
       · cases e)
theorem op_eqR (hu : X.A.units + 65 < cLine) : OpR X (compareOp .Eq) (rCm X.K .Eq) := by
  intro pn s1 st Hh x y v u Q I rx ry ⟨G, dx, dy, b, sG, vx, vy, e, q⟩
  rcases scal_case sG vx vy e with ⟨h1, rfl⟩ | ⟨h1, h2, rfl⟩
  · exact op_eq pn s1 st Hh x y v u Q I rx ry ⟨h1, q⟩
  · exact op_eqD (by omega) pn s1 st Hh x y v u Q I rx ry ⟨_, _, vx.dp sG h1, vy.dp sG h2, h1, h2, q⟩
theorem op_neR (hu : X.A.units + 65 < cLine) : OpR X (compareOp .NotEq) (rCm X.K .NotEq) := by
  intro pn s1 st Hh x y v u Q I rx ry ⟨G, dx, dy, b, sG, vx, vy, e, q⟩
  simp only [cmpD] at e
  cases e1 : eqD dx dy with
  | none => rw [e1] at e; cases e
  | some c =>
    rw [e1] at e
    cases e
    rcases scal_case sG vx vy e1 with ⟨h1, rfl⟩ | ⟨h1, h2, rfl⟩
    · exact op_ne pn s1 st Hh x y v u Q I rx ry ⟨h1, q⟩
    · exact op_neD (by omega) pn s1 st Hh x y v u Q I rx ry ⟨_, _, vx.dp sG h1, vy.dp sG h2, h1, h2, q⟩
theorem op_ltR : OpR X (compareOp .Lt) (rCm X.K .Lt) := by
  intro pn s1 st Hh x y v u Q I rx ry ⟨G, dx, dy, b, sG, vx, vy, e, q⟩
  simp only [cmpD] at e
  split at e
  · cases e; rw [vx.intE] at rx; rw [vy.intE] at ry
    exact op_lt pn s1 st Hh _ _ v u Q I rx ry ⟨_, _, rfl, rfl, q⟩
  · cases e; rw [vx.strE] at rx; rw [vy.strE] at ry
    exact op_lt_str pn s1 st Hh _ _ v u Q I rx ry ⟨_, _, rfl, rfl, q⟩
  · cases e
theorem op_leR : OpR X (compareOp .LtE) (rCm X.K .LtE) := by
  intro pn s1 st Hh x y v u Q I rx ry ⟨G, dx, dy, b, sG, vx, vy, e, q⟩
  simp only [cmpD] at e
  split at e
  · cases e; rw [vx.intE] at rx; rw [vy.intE] at ry
    exact op_le pn s1 st Hh _ _ v u Q I rx ry ⟨_, _, rfl, rfl, q⟩
  · cases e
theorem op_gtR : OpR X (compareOp .Gt) (rCm X.K .Gt) := by
  intro pn s1 st Hh x y v u Q I rx ry ⟨G, dx, dy, b, sG, vx, vy, e, q⟩
  simp only [cmpD] at e
  split at e
  · cases e; rw [vx.intE] at rx; rw [vy.intE] at ry
    exact op_gt pn s1 st Hh _ _ v u Q I rx ry ⟨_, _, rfl, rfl, q⟩
  · cases e
theorem op_geR : OpR X (compareOp .GtE) (rCm X.K .GtE) := by
  intro pn s1 st Hh x y v u Q I rx ry ⟨G, dx, dy, b, sG, vx, vy, e, q⟩
  simp only [cmpD] at e
  split at e
  · cases e; rw [vx.intE] at rx; rw [vy.intE] at ry
    exact op_ge pn s1 st Hh _ _ v u Q I rx ry ⟨_, _, rfl, rfl, q⟩
  · cases e
/-- is None of a looked-at value -/
theorem non_iff {K : PySem.W.Frag} {G H : Hp} {d : D} {v : V} (h : View K G H d v) : decide (v = .non) = (match d with | .non => true | _ => false) := by
  cases h with
  | rep r => cases r <;> simp
  | lst _ _ => simp
  | dic _ _ => simp
theorem op_isR : OpR X (compareOp .Is) (rCm X.K .Is) := by
  intro pn s1 st Hh x y v u Q I rx ry ⟨G, dx, dy, b, sG, vx, vy, e, q⟩
  simp only [cmpD] at e
  cases dy with
  | non =>
    refine op_isN pn s1 st Hh x y v u Q I rx ry ⟨vy.nonE, ?_⟩
    rw [non_iff vx]
    cases dx <;> (cases e; exact q)
  | bl c =>
    cases dx with
    | bl a =>
      cases e
      exact op_is_bl pn s1 st Hh x y v u Q I rx ry ⟨a, c, vx.blE, vy.blE, q⟩
    | _ => cases e
  | _ => cases e
theorem op_isnR : OpR X (compareOp .IsNot) (rCm X.K .IsNot) := by
  intro pn s1 st Hh x y v u Q I rx ry ⟨G, dx, dy, b, sG, vx, vy, e, q⟩
  simp only [cmpD] at e
  cases dy with
  | non =>
    refine op_notN pn s1 st Hh x y v u Q I rx ry ⟨vy.nonE, ?_⟩
    rw [non_iff vx]
    cases dx <;> (cases e; exact q)
  | bl c =>
    cases dx with
    | bl a =>
      cases e
      exact op_isnot_bl pn s1 st Hh x y v u Q I rx ry ⟨a, c, vx.blE, vy.blE, q⟩
    | _ => cases e
  | _ => cases e
theorem in_case {K : PySem.W.Frag} {G H : Hp} {dx dy : D} {x y : V} {b : Bool} (t : Sub G H) (vx : View K G H dx x) (vy : View K G H dy y) (e : inD dx dy = some b) :
    (∃ i j, x = .str i ∧ y = .str j ∧ b = !(Builtin.Str.occurrences j i 0 j.length 1).isEmpty) ∨
    (∃ p xs, y = .ref p ∧ (SqL K H p xs ∨ SqT K H p xs) ∧ flatV x = true ∧ xs.all flatV = true ∧ b = inV x xs) ∨
    (∃ d ds, Dp K H x d ∧ Dp K H y (.list ds) ∧ SeqAt.shaped d = true ∧ SeqAt.shaped (.list ds) = true ∧ b = ds.any fun z => PyData.eqv z d) := by
  unfold inD at e
  split at e
  · rename_i ys
    obtain ⟨p, vs, rfl, h1, r1⟩ := vy.lstE t
    split at e
    · rename_i z
      rw [Bool.and_eq_true] at z
      cases e
      exact .inr (.inl ⟨p, vs, rfl, .inl h1, flatV_of vx z.1, flats_of r1 z.2, (inV_of vx z.1 r1 z.2).symm⟩)
    · split at e
      · rename_i z
        rw [Bool.and_eq_true] at z
        cases e
        refine .inr (.inr ⟨dx.pd, pds ys, vx.dp t z.1, vy.dp t z.2, z.1, z.2, ?_⟩)
        rw [pds_any]
      · cases e
  · split at e
    · rename_i z
      rw [Bool.and_eq_true] at z
      obtain ⟨p, vs, rfl, h1, r1⟩ := vy.tupE t
      cases e
      exact .inr (.inl ⟨p, vs, rfl, .inr h1, flatV_of vx z.1, flats_of r1 z.2, (inV_of vx z.1 r1 z.2).symm⟩)
    · cases e
  · split at e
    · cases e
      exact .inl ⟨_, _, vx.strE, vy.strE, rfl⟩
    · cases e
  · cases e
theorem op_inR (hu : X.A.units + 65 < cLine) : OpR X (compareOp .In) (rCm X.K .In) := by
  intro pn s1 st Hh x y v u Q I rx ry ⟨G, dx, dy, b, sG, vx, vy, e, q⟩
  rcases in_case sG vx vy e with ⟨i, j, rfl, rfl, rfl⟩ | ⟨p, xs, h1, h2, h3, h4, rfl⟩ | ⟨d, ds, h1, h2, h3, h4, rfl⟩
  · exact op_in_str pn s1 st Hh _ _ v u Q I rx ry ⟨_, _, rfl, rfl, q⟩
  · exact op_in_seq pn s1 st Hh _ _ v u Q I rx ry ⟨p, xs, h1, h2, h3, h4, q⟩
  · exact op_inD hu pn s1 st Hh _ _ v u Q I rx ry ⟨d, ds, h1, h2, h3, h4, q⟩
theorem op_ninR (hu : X.A.units + 65 < cLine) : OpR X (compareOp .NotIn) (rCm X.K .NotIn) := by
  intro pn s1 st Hh x y v u Q I rx ry ⟨G, dx, dy, b, sG, vx, vy, e, q⟩
  simp only [cmpD] at e
  cases e1 : inD dx dy with
  | none => rw [e1] at e; cases e
  | some c =>
    rw [e1] at e
    cases e
    rcases in_case sG vx vy e1 with ⟨i, j, rfl, rfl, rfl⟩ | ⟨p, xs, h1, h2, h3, h4, rfl⟩ | ⟨d, ds, h1, h2, h3, h4, rfl⟩
    · exact L2.op_notin_str pn s1 st Hh _ _ v u Q I rx ry ⟨_, _, rfl, rfl, q⟩
    · exact op_notIn_seq pn s1 st Hh _ _ v u Q I rx ry ⟨p, xs, h1, h2, h3, h4, q⟩
    · exact op_notInD hu pn s1 st Hh _ _ v u Q I rx ry ⟨d, ds, h1, h2, h3, h4, q⟩
theorem op_cm (hu : X.A.units + 65 < cLine) (op : CmpOp) : OpR X (compareOp op) (rCm X.K op) := by
  cases op with
  | Eq => exact op_eqR hu
  | NotEq => exact op_neR hu
  | Lt => exact op_ltR
  | LtE => exact op_leR
  | Gt => exact op_gtR
  | GtE => exact op_geR
  | Is => exact op_isR
  | IsNot => exact op_isnR
  | In => exact op_inR hu
  | NotIn => exact op_ninR hu

theorem atI_rep {K : PySem.W.Frag} {G : Hp} {ds : List D} {vs : List V} {i : Int} {d : D} (r : Reps K G ds vs) (h : atI ds i = some d) : ∃ v, atI vs i = some v ∧ Rep K G d v := by
  unfold atI at h ⊢
  rw [r.length] at h
  cases e : ixN vs.length i with
  | none => rw [e] at h; cases h
  | some j =>
    rw [e] at h
    obtain ⟨v, h1, h2⟩ := r.get (show ds[j]? = some d from h)
    exact ⟨v, by rw [← h1]; rfl, h2⟩
theorem ix_D : IxR X (rO2 X.K idxD) := by
  intro va sl pn s1 st Hh x y v u Q I rx ry ⟨G, dx, dy, d, fr, sG, vx, vy, e, q⟩ hs
  unfold idxD at e
  split at e
  · rename_i xs i
    cases e1 : atI xs i with
    | none => rw [e1] at e; cases e
    | some z =>
      rw [e1] at e
      cases e
      obtain ⟨p, vs, rfl, h1, r1⟩ := vx.lstE sG
      obtain ⟨w1, h2, h3⟩ := atI_rep r1 e1
      exact ix_list va sl pn s1 st Hh _ y v u Q I rx ry ⟨p, vs, i, w1, rfl, vy.intE, h1, h2, q _ _ (.same h3)⟩ hs
  · rename_i xs i
    cases e1 : atI xs i with
    | none => rw [e1] at e; cases e
    | some z =>
      rw [e1] at e
      cases e
      obtain ⟨p, vs, rfl, h1, r1⟩ := vx.tupE sG
      obtain ⟨w1, h2, h3⟩ := atI_rep r1 e1
      exact ix_tup va sl pn s1 st Hh _ y v u Q I rx ry ⟨p, vs, i, w1, rfl, vy.intE, h1, h2, q _ _ (.same h3)⟩ hs
  · split at e
    · rename_i z i hz
      cases e1 : atI z.cps.toList i with
      | none => rw [e1] at e; cases e
      | some c =>
        rw [e1] at e
        cases e
        exact ix_str va sl pn s1 st Hh _ y v u Q I rx ry ⟨z, i, c, vx.strE, vy.intE, by rw [← line_eq]; exact hz, e1, q _ _ (.same (.str _))⟩ hs
    · cases e
  · cases e
def rSl (K : PySem.W.Frag) : V → Option Int → Option Int → Hp → VK → Prop := fun x lo hi H Q => ∃ G dx d fr, Sub G H ∧ View K G H dx x ∧ slcD dx lo hi = some (d, fr) ∧ ∀ v H', ResV K G H d fr v H' → Q v H'
theorem sl_D : SlR X (rSl X.K) := by
  intro pn s1 st Hh x v vl vu lo hi sl Q I rx hs pl pu ⟨G, dx, d, fr, sG, vx, e, q⟩
  unfold slcD at e
  split at e
  · cases e
    obtain ⟨p, vs, rfl, h1, r1⟩ := vx.lstE sG
    exact sl_list pn s1 st Hh _ v vl vu lo hi sl Q I rx hs pl pu ⟨p, vs, rfl, h1, fun l hl => q _ _ (.lst hl (r1.cut lo hi))⟩
  · cases e
    obtain ⟨p, vs, rfl, h1, r1⟩ := vx.tupE sG
    refine sl_tupA pn s1 st Hh _ v vl vu lo hi sl Q I rx hs pl pu ⟨p, vs, rfl, h1, fun z => q _ _ (.same ?_), fun _ l hl => q _ _ (.tup sG hl (r1.cut lo hi))⟩
    rename_i xs
    have e2 : cutL xs lo hi = xs := by
      unfold cutL
      rw [r1.length, z.1, z.2, List.drop_zero, Nat.sub_zero, ← r1.length, List.take_length]
    rw [e2]
    cases vx with | rep r => exact r
  · split at e
    · rename_i hz
      cases e
      exact sl_str pn s1 st Hh _ v vl vu lo hi sl Q I rx hs pl pu ⟨_, vx.strE, by rw [← line_eq]; exact hz, q _ _ (.same (.str _))⟩
    · cases e
  · cases e
end

inductive Views (K : PySem.W.Frag) (G H : Hp) : List D → List V → Prop
  | nil : Views K G H [] []
  | cons {d : D} {v : V} {ds : List D} {vs : List V} : View K G H d v → Views K G H ds vs → Views K G H (d :: ds) (v :: vs)
theorem Views.mono {K : PySem.W.Frag} {G G' H H' : Hp} (s : Sub G G') (t : Sub H H') : ∀ {ds : List D} {vs : List V}, Views K G H ds vs → Views K G' H' ds vs
  | _, _, .nil => .nil
  | _, _, .cons h r => .cons (h.mono s t) (r.mono s t)
def rBi (K : PySem.W.Frag) (f : Str) : List V → Hp → VK → Prop := fun xs H Q => ∃ G ds d fr, Sub G H ∧ Views K G H ds xs ∧ biD f ds = some (d, fr) ∧ ∀ v H', ResV K G H d fr v H' → Q v H'
section
variable {X : Cx}
theorem bi_len : CallR X (.builtin "len") (rBi X.K "len") := by
  intro pn s1 st Hh xs us Q I r ⟨G, ds, d, fr, sG, vs, e, q⟩
  unfold biD at e
  rw [if_pos rfl] at e
  split at e
  · cases e
    cases vs with | cons v1 v2 => cases v2 with | nil =>
      obtain ⟨p, ws, rfl, h1, r1⟩ := v1.lstE sG
      refine call_len pn s1 st Hh _ us Q I r ⟨_, ws.length, rfl, .inl ⟨ws, h1, rfl⟩, ?_⟩
      rw [← r1.length]; exact q _ _ (.same (.int _))
  · cases e
    cases vs with | cons v1 v2 => cases v2 with | nil =>
      obtain ⟨p, ws, rfl, h1, r1⟩ := v1.tupE sG
      refine call_len pn s1 st Hh _ us Q I r ⟨_, ws.length, rfl, .inr ⟨ws, h1, rfl⟩, ?_⟩
      rw [← r1.length]; exact q _ _ (.same (.int _))
  · split at e
    · rename_i hz
      cases e
      cases vs with | cons v1 v2 => cases v2 with | nil =>
        rw [v1.strE] at r
        exact call_len pn s1 st Hh _ us Q I r ⟨_, _, rfl, ⟨by rw [← line_eq]; exact hz, rfl⟩, q _ _ (.same (.int _))⟩
    · cases e
  · cases e
theorem bi_list : CallR X (.type "list") (rBi X.K "list") := by
  intro pn s1 st Hh xs us Q I r ⟨G, ds, d, fr, sG, vs, e, q⟩
  unfold biD at e
  rw [if_neg (by decide +kernel), if_pos rfl] at e
  split at e
  · cases e
    cases vs with | cons v1 v2 => cases v2 with | nil =>
      obtain ⟨p, ws, rfl, h1, r1⟩ := v1.lstE sG
      exact call_list_of pn s1 st Hh _ us Q I r ⟨p, ws, rfl, .inl h1, fun l hl => q _ _ (.lst hl r1)⟩
  · cases e
    cases vs with | cons v1 v2 => cases v2 with | nil =>
      obtain ⟨p, ws, rfl, h1, r1⟩ := v1.tupE sG
      exact call_list_of pn s1 st Hh _ us Q I r ⟨p, ws, rfl, .inr h1, fun l hl => q _ _ (.lst hl r1)⟩
  · cases e
theorem bi_tuple : CallR X (.type "tuple") (rBi X.K "tuple") := by
  intro pn s1 st Hh xs us Q I r ⟨G, ds, d, fr, sG, vs, e, q⟩
  unfold biD at e
  rw [if_neg (by decide +kernel), if_neg (by decide +kernel), if_pos rfl] at e
  split at e
  · cases e
    cases vs with | cons v1 v2 => cases v2 with | nil =>
      obtain ⟨p, ws, rfl, h1, r1⟩ := v1.lstE sG
      exact call_tuple_of pn s1 st Hh _ us Q I r ⟨p, ws, rfl, .inl ⟨h1, fun l hl => q _ _ (.tup sG hl r1)⟩⟩
  · cases e
    cases vs with | cons v1 v2 => cases v2 with | nil =>
      have v3 := v1
      obtain ⟨p, ws, rfl, h1, r1⟩ := v1.tupE sG
      refine call_tuple_of pn s1 st Hh _ us Q I r ⟨p, ws, rfl, .inr ⟨h1, q _ _ (.same ?_)⟩⟩
      cases v3 with | rep r => exact r
  · cases e
theorem bi_int : CallR X (.type "int") (rBi X.K "int") := by
  intro pn s1 st Hh xs us Q I r ⟨G, ds, d, fr, sG, vs, e, q⟩
  unfold biD at e
  rw [if_neg (by decide +kernel), if_neg (by decide +kernel), if_neg (by decide +kernel), if_pos rfl] at e
  split at e
  · cases e
    cases vs with | cons v1 v2 => cases v2 with | nil =>
      rw [v1.intE] at r
      exact call_int1 pn s1 st Hh _ us Q I r (.inl ⟨_, rfl, q _ _ (.same (.int _))⟩)
  · cases e
    cases vs with | cons v1 v2 => cases v2 with | nil =>
      rw [v1.blE] at r
      exact call_int1 pn s1 st Hh _ us Q I r (.inr ⟨_, rfl, q _ _ (.same (.int _))⟩)
  · cases e
theorem bi_max (hc : X.calm = true) : CallR X (.builtin "max") (rBi X.K "max") := by
  intro pn s1 st Hh xs us Q I r ⟨G, ds, d, fr, sG, vs, e, q⟩
  unfold biD at e
  rw [if_neg (by decide +kernel), if_neg (by decide +kernel), if_neg (by decide +kernel), if_neg (by decide +kernel), if_pos rfl] at e
  split at e
  · cases e
    cases vs with | cons v1 v2 => cases v2 with | cons v2 v3 => cases v3 with | nil =>
      rw [v1.intE, v2.intE] at r
      exact call_max2 hc pn s1 st Hh _ us Q I r ⟨_, _, rfl, q _ _ (.same (.int _))⟩
  · cases e
theorem bi_min (hc : X.calm = true) : CallR X (.builtin "min") (rBi X.K "min") := by
  intro pn s1 st Hh xs us Q I r ⟨G, ds, d, fr, sG, vs, e, q⟩
  unfold biD at e
  rw [if_neg (by decide +kernel), if_neg (by decide +kernel), if_neg (by decide +kernel), if_neg (by decide +kernel), if_neg (by decide +kernel), if_pos rfl] at e
  split at e
  · cases e
    cases vs with | cons v1 v2 => cases v2 with | cons v2 v3 => cases v3 with | nil =>
      rw [v1.intE, v2.intE] at r
      exact call_min2 hc pn s1 st Hh _ us Q I r ⟨_, _, rfl, q _ _ (.same (.int _))⟩
  · cases e
theorem bi_all (hc : X.calm = true) : CallR X (.builtin "all") (rBi X.K "all") := by
  intro pn s1 st Hh xs us Q I r ⟨G, ds, d, fr, sG, vs, e, q⟩
  unfold biD at e
  rw [if_neg (by decide +kernel), if_neg (by decide +kernel), if_neg (by decide +kernel), if_neg (by decide +kernel), if_neg (by decide +kernel), if_neg (by decide +kernel), if_pos rfl] at e
  split at e
  · rename_i zs
    cases e1 : allBl zs with
    | none => rw [e1] at e; cases e
    | some bs =>
      rw [e1] at e
      cases e
      cases vs with | cons v1 v2 => cases v2 with | nil =>
        obtain ⟨p, ws, rfl, h1, r1⟩ := v1.lstE sG
        have e2 := r1.bls e1
        subst e2
        exact cr_all hc pn s1 st Hh _ us Q I r ⟨p, bs, rfl, h1, q _ _ (.same (.bl _))⟩
  · cases e
theorem bi_sum (hc : X.calm = true) : CallR X (.builtin "sum") (rBi X.K "sum") := by
  intro pn s1 st Hh xs us Q I r ⟨G, ds, d, fr, sG, vs, e, q⟩
  unfold biD at e
  rw [if_neg (by decide +kernel), if_neg (by decide +kernel), if_neg (by decide +kernel), if_neg (by decide +kernel), if_neg (by decide +kernel), if_neg (by decide +kernel), if_neg (by decide +kernel), if_pos rfl] at e
  split at e
  · rename_i zs
    cases e1 : allInt zs with
    | none => rw [e1] at e; cases e
    | some bs =>
      rw [e1] at e
      cases e
      cases vs with | cons v1 v2 => cases v2 with | nil =>
        obtain ⟨p, ws, rfl, h1, r1⟩ := v1.lstE sG
        have e2 := r1.ints e1
        subst e2
        exact cr_sum hc pn s1 st Hh _ us Q I r ⟨p, bs, rfl, h1, q _ _ (.same (.int _))⟩
  · cases e

/-- the type of a looked-at value -/
def tyD : D → String
  | .non => "NoneType" | .bl _ => "bool" | .int _ => "int" | .str _ => "str" | .tup _ => "tuple" | .lst _ => "list" | .dic _ => "dict" | .obj _ => ""
theorem tyx_of {K : PySem.W.Frag} {G H : Hp} {d : D} {v : V} (t : Sub G H) (h : View K G H d v) : TyX K H v (.type (tyD d)) := by
  have rdL : ∀ {p : Addr} {vs : List V}, SqL K H p vs → TyX K H (.ref p) (.type "list") := fun h => by
    rcases h with (h | ⟨o, h⟩) | ⟨o, its, m, h, c, _⟩
    · exact .base (.lst h)
    · exact .base (.frz h)
    · exact .kList h c
  cases h with
  | rep r =>
    cases r with
    | non => exact .base .non
    | bl b => exact .base (.bl b)
    | int i => exact .base (.int i)
    | str x => exact .base (.str x)
    | lst q r => exact rdL (t.sqL q)
    | tup q r =>
      rcases t.sqT q with (q | ⟨o, q⟩) | ⟨o, its, n, q, c, _⟩
      · exact .base (.tup q)
      · exact .fTuple q
      · exact .kTuple q c
    | dic q r => exact .base (.dK (t _ _ q))
  | lst q r => exact rdL q
  | dic q r => exact .base (.dK q)
theorem kit_D (K : PySem.W.Frag) (ty : Str) (d : D) (b : Bool) (h : isiD ty d = some b) : ∃ n : String, ty = (n : Str) ∧ bootBuiltins ty = some (.type n) ∧ PySem.W.kitOne K (.type (tyD d)) (.type n) = some b := by
  unfold isiD at h
  split at h
  · rename_i e; subst e
    refine ⟨"int", rfl, by decide +kernel, ?_⟩
    cases d <;> simp only [tyD] <;> (first | (cases h; exact kit_ty (by decide +kernel)) | cases h)
  · split at h
    · rename_i e; subst e
      refine ⟨"bool", rfl, by decide +kernel, ?_⟩
      cases d <;> simp only [tyD] <;> (first | (cases h; exact kit_ty (by decide +kernel)) | cases h)
    · split at h
      · rename_i e; subst e
        refine ⟨"str", rfl, by decide +kernel, ?_⟩
        cases d <;> simp only [tyD] <;> (first | (cases h; exact kit_ty (by decide +kernel)) | cases h)
      · split at h
        · rename_i e; subst e
          refine ⟨"tuple", rfl, by decide +kernel, ?_⟩
          cases d <;> simp only [tyD] <;> (first | (cases h; exact kit_ty (by decide +kernel)) | cases h)
        · split at h
          · rename_i e; subst e
            refine ⟨"list", rfl, by decide +kernel, ?_⟩
            cases d <;> simp only [tyD] <;> (first | (cases h; exact kit_ty (by decide +kernel)) | cases h)
          · cases h
/-- truth of a looked-at value -/
theorem tru_of {K : PySem.W.Frag} {G H : Hp} {d : D} {v : V} {b : Bool} (t : Sub G H) (h : View K G H d v) (e : tru d = some b) : TruV K v H b := by
  cases d with
  | non => rw [h.nonE]; cases e; rfl
  | bl b => rw [h.blE]; cases e; rfl
  | int i => rw [h.intE]; cases e; simp [TruV]; rw [Bool.eq_iff_iff]; simp
  | str s =>
    rw [h.strE]
    simp only [tru] at e
    split at e
    · rename_i hz
      cases e
      refine ⟨by rw [← line_eq]; exact hz, ?_⟩
      rw [Bool.eq_iff_iff]; simp
    · cases e
  | tup xs =>
    obtain ⟨p, ws, rfl, h1, r1⟩ := h.tupE t
    cases e
    refine .inr (.inl ⟨ws, h1, ?_⟩)
    cases r1 <;> rfl
  | lst xs =>
    obtain ⟨p, ws, rfl, h1, r1⟩ := h.lstE t
    cases e
    refine .inl ⟨ws, h1, ?_⟩
    cases r1 <;> rfl
  | dic xs =>
    cases e
    cases h with
    | rep r => cases r with | dic q r => exact .inr (.inr ⟨_, t _ _ q, by cases r <;> rfl⟩)
    | dic q r => exact .inr (.inr ⟨_, q, by cases r <;> rfl⟩)
  | obj n => cases e
end
end RR

namespace RR
open PySem L2

section
variable {K : PySem.W.Frag} {e : En} {w : Wd} {S : RS} {σ : St} {H : Hp}
/-- a slot is stored to; what it owned is let go -/
theorem Rel.setVal (r : Rel K e w S σ H) (i : Nat) {d : D} {v : V} (h : Rep K w.G d v) :
    ∃ w', w'.G = w.G ∧ (∀ (b : Addr) (j : Nat), w.ω b = some j → j ≠ i → w'.ω b = some j) ∧ (∀ (b : Addr) (j : Nat), w'.ω b = some j → w.ω b = some j ∧ j ≠ i) ∧ Rel K e w' ⟨S.sl.set i (.val d)⟩ (σ.set i (some v)) H := by
  refine ⟨⟨w.G, fun b => if w.ω b = some i then none else w.ω b⟩, rfl, fun b j hb hj => ?_, fun b j hb => ?_, ?_⟩
  · show (if w.ω b = some i then none else w.ω b) = some j
    rw [if_neg (by rw [hb]; simpa using hj)]; exact hb
  · have hb : (if w.ω b = some i then none else w.ω b) = some j := hb
    by_cases hi : w.ω b = some i
    · rw [if_pos hi] at hb; cases hb
    · rw [if_neg hi] at hb; exact ⟨hb, fun z => hi (by rw [← z]; exact hb)⟩
  refine ⟨r.gH, fun b o q => ?_, by simpa using r.len, fun j d' q => ?_, fun j d' q => ?_, fun b j q => ?_, r.e0H, r.e0G, r.eNew, fun b j q => ?_⟩
  · show (if w.ω b = some i then none else w.ω b) = none
    rw [r.gω _ _ q]; simp
  · by_cases hj : i = j
    · subst hj
      have li : i < S.sl.length := by
        have := (List.getElem?_eq_some_iff.mp q).1
        simpa using this
      rw [List.getElem?_set_self li] at q
      cases q
      exact ⟨v, by rw [List.getElem?_set_self (by rw [← r.len]; exact li)], h⟩
    · rw [List.getElem?_set_ne hj] at q
      obtain ⟨v', h1, h2⟩ := r.val j d' q
      exact ⟨v', by rw [List.getElem?_set_ne hj]; exact h1, h2⟩
  · by_cases hj : i = j
    · subst hj
      have li : i < S.sl.length := by
        have := (List.getElem?_eq_some_iff.mp q).1
        simpa using this
      rw [List.getElem?_set_self li] at q
      cases q
    · rw [List.getElem?_set_ne hj] at q
      obtain ⟨p, o, h1, h2, h3, h4⟩ := r.own j d' q
      refine ⟨p, o, by rw [List.getElem?_set_ne hj]; exact h1, h2, h3, ?_⟩
      show (if w.ω p = some i then none else w.ω p) = some j
      rw [if_neg (by rw [h4]; simpa using fun z => hj z.symm)]; exact h4
  · have q : (if w.ω b = some i then none else w.ω b) = some j := q
    by_cases hb : w.ω b = some i
    · rw [if_pos hb] at q; cases q
    · rw [if_neg hb] at q
      have hj : i ≠ j := fun z => hb (by rw [z]; exact q)
      obtain ⟨d', h1, h2⟩ := r.owned b j q
      exact ⟨d', by rw [List.getElem?_set_ne hj]; exact h1, by rw [List.getElem?_set_ne hj]; exact h2⟩
  · have q : (if w.ω b = some i then none else w.ω b) = some j := q
    by_cases hb : w.ω b = some i
    · rw [if_pos hb] at q; cases q
    · rw [if_neg hb] at q; exact r.eω b j q
theorem Rel.setOwn (r : Rel K e w S σ H) (i : Nat) {d : D} {v : V} (h : Fresh K e.H w H d v) :
    ∃ w', w'.G = w.G ∧ Rel K e w' ⟨S.sl.set i (.own d)⟩ (σ.set i (some v)) H := by
  obtain ⟨p, o, rfl, h1, h2, h3, h4, h5⟩ := h
  by_cases li : i < S.sl.length
  · have li2 : i < σ.length := by rw [← r.len]; exact li
    refine ⟨⟨w.G, fun b => if b = p then some i else if w.ω b = some i then none else w.ω b⟩, rfl, ?_⟩
    refine ⟨r.gH, fun b u q => ?_, by simpa using r.len, fun j d' q => ?_, fun j d' q => ?_, fun b j q => ?_, r.e0H, r.e0G, r.eNew, fun b j q => ?_⟩
    · have hb : b ≠ p := fun z => by
        subst z
        rw [show w.G b = some u from q] at h3; cases h3
      show (if b = p then some i else if w.ω b = some i then none else w.ω b) = none
      rw [if_neg hb, r.gω _ _ q]; simp
    · by_cases hj : i = j
      · subst hj
        rw [List.getElem?_set_self li] at q
        cases q
      · rw [List.getElem?_set_ne hj] at q
        obtain ⟨v', e1, e2⟩ := r.val j d' q
        exact ⟨v', by rw [List.getElem?_set_ne hj]; exact e1, e2⟩
    · by_cases hj : i = j
      · subst hj
        rw [List.getElem?_set_self li] at q
        cases q
        exact ⟨p, o, by rw [List.getElem?_set_self li2], h1, h2, by simp⟩
      · rw [List.getElem?_set_ne hj] at q
        obtain ⟨p', o', e1, e2, e3, e4⟩ := r.own j d' q
        have hp : p' ≠ p := fun z => by rw [z, h4] at e4; cases e4
        refine ⟨p', o', by rw [List.getElem?_set_ne hj]; exact e1, e2, e3, ?_⟩
        show (if p' = p then some i else if w.ω p' = some i then none else w.ω p') = some j
        rw [if_neg hp, if_neg (by rw [e4]; simpa using fun z => hj z.symm)]; exact e4
    · have q : (if b = p then some i else if w.ω b = some i then none else w.ω b) = some j := q
      by_cases hb : b = p
      · rw [if_pos hb] at q
        cases q
        subst hb
        exact ⟨d, by rw [List.getElem?_set_self li], by rw [List.getElem?_set_self li2]⟩
      · rw [if_neg hb] at q
        by_cases hb2 : w.ω b = some i
        · rw [if_pos hb2] at q; cases q
        · rw [if_neg hb2] at q
          have hj : i ≠ j := fun z => hb2 (by rw [z]; exact q)
          obtain ⟨d', e1, e2⟩ := r.owned b j q
          exact ⟨d', by rw [List.getElem?_set_ne hj]; exact e1, by rw [List.getElem?_set_ne hj]; exact e2⟩
    · have q : (if b = p then some i else if w.ω b = some i then none else w.ω b) = some j := q
      by_cases hb : b = p
      · subst hb; exact h5
      · rw [if_neg hb] at q
        by_cases hb2 : w.ω b = some i
        · rw [if_pos hb2] at q; cases q
        · rw [if_neg hb2] at q; exact r.eω b j q
  · refine ⟨w, rfl, ?_⟩
    rw [List.set_eq_of_length_le (by omega), List.set_eq_of_length_le (by rw [← r.len]; omega)]
    exact r
/-- the content of an own thing is changed -/
theorem Rel.setCont (r : Rel K e w S σ H) {i : Nat} {d d' : D} {p : Addr} {o' : HO} (h : S.sl[i]? = some (Sl.own d)) (hp : σ[i]? = some (some (.ref p))) (c : Cont K w.G d' o') :
    Rel K e w ⟨S.sl.set i (.own d')⟩ σ (upd H p o') := by
  obtain ⟨p1, o, h1, h2, h3, h4⟩ := r.own i d h
  rw [hp] at h1
  cases h1
  have li : i < S.sl.length := (List.getElem?_eq_some_iff.mp h).1
  have gp : w.G p = none := by
    cases q : w.G p with
    | none => rfl
    | some u => rw [r.gω _ _ q] at h4; cases h4
  refine ⟨r.gH.upd2 gp, r.gω, by simpa using r.len, fun j d1 q => ?_, fun j d1 q => ?_, fun b j q => ?_, r.e0H.upd2 (r.eω _ _ h4), r.e0G, r.eNew, r.eω⟩
  · by_cases hj : i = j
    · subst hj; rw [List.getElem?_set_self li] at q; cases q
    · rw [List.getElem?_set_ne hj] at q; exact r.val j d1 q
  · by_cases hj : i = j
    · subst hj
      rw [List.getElem?_set_self li] at q
      cases q
      exact ⟨p, o', hp, upd_same, c, h4⟩
    · rw [List.getElem?_set_ne hj] at q
      obtain ⟨p', u, e1, e2, e3, e4⟩ := r.own j d1 q
      have hp' : p' ≠ p := fun z => by rw [z, h4] at e4; exact hj (Option.some.inj e4)
      exact ⟨p', u, e1, by rw [upd_ne hp']; exact e2, e3, e4⟩
  · obtain ⟨d1, e1, e2⟩ := r.owned b j q
    by_cases hj : i = j
    · subst hj; exact ⟨d', by rw [List.getElem?_set_self li], e2⟩
    · exact ⟨d1, by rw [List.getElem?_set_ne hj]; exact e1, e2⟩
/-- an object that is nobody's is changed -/
theorem Rel.updFree (r : Rel K e w S σ H) {p : Addr} {o : HO} (g : w.G p = none) (f : w.ω p = none) (n : e.H p = none) : Rel K e w S σ (upd H p o) where
  gH := r.gH.upd2 g
  gω := r.gω
  len := r.len
  val := r.val
  own := fun i d q => by
    obtain ⟨p', o', h1, h2, h3, h4⟩ := r.own i d q
    exact ⟨p', o', h1, by rw [upd_ne (fun z => by rw [z, f] at h4; cases h4)]; exact h2, h3, h4⟩
  owned := r.owned
  e0H := r.e0H.upd2 n
  e0G := r.e0G
  eNew := r.eNew
  eω := r.eω

theorem resv_fin (r : Rel K e w S σ H) {d : D} {fr : Bool} {v : V} {H' : Hp} (h : ResV K w.G H d fr v H') : ∃ w', Ext w H w' H' ∧ Rel K e w' S σ H' ∧ Res1 K H w' H' d fr v := by
  rcases h with ⟨rfl, p, o, rfl, n, rfl, c⟩ | ⟨rfl, rfl, q⟩ | ⟨rfl, p, o, rfl, n, rfl, q⟩
  · exact ⟨w, .alloc n, r.alloc n, p, o, rfl, upd_same, c, r.gH.none n, r.ωnone n, n⟩
  · exact ⟨w, .refl _ _, r, q⟩
  · exact ⟨_, .allocG r.gH n, r.allocG n, q⟩

theorem wipeR_length (l : List Sl) : ∀ is : List Nat, (wipeR l is).length = l.length
  | [] => rfl
  | i :: is => by unfold wipeR; rw [List.length_set, wipeR_length l is]
theorem wipeR_in (l : List Sl) : ∀ {is : List Nat} {j : Nat}, j ∈ is → ∀ s, (wipeR l is)[j]? = some s → s = .un
  | i :: is, j, h, s, q => by
    unfold wipeR at q
    by_cases hj : i = j
    · subst hj
      have li := (List.getElem?_eq_some_iff.mp q).1
      rw [List.getElem?_set_self (by simpa using li)] at q
      cases q; rfl
    · rw [List.getElem?_set_ne hj] at q
      rcases List.mem_cons.mp h with z | z
      · exact absurd z.symm hj
      · exact wipeR_in l z s q
theorem wipeR_out (l : List Sl) : ∀ {is : List Nat} {j : Nat}, ¬ j ∈ is → (wipeR l is)[j]? = l[j]?
  | [], _, _ => rfl
  | i :: is, j, h => by
    unfold wipeR
    rw [List.mem_cons, not_or] at h
    rw [List.getElem?_set_ne (fun z => h.1 z.symm), wipeR_out l h.2]
theorem wipe_in (l : St) : ∀ {is : List Nat} {j : Nat}, j ∈ is → ∀ s, (wipe l is)[j]? = some s → s = none
  | i :: is, j, h, s, q => by
    unfold wipe at q
    by_cases hj : i = j
    · subst hj
      have li := (List.getElem?_eq_some_iff.mp q).1
      rw [List.getElem?_set_self (by simpa using li)] at q
      cases q; rfl
    · rw [List.getElem?_set_ne hj] at q
      rcases List.mem_cons.mp h with z | z
      · exact absurd z.symm hj
      · exact wipe_in l z s q
theorem wipe_notin (l : St) : ∀ {is : List Nat} {j : Nat}, ¬ j ∈ is → (wipe l is)[j]? = l[j]?
  | [], _, _ => rfl
  | i :: is, j, h => by
    unfold wipe
    rw [List.mem_cons, not_or] at h
    rw [List.getElem?_set_ne (fun z => h.1 z.symm), wipe_notin l h.2]
theorem wipe_ext {l l' : St} {is : List Nat} (hl : l.length = l'.length) (h : ∀ j, ¬ j ∈ is → l[j]? = l'[j]?) : wipe l is = wipe l' is := by
  apply List.ext_getElem?
  intro j
  by_cases hj : j ∈ is
  · cases q : (wipe l is)[j]? with
    | none =>
      have := List.getElem?_eq_none_iff.mp q
      rw [wipe_length] at this
      exact (List.getElem?_eq_none_iff.mpr (by rw [wipe_length]; omega)).symm
    | some s =>
      have e1 := wipe_in l hj s q
      have li := (List.getElem?_eq_some_iff.mp q).1
      rw [wipe_length] at li
      cases q' : (wipe l' is)[j]? with
      | none =>
        have := List.getElem?_eq_none_iff.mp q'
        rw [wipe_length] at this
        omega
      | some s' => rw [e1, wipe_in l' hj s' q']
  · rw [wipe_notin l hj, wipe_notin l' hj, h j hj]
theorem Rel.wiped (r : Rel K e w S σ H) {is : List Nat} (f : ∀ i ∈ is, ∀ d, S.sl[i]? ≠ some (Sl.own d)) : Rel K e w ⟨wipeR S.sl is⟩ (wipe σ is) H where
  gH := r.gH
  gω := r.gω
  len := by show (wipeR S.sl is).length = _; rw [wipeR_length, wipe_length]; exact r.len
  val := fun j d q => by
    by_cases hj : j ∈ is
    · cases wipeR_in _ hj _ q
    · rw [show (wipeR S.sl is)[j]? = S.sl[j]? from wipeR_out _ hj] at q
      rw [wipe_notin _ hj]; exact r.val j d q
  own := fun j d q => by
    by_cases hj : j ∈ is
    · cases wipeR_in _ hj _ q
    · rw [show (wipeR S.sl is)[j]? = S.sl[j]? from wipeR_out _ hj] at q
      rw [wipe_notin _ hj]; exact r.own j d q
  owned := fun b j q => by
    obtain ⟨d, h1, h2⟩ := r.owned b j q
    have hj : ¬ j ∈ is := fun z => f j z d h1
    exact ⟨d, by show (wipeR S.sl is)[j]? = _; rw [wipeR_out _ hj]; exact h1, by rw [wipe_notin _ hj]; exact h2⟩
  e0H := r.e0H
  e0G := r.e0G
  eNew := r.eNew
  eω := r.eω
theorem freeAt_own {l : List Sl} {is : List Nat} (h : freeAt l is = true) : ∀ i ∈ is, ∀ d, l[i]? ≠ some (Sl.own d) := by
  intro i hi d z
  unfold freeAt at h
  have := List.all_eq_true.mp h i hi
  rw [z] at this
  cases this
theorem backR_length (o l : List Sl) : ∀ is : List Nat, (backR o l is).length = l.length
  | [] => rfl
  | i :: is => by unfold backR; rw [List.length_set, backR_length o l is]
theorem backR_in (o l : List Sl) : ∀ {is : List Nat} {j : Nat}, j ∈ is → ∀ s, (backR o l is)[j]? = some s → s = o.getD j .un
  | i :: is, j, h, s, q => by
    unfold backR at q
    by_cases hj : i = j
    · subst hj
      have li := (List.getElem?_eq_some_iff.mp q).1
      rw [List.getElem?_set_self (by simpa using li)] at q
      cases q; rfl
    · rw [List.getElem?_set_ne hj] at q
      rcases List.mem_cons.mp h with z | z
      · exact absurd z.symm hj
      · exact backR_in o l z s q
theorem backR_out (o l : List Sl) : ∀ {is : List Nat} {j : Nat}, ¬ j ∈ is → (backR o l is)[j]? = l[j]?
  | [], _, _ => rfl
  | i :: is, j, h => by
    unfold backR
    rw [List.mem_cons, not_or] at h
    rw [List.getElem?_set_ne (fun z => h.1 z.symm), backR_out o l h.2]
/-- behind a comprehension the slots stand as they stood -/
theorem Rel.back {w1 : Wd} {S1 : RS} {H1 : Hp} (r1 : Rel K e w1 S1 σ H1) {is : List Nat} (f : ∀ i ∈ is, ∀ d, S1.sl[i]? ≠ some (Sl.own d)) (r : Rel K e w S (wipe σ is) H) (g : Sub w1.G w.G) (nw : ∀ i ∈ is, ∀ d, S.sl[i]? ≠ some (Sl.own d)) : Rel K e w ⟨backR S1.sl S.sl is⟩ σ H where
  gH := r.gH
  gω := r.gω
  len := by
    show (backR S1.sl S.sl is).length = _
    rw [backR_length]
    have := r.len
    rw [wipe_length] at this
    exact this
  val := fun j d q => by
    by_cases hj : j ∈ is
    · have e1 := backR_in S1.sl S.sl hj _ q
      have : S1.sl[j]? = some (.val d) := by
        rw [List.getD_eq_getElem?_getD] at e1
        cases z : S1.sl[j]? with
        | none => rw [z] at e1; cases e1
        | some s => rw [z] at e1; rw [show s = Sl.val d from e1.symm]
      obtain ⟨v, h1, h2⟩ := r1.val j d this
      exact ⟨v, h1, h2.mono g⟩
    · rw [show (backR S1.sl S.sl is)[j]? = S.sl[j]? from backR_out _ _ hj] at q
      obtain ⟨v, h1, h2⟩ := r.val j d q
      exact ⟨v, by rw [wipe_notin _ hj] at h1; exact h1, h2⟩
  own := fun j d q => by
    by_cases hj : j ∈ is
    · have e1 := backR_in S1.sl S.sl hj _ q
      have : S1.sl[j]? = some (.own d) := by
        rw [List.getD_eq_getElem?_getD] at e1
        cases z : S1.sl[j]? with
        | none => rw [z] at e1; cases e1
        | some s => rw [z] at e1; rw [show s = Sl.own d from e1.symm]
      exact absurd this (f j hj d)
    · rw [show (backR S1.sl S.sl is)[j]? = S.sl[j]? from backR_out _ _ hj] at q
      obtain ⟨p, o, h1, h2⟩ := r.own j d q
      exact ⟨p, o, by rw [wipe_notin _ hj] at h1; exact h1, h2⟩
  owned := fun b j q => by
    obtain ⟨d, h1, h2⟩ := r.owned b j q
    have hj : ¬ j ∈ is := fun z => nw j z d h1
    exact ⟨d, by show (backR S1.sl S.sl is)[j]? = _; rw [backR_out _ _ hj]; exact h1, by rw [wipe_notin _ hj] at h2; exact h2⟩
  e0H := r.e0H
  e0G := r.e0G
  eNew := r.eNew
  eω := r.eω
end

section
variable (K : PySem.W.Frag) (e : En) (Γ : Cfg)
/-- the settled world with what is owned -/
def gAll (w : Wd) (H : Hp) : Hp := fun b => match w.G b with
  | some o => some o
  | none => if (w.ω b).isSome then H b else none
def GA (pk : Bool) (w : Wd) (H : Hp) : Hp := if pk then gAll w H else w.G
def PostE (σ : St) (w : Wd) (H : Hp) (Q : VK) (o : Out) : Prop := match o with
  | .ok d fr S' => ∀ v w' H', Ext w H w' H' → Rel K e w' S' σ H' → Res1 K H w' H' d fr v → Q v H'
  | _ => False
def PostO (pk : Bool) (σ : St) (w : Wd) (H : Hp) (Q : VK) (o : Out) : Prop := match o with
  | .ok d fr S' => ∀ v w' H', Ext w H w' H' → Rel K e w' S' σ H' → View K w'.G H' d v → Rep K (GA pk w' H') d v → Q v H'
  | _ => False
def PostB (σ : St) (w : Wd) (H : Hp) (Q : Bool → Hp → Prop) (o : OutB) : Prop := match o with
  | .ok b S' => ∀ w' H', Ext w H w' H' → Rel K e w' S' σ H' → Q b H'
  | _ => False
def PostL (σ : St) (w : Wd) (H : Hp) (Q : List V → Hp → Prop) (o : OutL) : Prop := match o with
  | .ok ds S' => ∀ vs w' H', Ext w H w' H' → Rel K e w' S' σ H' → Reps K w'.G ds vs → Q vs H'
  | _ => False
def PostV (pk : Bool) (σ : St) (w : Wd) (H : Hp) (Q : List V → Hp → Prop) (o : OutL) : Prop := match o with
  | .ok ds S' => ∀ vs w' H', Ext w H w' H' → Rel K e w' S' σ H' → Views K w'.G H' ds vs → Reps K (GA pk w' H') ds vs → Q vs H'
  | _ => False
def TEc (c : C) : TE := fun σ H Q => ∃ w S, Rel K e w S σ H ∧ PostE K e σ w H Q (evE Γ c S)
def C.isPk : C → Bool
  | .pk _ => true | _ => false
def TOc (c : C) : TE := fun σ H Q => ∃ w S, Rel K e w S σ H ∧ PostO K e c.isPk σ w H Q (pkO Γ c (evE Γ c S) S)
def TTc (c : C) : TT := fun σ H Q => ∃ w S, Rel K e w S σ H ∧ PostB K e σ w H Q (evT Γ c S)
def TLc (cs : Cs) : TA := fun σ H Q => ∃ w S, Rel K e w S σ H ∧ PostL K e σ w H Q (evCs Γ cs S)
def TVc (cs : Cs) : TA := fun σ H Q => ∃ w S, Rel K e w S σ H ∧ PostV K e cs.hasPk σ w H Q (evOs Γ cs S)
end
section
variable {K : PySem.W.Frag} {e : En} {Γ : Cfg} {σ : St} {w w1 : Wd} {H H1 : Hp} {S : RS}
theorem gAll_sub (r : Rel K e w S σ H) : Sub (gAll w H) H := fun b o q => by
  unfold gAll at q
  split at q
  · rename_i u hu
    cases q
    exact r.gH _ _ hu
  · split at q
    · exact q
    · cases q
theorem G_gAll : Sub w.G (gAll w H) := fun b o q => by unfold gAll; rw [q]
theorem gAll_own {b : Addr} {i : Nat} (r : Rel K e w S σ H) (h : w.ω b = some i) : gAll w H b = H b := by
  unfold gAll
  cases q : w.G b with
  | none => simp [h]
  | some u => rw [r.gω _ _ q] at h; cases h
theorem GA_sub (pk : Bool) (r : Rel K e w S σ H) : Sub (GA pk w H) H := by
  cases pk with
  | true => exact gAll_sub r
  | false => exact r.gH
theorem G_GA (pk : Bool) : Sub w.G (GA pk w H) := by
  cases pk with
  | true => exact G_gAll
  | false => exact Sub.refl _
theorem gAll_ext {S1 : RS} (x : Ext w H w1 H1) (r : Rel K e w S σ H) (r1 : Rel K e w1 S1 σ H1) : Sub (gAll w H) (gAll w1 H1) := fun b o q => by
  unfold gAll at q
  split at q
  · rename_i u hu
    cases q
    exact G_gAll _ _ (x.g _ _ hu)
  · split at q
    · rename_i hs
      obtain ⟨i, hi⟩ := Option.isSome_iff_exists.mp hs
      rcases x.own b i o hi q with z | z
      · rw [gAll_own r1 z]; exact x.h _ _ q
      · exact G_gAll _ _ z
    · cases q
theorem GA_ext {S1 : RS} {pk pk' : Bool} (hp : pk = true → pk' = true) (x : Ext w H w1 H1) (r : Rel K e w S σ H) (r1 : Rel K e w1 S1 σ H1) : Sub (GA pk w H) (GA pk' w1 H1) := by
  cases pk with
  | true => rw [hp rfl]; exact gAll_ext x r r1
  | false => exact x.g.trans (G_GA _)
theorem Res1.base {H2 : Hp} (s : Sub H H1) {d : D} {fr : Bool} {v : V} (q : Res1 K H1 w H2 d fr v) : Res1 K H w H2 d fr v := by
  cases fr with
  | false => exact q
  | true =>
    obtain ⟨p, o, a, b, c, d, f, g⟩ := q
    exact ⟨p, o, a, b, c, d, f, s.none g⟩
theorem PostE.ext {Q : VK} {o : Out} (x : Ext w H w1 H1) (h : PostE K e σ w H Q o) : PostE K e σ w1 H1 Q o := by
  cases o with
  | ok d fr S' => exact fun v w' H' y r q => h v w' H' (x.trans y) r (q.base x.h)
  | _ => exact h
theorem PostO.ext {pk : Bool} {Q : VK} {o : Out} (x : Ext w H w1 H1) (h : PostO K e pk σ w H Q o) : PostO K e pk σ w1 H1 Q o := by
  cases o with
  | ok d fr S' => exact fun v w' H' y r q => h v w' H' (x.trans y) r q
  | _ => exact h
theorem PostB.ext {Q : Bool → Hp → Prop} {o : OutB} (x : Ext w H w1 H1) (h : PostB K e σ w H Q o) : PostB K e σ w1 H1 Q o := by
  cases o with
  | ok b S' => exact fun w' H' y r => h w' H' (x.trans y) r
  | _ => exact h
theorem PostL.ext {Q : List V → Hp → Prop} {o : OutL} (x : Ext w H w1 H1) (h : PostL K e σ w H Q o) : PostL K e σ w1 H1 Q o := by
  cases o with
  | ok d S' => exact fun v w' H' y r q => h v w' H' (x.trans y) r q
  | _ => exact h
theorem PostV.ext {pk : Bool} {Q : List V → Hp → Prop} {o : OutL} (x : Ext w H w1 H1) (h : PostV K e pk σ w H Q o) : PostV K e pk σ w1 H1 Q o := by
  cases o with
  | ok d S' => exact fun v w' H' y r q => h v w' H' (x.trans y) r q
  | _ => exact h
theorem TEc.mono {c : C} {Q Q' : VK} (h : TEc K e Γ c σ H Q) (m : ∀ v H', Q v H' → Q' v H') : TEc K e Γ c σ H Q' := by
  obtain ⟨w, S, r, p⟩ := h
  refine ⟨w, S, r, ?_⟩
  cases q : evE Γ c S with
  | ok d fr S' => rw [q] at p; exact fun v w' H' y r' z => m _ _ (p v w' H' y r' z)
  | _ => rw [q] at p; exact p
theorem TOc.mono {c : C} {Q Q' : VK} (h : TOc K e Γ c σ H Q) (m : ∀ v H', Q v H' → Q' v H') : TOc K e Γ c σ H Q' := by
  obtain ⟨w, S, r, p⟩ := h
  refine ⟨w, S, r, ?_⟩
  cases q : pkO Γ c (evE Γ c S) S with
  | ok d fr S' => rw [q] at p; exact fun v w' H' y r' z z2 => m _ _ (p v w' H' y r' z z2)
  | _ => rw [q] at p; exact p
theorem TTc.mono {c : C} {Q Q' : Bool → Hp → Prop} (h : TTc K e Γ c σ H Q) (m : ∀ v H', Q v H' → Q' v H') : TTc K e Γ c σ H Q' := by
  obtain ⟨w, S, r, p⟩ := h
  refine ⟨w, S, r, ?_⟩
  cases q : evT Γ c S with
  | ok d S' => rw [q] at p; exact fun w' H' y r' => m _ _ (p w' H' y r')
  | _ => rw [q] at p; exact p
theorem TLc.mono {c : Cs} {Q Q' : List V → Hp → Prop} (h : TLc K e Γ c σ H Q) (m : ∀ v H', Q v H' → Q' v H') : TLc K e Γ c σ H Q' := by
  obtain ⟨w, S, r, p⟩ := h
  refine ⟨w, S, r, ?_⟩
  cases q : evCs Γ c S with
  | ok d S' => rw [q] at p; exact fun v w' H' y r' z => m _ _ (p v w' H' y r' z)
  | _ => rw [q] at p; exact p
theorem TVc.mono {c : Cs} {Q Q' : List V → Hp → Prop} (h : TVc K e Γ c σ H Q) (m : ∀ v H', Q v H' → Q' v H') : TVc K e Γ c σ H Q' := by
  obtain ⟨w, S, r, p⟩ := h
  refine ⟨w, S, r, ?_⟩
  cases q : evOs Γ c S with
  | ok d S' => rw [q] at p; exact fun v w' H' y r' z z2 => m _ _ (p v w' H' y r' z z2)
  | _ => rw [q] at p; exact p

/-- one thing behind another -/
theorem bndE {c : C} {Q : VK} {P : Wd → Hp → RS → D → Prop} (r : Rel K e w S σ H)
    (h : match evE Γ c S with | .ok d _ S' => ∀ w' H', Ext w H w' H' → Rel K e w' S' σ H' → P w' H' S' d | _ => False) :
    TEc K e Γ c σ H fun v H1 => ∃ w1 S1 d, Ext w H w1 H1 ∧ Rel K e w1 S1 σ H1 ∧ Rep K w1.G d v ∧ P w1 H1 S1 d := by
  refine ⟨w, S, r, ?_⟩
  cases q : evE Γ c S with
  | ok d fr S1 =>
    rw [q] at h
    intro v w' H' x r' z
    obtain ⟨w1, x1, r1, p⟩ := r'.fin x r.e0H z
    exact ⟨w1, S1, d, x1, r1, p, h w1 H' x1 r1⟩
  | _ => rw [q] at h; exact h
theorem bndO {c : C} {Q : VK} {P : Wd → Hp → RS → D → Prop} (r : Rel K e w S σ H)
    (h : match pkO Γ c (evE Γ c S) S with | .ok d _ S' => ∀ w' H', Ext w H w' H' → Rel K e w' S' σ H' → P w' H' S' d | _ => False) :
    TOc K e Γ c σ H fun v H1 => ∃ w1 S1 d, Ext w H w1 H1 ∧ Rel K e w1 S1 σ H1 ∧ View K w1.G H1 d v ∧ Rep K (GA c.isPk w1 H1) d v ∧ P w1 H1 S1 d := by
  refine ⟨w, S, r, ?_⟩
  cases q : pkO Γ c (evE Γ c S) S with
  | ok d fr S1 =>
    rw [q] at h
    intro v w' H' x r' z z2
    exact ⟨w', S1, d, x, r', z, z2, h w' H' x r'⟩
  | _ => rw [q] at h; exact h
theorem bndT {c : C} {Q : VK} {P : Wd → Hp → RS → Bool → Prop} (r : Rel K e w S σ H)
    (h : match evT Γ c S with | .ok d S' => ∀ w' H', Ext w H w' H' → Rel K e w' S' σ H' → P w' H' S' d | _ => False) :
    TTc K e Γ c σ H fun d H1 => ∃ w1 S1, Ext w H w1 H1 ∧ Rel K e w1 S1 σ H1 ∧ P w1 H1 S1 d := by
  refine ⟨w, S, r, ?_⟩
  cases q : evT Γ c S with
  | ok d S1 =>
    rw [q] at h
    intro w' H' x r'
    exact ⟨w', S1, x, r', h w' H' x r'⟩
  | _ => rw [q] at h; exact h
theorem bndL {c : Cs} {Q : VK} {P : Wd → Hp → RS → List D → Prop} (r : Rel K e w S σ H)
    (h : match evCs Γ c S with | .ok d S' => ∀ w' H', Ext w H w' H' → Rel K e w' S' σ H' → P w' H' S' d | _ => False) :
    TLc K e Γ c σ H fun vs H1 => ∃ w1 S1 ds, Ext w H w1 H1 ∧ Rel K e w1 S1 σ H1 ∧ Reps K w1.G ds vs ∧ P w1 H1 S1 ds := by
  refine ⟨w, S, r, ?_⟩
  cases q : evCs Γ c S with
  | ok d S1 =>
    rw [q] at h
    intro v w' H' x r' z
    exact ⟨w', S1, d, x, r', z, h w' H' x r'⟩
  | _ => rw [q] at h; exact h
theorem bndV {c : Cs} {Q : VK} {P : Wd → Hp → RS → List D → Prop} (r : Rel K e w S σ H)
    (h : match evOs Γ c S with | .ok d S' => ∀ w' H', Ext w H w' H' → Rel K e w' S' σ H' → P w' H' S' d | _ => False) :
    TVc K e Γ c σ H fun vs H1 => ∃ w1 S1 ds, Ext w H w1 H1 ∧ Rel K e w1 S1 σ H1 ∧ Views K w1.G H1 ds vs ∧ Reps K (GA c.hasPk w1 H1) ds vs ∧ P w1 H1 S1 ds := by
  refine ⟨w, S, r, ?_⟩
  cases q : evOs Γ c S with
  | ok d S1 =>
    rw [q] at h
    intro v w' H' x r' z z2
    exact ⟨w', S1, d, x, r', z, z2, h w' H' x r'⟩
  | _ => rw [q] at h; exact h
end
theorem imE {X : Cx} {ex : Expr} {t t' : TE} (p : PE X ex t) (h : ∀ σ H Q, t' σ H Q → t σ H Q) : PE X ex t' := ⟨fun a b c d f g k => p.run a b c d f g (h _ _ _ k)⟩
theorem imT {X : Cx} {ex : Expr} {t t' : TT} (p : PT X ex t) (h : ∀ σ H Q, t' σ H Q → t σ H Q) : PT X ex t' := ⟨fun a b c d f g k => p.run a b c d f g (h _ _ _ k)⟩
theorem imW {X : Cx} {ex : Expr} {t t' : TT} (p : PW X ex t) (h : ∀ σ H Q, t' σ H Q → t σ H Q) : PW X ex t' := ⟨fun a b c d f g k m => p.run a b c d f g k (h _ _ _ m)⟩
theorem imA {X : Cx} {ex : List Expr} {t t' : TA} (p : PA X ex t) (h : ∀ σ H Q, t' σ H Q → t σ H Q) : PA X ex t' := ⟨fun a b c d f g k m => p.run a b c d f g k (h _ _ _ m)⟩
theorem imS {X : Cx} {ex : Stmt} {t t' : TS} (p : PS X ex t) (h : ∀ D σ H, t' D σ H → t D σ H) : PS X ex t' := ⟨fun a b c d f g k => p.run a b c d f g (h _ _ _ k)⟩
theorem imSs {X : Cx} {ex : List Stmt} {t t' : TS} (p : PSs X ex t) (h : ∀ D σ H, t' D σ H → t D σ H) : PSs X ex t' := ⟨fun a b c d f g k => p.run a b c d f g (h _ _ _ k)⟩
end RR

namespace RR
open PySem L2

def visB (sc : Scope) (x : Str) : Bool := match sc.names.lookup x with
  | some .local => true | some .cell => true | some .free => true | _ => false
def glB (sc : Scope) (x : Str) : Bool := decide (sc.names.lookup x = some .globalImplicit)
def locB (sc : Scope) (x : Str) : Bool := match sc.names.lookup x with
  | some .local => true | some .cell => true | _ => false
def okN (x : Str) : Bool := !(x == ("__debug__" : Str)) && !(x == ("__classdict__" : Str))
/-- the built-in functions and classes that code may name -/
def biF (f : Str) : Bool := decide (f = "len") || decide (f = "max") || decide (f = "min") || decide (f = "all") || decide (f = "sum")
def tyB (f : Str) : Bool := decide (f = "int") || decide (f = "bool") || decide (f = "str") || decide (f = "tuple") || decide (f = "list")
def biT (f : Str) : Bool := decide (f = "list") || decide (f = "tuple") || decide (f = "int")
def ownOf (N : List Str) (tg : Tg) : List (Str × Nat) := tg.ix.map fun i => (N.getD i "", i)
/-- a name that is stored to; fn: whose cells were made at the block's entry -/
def chkN (N : List Str) (sc : Scope) (fn : Str → Bool) (i : Nat) (x : Str) : Bool := decide (N[i]? = some x) && locB sc x && (fn x || decide (sc.names.lookup x = some .local))
def chkNs (N : List Str) (sc : Scope) (fn : Str → Bool) : List Nat → List Expr → Bool
  | [], [] => true
  | i :: is, .Name x _ :: es => chkN N sc fn i x && chkNs N sc fn is es
  | _, _ => false
def chkTg (N : List Str) (sc : Scope) (fn : Str → Bool) (tg : Tg) (te : Expr) : Bool := match tg, te with
  | .nm i, .Name x _ => chkN N sc fn i x
  | .tp is, .Tuple es _ _ => chkNs N sc fn is es
  | _, _ => false
section
variable (N : List Str)
mutual
def chkE : C → Scope → Expr → Bool
  | .int i, _, .Constant (.int j) _ _ => decide (i = j)
  | .str i, _, .Constant (.str j) _ _ => decide (i = j)
  | .bl i, _, .Constant (.bool j) _ _ => decide (i = j)
  | .non, _, .Constant .none _ _ => true
  | .var i, sc, .Name x _ => decide (N[i]? = some x) && visB sc x && okN x
  | .pk i, sc, .Name x _ => decide (N[i]? = some x) && visB sc x && okN x
  | .glob y, sc, .Name x _ => decide (y = x) && glB sc x && okN x
  | .bin op a b, sc, .BinOp ea op' eb _ => decide (op = op') && chkE a sc ea && chkE b sc eb
  | .neg a, sc, .UnaryOp .USub ea _ => chkE a sc ea
  | .not a, sc, .UnaryOp .Not ea _ => chkE a sc ea
  | .and as, sc, .BoolOp .And es _ => chkCs as sc es
  | .or as, sc, .BoolOp .Or es _ => chkCs as sc es
  | .cmp op a b, sc, .Compare ea ops es _ => match ops, es with
    | [op'], [eb] => decide (op = op') && chkE a sc ea && chkE b sc eb
    | _, _ => false
  | .chn op1 op2 a b c, sc, .Compare ea ops es _ => match ops, es with
    | [o1, o2], [eb, ec] => decide (op1 = o1) && decide (op2 = o2) && chkE a sc ea && chkE b sc eb && chkE c sc ec
    | _, _ => false
  | .ite c a b, sc, .IfExp ec ea eb _ => chkE c sc ec && chkE a sc ea && chkE b sc eb
  | .tup es, sc, .Tuple xs _ _ => chkCs es sc xs
  | .lst es, sc, .List xs _ => chkCs es sc xs
  | .idx a i, sc, .Subscript ea ei _ => chkE a sc ea && chkE i sc ei
  | .slc a lo hi, sc, .Subscript ea (.Slice el eh es _) _ => chkE a sc ea && chkO lo sc el && chkO hi sc eh && es.isNone
  | .call f as, sc, .Call (.Name x _) es ks _ => decide (f = x) && glB sc x && okN x && ks.isEmpty && chkCs as sc es
  | .bi f as, sc, .Call (.Name x _) es ks _ => decide (f = x) && glB sc x && (biF x || biT x) && ks.isEmpty && !es.isEmpty && chkCs as sc es
  | .isi ty a, sc, .Call (.Name x _) es ks _ => match es with
    | [ea, .Name y _] => decide (x = "isinstance") && glB sc x && decide (ty = y) && tyB y && glB sc y && ks.isEmpty && chkE a sc ea
    | _ => false
  | .lc elt tg it cd, sc, .ListComp ee gens scope _ => match gens with
    | [⟨te, ie, ifs, as⟩] => decide (as = 0) && blkC N sc scope (ownOf N tg) && chkTg N (relS scope sc) (fun x => scope.names.lookup x == some .cell) tg te && chkI it sc te ie &&
        chkE elt (relS scope sc) ee && chkD cd (relS scope sc) ifs
    | _ => false
  | _, _, _ => false
def chkO : Oc → Scope → Option Expr → Bool
  | .no, _, none => true
  | .so c, sc, some e => chkE c sc e
  | _, _, _ => false
def chkD : Oc → Scope → List Expr → Bool
  | .no, _, [] => true
  | .so c, sc, [e] => chkE c sc e
  | _, _, _ => false
def chkCs : Cs → Scope → List Expr → Bool
  | .nil, _, [] => true
  | .cons c r, sc, e :: es => chkE c sc e && chkCs r sc es
  | _, _, _ => false
/-- what is walked, by a target te -/
def chkI : It → Scope → Expr → Expr → Bool
  | .seq c, sc, _, e => chkE c sc e
  | .rng as, sc, _, .Call (.Name x _) es ks _ => decide (x = "range") && glB sc x && ks.isEmpty && (decide (es.length = 1) || decide (es.length = 2)) && chkCs as sc es
  | .enm c, sc, .Tuple _ _ _, .Call (.Name x _) es ks _ => decide (x = "enumerate") && glB sc x && ks.isEmpty && (match es with | [e] => chkE c sc e | _ => false)
  | .zip a b, sc, .Tuple _ _ _, .Call (.Name x _) es ks _ => decide (x = "zip") && glB sc x && ks.isEmpty && (match es with | [e, e2] => chkE a sc e && chkE b sc e2 | _ => false)
  | .rev c, sc, _, .Call (.Name x _) es ks _ => decide (x = "reversed") && glB sc x && ks.isEmpty && (match es with | [e] => chkE c sc e | _ => false)
  | _, _, _, _ => false
end
end

def spF (K : PySem.W.Frag) (T : Tb) (n : Nat) (f : Str) (np : Nat) : Sp := fun vs H Q _ => ∃ G ds, Sub G H ∧ Reps K G ds vs ∧ ds.length = np ∧ match callF T n f ds with
  | .ok d fr => ∀ v H' G', Sub H H' → Sub G G' → Sub G' H' → (∀ b o, G' b = some o → G b = some o ∨ H b = none) →
      (if fr then ∃ p o, v = .ref p ∧ H' p = some o ∧ Cont K G' d o ∧ H p = none ∧ G' p = none else Rep K G' d v) → Q v H'
  | _ => False
def bltNames : List Str := ["len", "max", "min", "all", "sum", "list", "tuple", "int", "bool", "str", "isinstance", "range", "enumerate", "zip", "reversed"]
structure Gd (T : Tb) (n : Nat) (N : List Str) (sc : Scope) (X : Cx) : Prop where
  hN : X.N = N
  nd : N.Nodup
  hsc : X.env.scope = sc
  calm : X.calm = true
  room : Room n X.A
  glob : ∀ x d, T.glob x = some d → ∃ u v, X.mg x = some u ∧ RelV v u ∧ Rep X.K (fun _ => none) d v
  blt : ∀ x, x ∈ bltNames → X.mg x = none
  call : ∀ f fn, T.fn f = some fn → ∃ a fd ps, X.mg f = some (.ref a) ∧ PySem.W.keepIn X.K (.ref a) = true ∧ Binds X.K fd ps [] ∧ ps.length = fn.ps ∧ FnOk X.prog X.w X.K X.mg X.base CX0 n a fd ps (spF X.K T n f fn.ps)
section
variable {T : Tb} {n : Nat} {N : List Str} {sc : Scope} {X : Cx} {e : En}
theorem Gd.units (g : Gd T n N sc X) : X.A.units + 65 < cLine := by
  have := g.room.un
  omega
theorem Gd.nm (g : Gd T n N sc X) {i : Nat} {x : Str} (h : N[i]? = some x) : X.N[i]? = some x := by rw [g.hN]; exact h
theorem Gd.vis (g : Gd T n N sc X) {x : Str} (h : visB sc x = true) : Vis X.env.scope x := by
  rw [g.hsc]
  unfold visB at h
  unfold Vis
  split at h
  · rename_i q; exact .inl q
  · rename_i q; exact .inr (.inl q)
  · rename_i q; exact .inr (.inr q)
  · cases h
theorem Gd.loc (g : Gd T n N sc X) {x : Str} (h : locB sc x = true) : L2.Loc X.env.scope x := by
  rw [g.hsc]
  unfold locB at h
  unfold L2.Loc
  split at h
  · rename_i q; exact .inl q
  · rename_i q; exact .inr q
  · cases h
theorem Gd.gl (g : Gd T n N sc X) {x : Str} (h : glB sc x = true) : Gl X x := by
  unfold glB at h
  unfold Gl Env.kindOf
  rw [g.hsc]
  exact of_decide_eq_true h
theorem okN1 {x : Str} (h : okN x = true) : (x == ("__debug__" : Str)) = false := by
  unfold okN at h
  rw [Bool.and_eq_true] at h
  simpa using h.1
theorem okN2 {x : Str} (h : okN x = true) : (x == ("__classdict__" : Str)) = false := by
  unfold okN at h
  rw [Bool.and_eq_true] at h
  simpa using h.2
/-- no star, no slice: the text's form -/
theorem noStar {c : C} {ex : Expr} (h : chkE N c sc ex = true) (es : List Expr) (env : Env) : starEach (ex :: es) env = (false, eval ex env) :: starEach es env := by
  cases ex <;> first
    | rfl
    | (cases c <;> simp [chkE] at h)
theorem noSlice {c : C} {ex : Expr} (h : chkE N c sc ex = true) : PlainIx ex := by
  cases ex <;> first
    | exact fun _ _ => rfl
    | (cases c <;> simp [chkE] at h)
theorem noSet {c : C} {ex : Expr} (h : chkE N c sc ex = true) (env : Env) (x : Value) : foldedSetIterable ex env x = pure x := by
  cases ex <;> first
    | rfl
    | (cases c <;> simp [chkE] at h)
theorem noSetM {c : C} {ex : Expr} (h : chkE N c sc ex = true) (op : CmpOp) : behindInMarks op ex = false := by
  cases ex <;> first
    | rfl
    | (cases c <;> simp [chkE] at h)
end
end RR

namespace RR
open PySem L2
section
variable {T : Tb} {n : Nat} {N : List Str} {sc : Scope} {X : Cx} {e : En}

theorem postE_pur {K : PySem.W.Frag} {σ : St} {w : Wd} {H : Hp} {S : RS} {Q : VK} {r : Option (D × Bool)} (rel : Rel K e w S σ H) (h : PostE K e σ w H Q (pur S r)) :
    ∃ d fr, r = some (d, fr) ∧ ∀ v H', ResV K w.G H d fr v H' → Q v H' := by
  cases r with
  | none => exact (show False from h).elim
  | some p =>
    obtain ⟨d, fr⟩ := p
    refine ⟨d, fr, rfl, fun v H' res => ?_⟩
    obtain ⟨w', x, r', z⟩ := resv_fin rel res
    exact h v w' H' x r' z
theorem postE_same {K : PySem.W.Frag} {σ : St} {w : Wd} {H : Hp} {S : RS} {Q : VK} {d : D} {v : V} (rel : Rel K e w S σ H) (h : PostE K e σ w H Q (.ok d false S)) (r : Rep K w.G d v) : Q v H := h v w H (.refl _ _) rel r

theorem se_const {ex : Expr} {c : C} {d : D} {v : V} (p : PE X ex (tC v)) (hc : ∀ S, evE (T.cfg n) c S = .ok d false S) (hr : ∀ G, Rep X.K G d v) : PE X ex (TEc X.K e (T.cfg n) c) :=
  imE p fun σ H Q ⟨w, S, r, h⟩ => by
    rw [hc] at h
    exact postE_same r h (hr _)
theorem se_var (g : Gd T n N sc X) {i : Nat} {x : Str} {pos : Pos} (h1 : N[i]? = some x) (h2 : visB sc x = true) (h3 : okN x = true) : PE X (.Name x pos) (TEc X.K e (T.cfg n) (.var i)) :=
  imE (pe_var (g.nm h1) (g.vis h2) (okN1 h3) (okN2 h3)) fun σ H Q ⟨w, S, r, h⟩ => by
    rw [evE] at h
    unfold take at h
    split at h
    · rename_i d q
      obtain ⟨v, e1, e2⟩ := r.val i d q
      exact ⟨v, e1, h v w H (.refl _ _) r e2⟩
    · rename_i d q
      obtain ⟨w', v, e1, x1, r1, e2⟩ := r.freeze q
      exact ⟨v, e1, h v w' H x1 r1 e2⟩
    · exact h.elim
theorem rep_glob (g : Gd T n N sc X) {x : Str} {d : D} (h : T.glob x = some d) : ∃ u v, X.mg x = some u ∧ RelV v u ∧ ∀ G, Rep X.K G d v := by
  obtain ⟨u, v, h1, h2, h3⟩ := g.glob x d h
  exact ⟨u, v, h1, h2, fun G => h3.mono fun b o q => by cases q⟩
theorem se_glob (g : Gd T n N sc X) {x : Str} {pos : Pos} (h2 : glB sc x = true) (h3 : okN x = true) : PE X (.Name x pos) (TEc X.K e (T.cfg n) (.glob x)) := by
  cases hx : T.glob x with
  | none =>
    refine ⟨fun a b c d f k m => ?_⟩
    obtain ⟨w, S, r, h⟩ := m
    rw [evE] at h
    simp only [Tb.cfg, hx] at h
    exact h.elim
  | some d =>
    obtain ⟨u, v, e1, e2, e3⟩ := rep_glob g hx
    refine imE (pe_glob (g.gl h2) e1 e2 (okN1 h3)) fun σ H Q ⟨w, S, r, h⟩ => ?_
    rw [evE] at h
    simp only [Tb.cfg, hx] at h
    split at h
    · exact postE_same r h (e3 _)
    · exact h.elim
/-- an operand: a name may be only looked at -/
theorem so_of (g : Gd T n N sc X) {c : C} {ex : Expr} (hc : chkE N c sc ex = true) (p : PE X ex (TEc X.K e (T.cfg n) c)) : PE X ex (TOc X.K e (T.cfg n) c) := by
  have plain : (∀ S, pkO (T.cfg n) c (evE (T.cfg n) c S) S = evE (T.cfg n) c S) → c.isPk = false → PE X ex (TOc X.K e (T.cfg n) c) := fun hp hk => by
    refine imE p fun σ H Q ⟨w, S, r, h⟩ => ⟨w, S, r, ?_⟩
    rw [hp S] at h
    cases q : evE (T.cfg n) c S with
    | ok d fr S' =>
      rw [q] at h
      intro v w' H' x1 r1 z
      obtain ⟨w2, x2, r2, z2⟩ := r1.fin x1 r.e0H z
      exact h v w2 H' x2 r2 (.rep z2) (by rw [hk]; exact z2)
    | _ => rw [q] at h; exact h
  cases c with
  | pk i =>
    cases ex <;> first
      | (simp [chkE] at hc; done)
      | skip
    rename_i x pos
    simp only [chkE, Bool.and_eq_true, decide_eq_true_eq] at hc
    obtain ⟨⟨h1, h2⟩, h3⟩ := hc
    refine imE (pe_var (g.nm h1) (g.vis h2) (okN1 h3) (okN2 h3)) fun σ H Q ⟨w, S, r, h⟩ => ?_
    have h : PostO X.K e true σ w H Q (peek i S) := h
    unfold peek at h
    split at h
    · rename_i d q
      obtain ⟨v, e1, e2⟩ := r.val i d q
      exact ⟨v, e1, h v w H (.refl _ _) r (.rep e2) (e2.mono (G_GA _))⟩
    · rename_i d q
      obtain ⟨p, o, e1, e2, e3, e4⟩ := r.own i d q
      refine ⟨.ref p, e1, h _ w H (.refl _ _) r (.of_cont e2 e3) ?_⟩
      have e5 : gAll w H p = some o := by rw [gAll_own r e4]; exact e2
      show Rep X.K (gAll w H) d (.ref p)
      cases d with
      | lst ds => obtain ⟨vs, rfl, rr⟩ := e3; exact .lst (.inl (.inl e5)) (rr.mono G_gAll)
      | dic ds => obtain ⟨vs, rfl, rr⟩ := e3; exact .dic e5 (rr.mono G_gAll)
      | _ => exact (show False from e3).elim
    · exact h.elim
  | glob y =>
    cases ex <;> first
      | (simp [chkE] at hc; done)
      | skip
    rename_i x pos
    simp only [chkE, Bool.and_eq_true, decide_eq_true_eq] at hc
    obtain ⟨⟨h1, h2⟩, h3⟩ := hc
    subst h1
    cases hx : T.glob y with
    | none =>
      refine ⟨fun a b c d f k m => ?_⟩
      obtain ⟨w, S, r, h⟩ := m
      simp only [pkO, Tb.cfg, hx] at h
      exact h.elim
    | some d =>
      obtain ⟨u, v, e1, e2, e3⟩ := rep_glob g hx
      refine imE (pe_glob (g.gl h2) e1 e2 (okN1 h3)) fun σ H Q ⟨w, S, r, h⟩ => ?_
      simp only [pkO, Tb.cfg, hx] at h
      exact h v w H (.refl _ _) r (.rep (e3 _)) (e3 _)
  | _ => exact plain (fun _ => rfl) rfl

theorem se_bin {op : Operator} {a b : C} {ea eb : Expr} {pos : Pos} (ha : PE X ea (TOc X.K e (T.cfg n) a)) (hb : PE X eb (TOc X.K e (T.cfg n) b)) : PE X (.BinOp ea op eb pos) (TEc X.K e (T.cfg n) (.bin op a b)) :=
  imE (pe_op (op_bin op) ha hb) fun σ H Q ⟨w, S, r, h⟩ => by
    rw [evE] at h
    refine (bndO (Q := Q) (P := fun w1 H1 S1 x => PostE X.K e σ w1 H1 Q ((pkO (T.cfg n) b (evE (T.cfg n) b S1) S1).bnd fun y s2 => pur s2 (binD op x y))) r ?_).mono ?_
    · cases q : pkO (T.cfg n) a (evE (T.cfg n) a S) S with
      | ok d fr S' => rw [q] at h; exact fun w' H' x1 r1 => PostE.ext x1 h
      | _ => rw [q] at h; exact h
    rintro v H1 ⟨w1, S1, d, x1, r1, z1, _, h1⟩
    refine (bndO (Q := Q) (P := fun w2 H2 S2 y => PostE X.K e σ w2 H2 Q (pur S2 (binD op d y))) r1 ?_).mono ?_
    · cases q : pkO (T.cfg n) b (evE (T.cfg n) b S1) S1 with
      | ok d fr S' => rw [q] at h1; exact fun w' H' x1 r1 => PostE.ext x1 h1
      | _ => rw [q] at h1; exact h1
    rintro v2 H2 ⟨w2, S2, d2, x2, r2, z2, _, h2⟩
    obtain ⟨d3, fr, e3, q3⟩ := postE_pur r2 h2
    exact ⟨w2.G, d, d2, d3, fr, r2.gH, z1.mono x2.g x2.h, z2, e3, q3⟩
theorem cmp_read {K : PySem.W.Frag} {op : CmpOp} {a b : C} {σ : St} {H : Hp} {Q : VK} (hq : TEc K e (T.cfg n) (.cmp op a b) σ H Q) : tOp (rCm K op) (TOc K e (T.cfg n) a) (TOc K e (T.cfg n) b) σ H Q := by
    obtain ⟨w, S, r, h⟩ := hq
    rw [evE] at h
    refine (bndO (Q := Q) (P := fun w1 H1 S1 x => PostE K e σ w1 H1 Q ((pkO (T.cfg n) b (evE (T.cfg n) b S1) S1).bnd fun y s2 => pur s2 ((cmpD op x y).map fun c => (.bl c, false)))) r ?_).mono ?_
    · cases q : pkO (T.cfg n) a (evE (T.cfg n) a S) S with
      | ok d fr S' => rw [q] at h; exact fun w' H' x1 r1 => PostE.ext x1 h
      | _ => rw [q] at h; exact h
    rintro v H1 ⟨w1, S1, d, x1, r1, z1, _, h1⟩
    refine (bndO (Q := Q) (P := fun w2 H2 S2 y => PostE K e σ w2 H2 Q (pur S2 ((cmpD op d y).map fun c => (.bl c, false)))) r1 ?_).mono ?_
    · cases q : pkO (T.cfg n) b (evE (T.cfg n) b S1) S1 with
      | ok d fr S' => rw [q] at h1; exact fun w' H' x1 r1 => PostE.ext x1 h1
      | _ => rw [q] at h1; exact h1
    rintro v2 H2 ⟨w2, S2, d2, x2, r2, z2, _, h2⟩
    obtain ⟨d3, fr, e3, q3⟩ := postE_pur r2 h2
    cases e4 : cmpD op d d2 with
    | none => rw [e4] at e3; cases e3
    | some c =>
      rw [e4] at e3
      cases e3
      exact ⟨w2.G, d, d2, c, r2.gH, z1.mono x2.g x2.h, z2, e4, q3 _ _ (.same (.bl c))⟩
theorem se_cmp (g : Gd T n N sc X) {op : CmpOp} {a b : C} {ea eb : Expr} {pos : Pos} (hm : behindInMarks op eb = false) (ha : PE X ea (TOc X.K e (T.cfg n) a)) (hb : PE X eb (TOc X.K e (T.cfg n) b)) : PE X (.Compare ea [op] [eb] pos) (TEc X.K e (T.cfg n) (.cmp op a b)) :=
  imE (pe_cmpR (op_cm g.units op) ha hb hm) fun _ _ _ h => cmp_read h
theorem chn_read {K : PySem.W.Frag} {op op' : CmpOp} {a b c : C} {σ : St} {H : Hp} {Q : VK} (hq : TEc K e (T.cfg n) (.chn op op' a b c) σ H Q) : tChain (rCm K op) (rCm K op') (TOc K e (T.cfg n) a) (TOc K e (T.cfg n) b) (TOc K e (T.cfg n) c) σ H Q := by
    obtain ⟨w, S, r, h⟩ := hq
    rw [evE] at h
    refine (bndO (Q := Q) (P := fun w1 H1 S1 x => PostE K e σ w1 H1 Q ((pkO (T.cfg n) b (evE (T.cfg n) b S1) S1).bnd fun y s2 => match cmpD op x y with
    | some true => (pkO (T.cfg n) c (evE (T.cfg n) c s2) s2).bnd fun z s3 => pur s3 ((cmpD op' y z).map fun k => (.bl k, false))
    | some false => .ok (.bl false) false s2
    | none => .stuck)) r ?_).mono ?_
    · cases q : pkO (T.cfg n) a (evE (T.cfg n) a S) S with
      | ok d fr S' => rw [q] at h; exact fun w' H' x1 r1 => PostE.ext x1 h
      | _ => rw [q] at h; exact h
    rintro v H1 ⟨w1, S1, d, x1, r1, z1, _, h1⟩
    refine (bndO (Q := Q) (P := fun w2 H2 S2 y => PostE K e σ w2 H2 Q (match cmpD op d y with
    | some true => (pkO (T.cfg n) c (evE (T.cfg n) c S2) S2).bnd fun z s3 => pur s3 ((cmpD op' y z).map fun k => (.bl k, false))
    | some false => .ok (.bl false) false S2
    | none => .stuck)) r1 ?_).mono ?_
    · cases q : pkO (T.cfg n) b (evE (T.cfg n) b S1) S1 with
      | ok d fr S' => rw [q] at h1; exact fun w' H' x1 r1 => PostE.ext x1 h1
      | _ => rw [q] at h1; exact h1
    rintro v2 H2 ⟨w2, S2, d2, x2, r2, z2, _, h2⟩
    cases e4 : cmpD op d d2 with
    | none => rw [e4] at h2; exact h2.elim
    | some k =>
      rw [e4] at h2
      refine ⟨w2.G, d, d2, k, r2.gH, z1.mono x2.g x2.h, z2, e4, k, rfl, ?_⟩
      cases k with
      | false => exact postE_same r2 h2 (.bl false)
      | true =>
        refine (bndO (Q := Q) (P := fun w3 H3 S3 z => PostE K e σ w3 H3 Q (pur S3 ((cmpD op' d2 z).map fun k => (.bl k, false)))) r2 ?_).mono ?_
        · cases q : pkO (T.cfg n) c (evE (T.cfg n) c S2) S2 with
          | ok d fr S' => simp only [q] at h2; exact fun w' H' x1 r1 => PostE.ext x1 h2
          | _ => simp only [q] at h2; exact h2
        rintro v3 H3 ⟨w3, S3, d3, x3, r3, z3, _, h3⟩
        obtain ⟨d4, fr, e5, q5⟩ := postE_pur r3 h3
        cases e6 : cmpD op' d2 d3 with
        | none => rw [e6] at e5; cases e5
        | some k' =>
          rw [e6] at e5
          cases e5
          exact ⟨w3.G, d2, d3, k', r3.gH, z2.mono x3.g x3.h, z3, e6, q5 _ _ (.same (.bl k'))⟩
theorem se_chn (g : Gd T n N sc X) {op op' : CmpOp} {a b c : C} {ea eb ec : Expr} {pos : Pos} (hm : lastMarks [op, op'] [eb, ec] = false) (ha : PE X ea (TOc X.K e (T.cfg n) a)) (hb : PE X eb (TOc X.K e (T.cfg n) b)) (hc : PE X ec (TOc X.K e (T.cfg n) c)) :
    PE X (.Compare ea [op, op'] [eb, ec] pos) (TEc X.K e (T.cfg n) (.chn op op' a b c)) :=
  imE (pe_chain (op_cm g.units op) (op_cm g.units op') ha hb hc hm) fun _ _ _ h => chn_read h
theorem se_neg {a : C} {ea : Expr} {pos : Pos} (ha : PE X ea (TEc X.K e (T.cfg n) a)) : PE X (.UnaryOp .USub ea pos) (TEc X.K e (T.cfg n) (.neg a)) :=
  imE (pe_un un_neg ha) fun σ H Q ⟨w, S, r, h⟩ => by
    rw [evE] at h
    refine (bndE (Q := Q) (P := fun w1 H1 S1 x => PostE X.K e σ w1 H1 Q (match x with | .int i => .ok (.int (-i)) false S1 | _ => .stuck)) r ?_).mono ?_
    · cases q : evE (T.cfg n) a S with
      | ok d fr S' => rw [q] at h; exact fun w' H' x1 r1 => PostE.ext x1 h
      | _ => rw [q] at h; exact h
    rintro v H1 ⟨w1, S1, d, x1, r1, z1, h1⟩
    cases d with
    | int i => exact ⟨i, z1.intE, postE_same r1 h1 (.int _)⟩
    | _ => exact h1.elim
theorem se_not {a : C} {ea : Expr} {pos : Pos} (ha : PE X ea (TOc X.K e (T.cfg n) a)) : PE X (.UnaryOp .Not ea pos) (TEc X.K e (T.cfg n) (.not a)) :=
  imE (pe_notT ha) fun σ H Q ⟨w, S, r, h⟩ => by
    rw [evE] at h
    refine (bndO (Q := Q) (P := fun w1 H1 S1 x => PostE X.K e σ w1 H1 Q (match tru x with | some b => .ok (.bl (!b)) false S1 | none => .stuck)) r ?_).mono ?_
    · cases q : pkO (T.cfg n) a (evE (T.cfg n) a S) S with
      | ok d fr S' => rw [q] at h; exact fun w' H' x1 r1 => PostE.ext x1 h
      | _ => rw [q] at h; exact h
    rintro v H1 ⟨w1, S1, d, x1, r1, z1, _, h1⟩
    cases e4 : tru d with
    | none => rw [e4] at h1; exact h1.elim
    | some k =>
      rw [e4] at h1
      exact ⟨k, tru_of r1.gH z1 e4, postE_same r1 h1 (.bl _)⟩
theorem se_ite {c a b : C} {ec ea eb : Expr} {pos : Pos} (hc : PT X ec (TTc X.K e (T.cfg n) c)) (ha : PE X ea (TEc X.K e (T.cfg n) a)) (hb : PE X eb (TEc X.K e (T.cfg n) b)) : PE X (.IfExp ec ea eb pos) (TEc X.K e (T.cfg n) (.ite c a b)) :=
  imE (pe_ifExp hc ha hb) fun σ H Q ⟨w, S, r, h⟩ => by
    rw [evE] at h
    refine (bndT (Q := Q) (P := fun w1 H1 S1 k => PostE X.K e σ w1 H1 Q (match k with | true => evE (T.cfg n) a S1 | false => evE (T.cfg n) b S1)) r ?_).mono ?_
    · cases q : evT (T.cfg n) c S with
      | ok d S' => rw [q] at h; exact fun w' H' x1 r1 => PostE.ext x1 h
      | _ => rw [q] at h; exact h
    rintro k H1 ⟨w1, S1, x1, r1, h1⟩
    cases k with
    | true => exact ⟨w1, S1, r1, h1⟩
    | false => exact ⟨w1, S1, r1, h1⟩
theorem se_tup {es : Cs} {xs : List Expr} {k : Nat} {pos : Pos} (h : PA X xs (TLc X.K e (T.cfg n) es)) : PE X (.Tuple xs k pos) (TEc X.K e (T.cfg n) (.tup es)) :=
  imE (pe_tup h) fun σ H Q ⟨w, S, r, h⟩ => by
    rw [evE] at h
    refine (bndL (Q := Q) (P := fun w1 H1 S1 ds => PostE X.K e σ w1 H1 Q (if ds.length ≤ LINE then .ok (.tup ds) false S1 else .stuck)) r ?_).mono ?_
    · cases q : evCs (T.cfg n) es S with
      | ok d S' => rw [q] at h; exact fun w' H' x1 r1 => PostE.ext x1 h
      | _ => rw [q] at h; exact h
    rintro vs H1 ⟨w1, S1, ds, x1, r1, z1, h1⟩
    by_cases hz : ds.length ≤ LINE
    · rw [if_pos hz] at h1
      refine ⟨by rw [← z1.length, ← line_eq]; exact hz, fun p hp => ?_⟩
      exact h1 _ _ _ (.allocG r1.gH hp) (r1.allocG hp) (.tup (.inl (.inl upd_same)) (z1.mono (Sub.upd (r1.gH.none hp))))
    · rw [if_neg hz] at h1; exact h1.elim
theorem se_lst {es : Cs} {xs : List Expr} {pos : Pos} (h : PA X xs (TLc X.K e (T.cfg n) es)) : PE X (.List xs pos) (TEc X.K e (T.cfg n) (.lst es)) :=
  imE (pe_lst h) fun σ H Q ⟨w, S, r, h⟩ => by
    rw [evE] at h
    refine (bndL (Q := Q) (P := fun w1 H1 S1 ds => PostE X.K e σ w1 H1 Q (if ds.length ≤ LINE then .ok (.lst ds) true S1 else .stuck)) r ?_).mono ?_
    · cases q : evCs (T.cfg n) es S with
      | ok d S' => rw [q] at h; exact fun w' H' x1 r1 => PostE.ext x1 h
      | _ => rw [q] at h; exact h
    rintro vs H1 ⟨w1, S1, ds, x1, r1, z1, h1⟩
    by_cases hz : ds.length ≤ LINE
    · rw [if_pos hz] at h1
      refine ⟨by rw [← z1.length, ← line_eq]; exact hz, fun p hp => ?_⟩
      exact h1 _ _ _ (.alloc hp) (r1.alloc hp) ⟨p, _, rfl, upd_same, ⟨vs, rfl, z1⟩, r1.gH.none hp, r1.ωnone hp, hp⟩
    · rw [if_neg hz] at h1; exact h1.elim
theorem se_idx {a i : C} {ea ei : Expr} {pos : Pos} (hs : PlainIx ei) (ha : PE X ea (TOc X.K e (T.cfg n) a)) (hb : PE X ei (TEc X.K e (T.cfg n) i)) : PE X (.Subscript ea ei pos) (TEc X.K e (T.cfg n) (.idx a i)) :=
  imE (pe_ix ix_D ha hb hs) fun σ H Q ⟨w, S, r, h⟩ => by
    rw [evE] at h
    refine (bndO (Q := Q) (P := fun w1 H1 S1 x => PostE X.K e σ w1 H1 Q ((evE (T.cfg n) i S1).bnd fun y s2 => pur s2 (idxD x y))) r ?_).mono ?_
    · cases q : pkO (T.cfg n) a (evE (T.cfg n) a S) S with
      | ok d fr S' => rw [q] at h; exact fun w' H' x1 r1 => PostE.ext x1 h
      | _ => rw [q] at h; exact h
    rintro v H1 ⟨w1, S1, d, x1, r1, z1, _, h1⟩
    refine (bndE (Q := Q) (P := fun w2 H2 S2 y => PostE X.K e σ w2 H2 Q (pur S2 (idxD d y))) r1 ?_).mono ?_
    · cases q : evE (T.cfg n) i S1 with
      | ok d fr S' => rw [q] at h1; exact fun w' H' x1 r1 => PostE.ext x1 h1
      | _ => rw [q] at h1; exact h1
    rintro v2 H2 ⟨w2, S2, d2, x2, r2, z2, h2⟩
    obtain ⟨d3, fr, e3, q3⟩ := postE_pur r2 h2
    exact ⟨w2.G, d, d2, d3, fr, r2.gH, z1.mono x2.g x2.h, .rep z2, e3, q3⟩

/-- a slice's part -/
def TPc (K : PySem.W.Frag) (e : En) (Γ : Cfg) (c : Oc) : TO := fun σ H Q => ∃ w S, Rel K e w S σ H ∧ match evOc Γ c S with
  | .ok d _ S' => (match d with
    | .non => ∀ w' H', Ext w H w' H' → Rel K e w' S' σ H' → Q none H'
    | .int i => ∀ w' H', Ext w H w' H' → Rel K e w' S' σ H' → Q (some i) H'
    | _ => False)
  | _ => False
theorem sp_no : PO X none (TPc X.K e (T.cfg n) .no) := ⟨fun a b c d f g ⟨w, S, r, h⟩ => (po_none (X := X)).run a b c d f g (by
    simp only [evOc] at h
    exact h w d (.refl _ _) r)⟩
theorem sp_so {c : C} {ex : Expr} (hc : PE X ex (TEc X.K e (T.cfg n) c)) : PO X (some ex) (TPc X.K e (T.cfg n) (.so c)) := ⟨fun a b s d f g ⟨w, S, r, h⟩ => (po_some hc).run a b s d f g (by
    refine ⟨w, S, r, ?_⟩
    simp only [evOc] at h
    cases q : evE (T.cfg n) c S with
    | ok dd fr S' =>
      rw [q] at h
      intro v w' H' x1 r1 z
      obtain ⟨w2, x2, r2, z2⟩ := r1.fin x1 r.e0H z
      cases dd with
      | int i => exact ⟨i, z2.intE, h w2 H' x2 r2⟩
      | _ => exact h.elim
    | _ => rw [q] at h; exact h)⟩
theorem bndP {K : PySem.W.Frag} {Γ : Cfg} {σ : St} {w : Wd} {H : Hp} {S : RS} {c : Oc} {P : Wd → Hp → RS → Option Int → Prop} (r : Rel K e w S σ H)
    (h : match evOc Γ c S with
      | .ok d _ S' => (match d with
        | .non => ∀ w' H', Ext w H w' H' → Rel K e w' S' σ H' → P w' H' S' none
        | .int i => ∀ w' H', Ext w H w' H' → Rel K e w' S' σ H' → P w' H' S' (some i)
        | _ => False)
      | _ => False) : TPc K e Γ c σ H fun o H1 => ∃ w1 S1, Ext w H w1 H1 ∧ Rel K e w1 S1 σ H1 ∧ P w1 H1 S1 o := by
  refine ⟨w, S, r, ?_⟩
  cases q : evOc Γ c S with
  | ok d fr S1 =>
    rw [q] at h
    cases d with
    | non => exact fun w' H' x1 r1 => ⟨w', S1, x1, r1, h w' H' x1 r1⟩
    | int i => exact fun w' H' x1 r1 => ⟨w', S1, x1, r1, h w' H' x1 r1⟩
    | _ => exact h
  | _ => rw [q] at h; exact h
theorem TPc.mono {K : PySem.W.Frag} {Γ : Cfg} {σ : St} {H : Hp} {c : Oc} {Q Q' : Option Int → Hp → Prop} (h : TPc K e Γ c σ H Q) (m : ∀ v H', Q v H' → Q' v H') : TPc K e Γ c σ H Q' := by
  obtain ⟨w, S, r, p⟩ := h
  refine ⟨w, S, r, ?_⟩
  cases q : evOc Γ c S with
  | ok d fr S' =>
    rw [q] at p
    cases d with
    | non => exact fun w' H' x r => m _ _ (p w' H' x r)
    | int i => exact fun w' H' x r => m _ _ (p w' H' x r)
    | _ => exact p
  | _ => rw [q] at p; exact p
theorem se_slc {a : C} {lo hi : Oc} {ea : Expr} {el eh : Option Expr} {p2 pos : Pos} (ha : PE X ea (TOc X.K e (T.cfg n) a)) (hl : PO X el (TPc X.K e (T.cfg n) lo)) (hh : PO X eh (TPc X.K e (T.cfg n) hi)) :
    PE X (.Subscript ea (.Slice el eh none p2) pos) (TEc X.K e (T.cfg n) (.slc a lo hi)) :=
  imE (pe_slice sl_D ha hl hh) fun σ H Q ⟨w, S, r, h⟩ => by
    rw [evE] at h
    refine (bndO (Q := Q) (P := fun w1 H1 S1 x => PostE X.K e σ w1 H1 Q ((evOc (T.cfg n) lo S1).bnd fun l s2 => match oiD l with
    | none => .stuck
    | some l' => (evOc (T.cfg n) hi s2).bnd fun h s3 => match oiD h with
      | none => .stuck
      | some h' => pur s3 (slcD x l' h'))) r ?_).mono ?_
    · cases q : pkO (T.cfg n) a (evE (T.cfg n) a S) S with
      | ok d fr S' => rw [q] at h; exact fun w' H' x1 r1 => PostE.ext x1 h
      | _ => rw [q] at h; exact h
    rintro v H1 ⟨w1, S1, d, x1, r1, z1, _, h1⟩
    refine (bndP (P := fun w2 H2 S2 l => PostE X.K e σ w2 H2 Q ((evOc (T.cfg n) hi S2).bnd fun h s3 => match oiD h with
      | none => .stuck
      | some h' => pur s3 (slcD d l h'))) r1 ?_).mono ?_
    · cases q : evOc (T.cfg n) lo S1 with
      | ok l fr S' =>
        rw [q] at h1
        cases l with
        | non => exact fun w' H' x1 r1 => PostE.ext x1 h1
        | int i => exact fun w' H' x1 r1 => PostE.ext x1 h1
        | _ => exact h1
      | _ => rw [q] at h1; exact h1
    rintro l H2 ⟨w2, S2, x2, r2, h2⟩
    refine (bndP (P := fun w3 H3 S3 u => PostE X.K e σ w3 H3 Q (pur S3 (slcD d l u))) r2 ?_).mono ?_
    · cases q : evOc (T.cfg n) hi S2 with
      | ok u fr S' =>
        rw [q] at h2
        cases u with
        | non => exact fun w' H' x1 r1 => PostE.ext x1 h2
        | int i => exact fun w' H' x1 r1 => PostE.ext x1 h2
        | _ => exact h2
      | _ => rw [q] at h2; exact h2
    rintro u H3 ⟨w3, S3, x3, r3, h3⟩
    obtain ⟨d3, fr, e3, q3⟩ := postE_pur r3 h3
    exact ⟨w3.G, d, d3, fr, r3.gH, (z1.mono x2.g x2.h).mono x3.g x3.h, e3, q3⟩

theorem sl_nil : PA X [] (TLc X.K e (T.cfg n) .nil) :=
  imA pa_nil fun σ H Q ⟨w, S, r, h⟩ => by
    simp only [evCs] at h
    exact h [] w H (.refl _ _) r .nil
theorem sl_cons {c : C} {cs : Cs} {ex : Expr} {es : List Expr} (hs : starEach (ex :: es) X.env = (false, eval ex X.env) :: starEach es X.env) (hc : PE X ex (TEc X.K e (T.cfg n) c)) (hr : PA X es (TLc X.K e (T.cfg n) cs)) : PA X (ex :: es) (TLc X.K e (T.cfg n) (.cons c cs)) :=
  imA (pa_cons hc hr hs) fun σ H Q ⟨w, S, r, h⟩ => by
    simp only [evCs] at h
    refine (bndE (Q := fun _ _ => True) (P := fun w1 H1 S1 x => PostL X.K e σ w1 H1 Q ((evCs (T.cfg n) cs S1).bndL fun xs s2 => .ok (x :: xs) s2)) r ?_).mono ?_
    · cases q : evE (T.cfg n) c S with
      | ok d fr S' => rw [q] at h; exact fun w' H' x1 r1 => PostL.ext x1 h
      | _ => rw [q] at h; exact h
    rintro v H1 ⟨w1, S1, d, x1, r1, z1, h1⟩
    refine (bndL (Q := fun _ _ => True) (P := fun w2 H2 S2 xs => PostL X.K e σ w2 H2 Q (.ok (d :: xs) S2)) r1 ?_).mono ?_
    · cases q : evCs (T.cfg n) cs S1 with
      | ok d S' => rw [q] at h1; exact fun w' H' x1 r1 => PostL.ext x1 h1
      | _ => rw [q] at h1; exact h1
    rintro vs H2 ⟨w2, S2, ds, x2, r2, z2, h2⟩
    exact h2 _ w2 H2 (.refl _ _) r2 (.cons (z1.mono x2.g) z2)
theorem sv_nil : PA X [] (TVc X.K e (T.cfg n) .nil) :=
  imA pa_nil fun σ H Q ⟨w, S, r, h⟩ => by
    simp only [evOs] at h
    exact h [] w H (.refl _ _) r .nil .nil
theorem hasPk_cons (c : C) (cs : Cs) : (Cs.cons c cs).hasPk = (c.isPk || cs.hasPk) := by
  cases c <;> rfl
theorem sv_cons {c : C} {cs : Cs} {ex : Expr} {es : List Expr} (hs : starEach (ex :: es) X.env = (false, eval ex X.env) :: starEach es X.env) (hc : PE X ex (TOc X.K e (T.cfg n) c)) (hr : PA X es (TVc X.K e (T.cfg n) cs)) : PA X (ex :: es) (TVc X.K e (T.cfg n) (.cons c cs)) :=
  imA (pa_cons hc hr hs) fun σ H Q ⟨w, S, r, h⟩ => by
    simp only [evOs, hasPk_cons] at h
    refine (bndO (Q := fun _ _ => True) (P := fun w1 H1 S1 x => PostV X.K e (c.isPk || cs.hasPk) σ w1 H1 Q ((evOs (T.cfg n) cs S1).bndL fun xs s2 => .ok (x :: xs) s2)) r ?_).mono ?_
    · cases q : pkO (T.cfg n) c (evE (T.cfg n) c S) S with
      | ok d fr S' => rw [q] at h; exact fun w' H' x1 r1 => PostV.ext x1 h
      | _ => rw [q] at h; exact h
    rintro v H1 ⟨w1, S1, d, x1, r1, z1, y1, h1⟩
    refine (bndV (Q := fun _ _ => True) (P := fun w2 H2 S2 xs => PostV X.K e (c.isPk || cs.hasPk) σ w2 H2 Q (.ok (d :: xs) S2)) r1 ?_).mono ?_
    · cases q : evOs (T.cfg n) cs S1 with
      | ok d S' => rw [q] at h1; exact fun w' H' x1 r1 => PostV.ext x1 h1
      | _ => rw [q] at h1; exact h1
    rintro vs H2 ⟨w2, S2, ds, x2, r2, z2, y2, h2⟩
    refine h2 _ w2 H2 (.refl _ _) r2 (.cons (z1.mono x2.g x2.h) z2) (.cons (y1.mono (GA_ext (fun z => by rw [z]; rfl) x2 r1 r2)) (y2.mono ?_))
    cases hk : cs.hasPk with
    | true => rw [Bool.or_true]; exact Sub.refl _
    | false => exact G_GA _
end
end RR

namespace RR
open PySem L2

section
variable {K : PySem.W.Frag} {e : En} {w : Wd} {S : RS} {σ : St} {H : Hp}
theorem Rel.call (r : Rel K e w S σ H) {H' G' : Hp} (h1 : Sub H H') (h2 : Sub w.G G') (h3 : Sub G' H') (h4 : ∀ b o, G' b = some o → w.G b = some o ∨ H b = none) : Rel K e ⟨G', w.ω⟩ S σ H' where
  gH := h3
  gω := fun b o q => by
    rcases h4 b o q with z | z
    · exact r.gω _ _ z
    · exact r.ωnone z
  len := r.len
  val := fun i d q => by
    obtain ⟨v, e1, e2⟩ := r.val i d q
    exact ⟨v, e1, e2.mono h2⟩
  own := fun i d q => by
    obtain ⟨p, o, e1, e2, e3, e4⟩ := r.own i d q
    exact ⟨p, o, e1, h1 _ _ e2, e3.mono h2, e4⟩
  owned := r.owned
  e0H := r.e0H.trans h1
  e0G := r.e0G.trans h2
  eNew := fun b o q => by
    rcases h4 b o q with z | z
    · exact r.eNew _ _ z
    · exact .inr (r.e0H.none z)
  eω := r.eω
mutual
theorem Rep.only {G G1 : Hp} (h : ∀ p vs, Rd G p (.tup vs) → G1 p = G p) : ∀ {d : D} {v : V}, Rep K G d v → d.noL = true → Rep K G1 d v
  | _, _, .non, _ => .non
  | _, _, .bl b, _ => .bl b
  | _, _, .int i, _ => .int i
  | _, _, .str x, _ => .str x
  | _, _, .lst _ _, f => absurd (show false = true from f) Bool.false_ne_true
  | _, _, .tup (p := p) q r, f => by
    refine .tup ?_ (Reps.only h r (by simpa [D.noL] using f))
    rcases q with q | q
    · refine .inl ?_
      have e1 := h _ _ q
      rcases q with q | ⟨o, q⟩
      · exact .inl (by rw [e1]; exact q)
      · exact .inr ⟨o, by rw [e1]; exact q⟩
    · exact .inr q
  | _, _, .dic _ _, f => absurd (show false = true from f) Bool.false_ne_true
theorem Reps.only {G G1 : Hp} (h : ∀ p vs, Rd G p (.tup vs) → G1 p = G p) : ∀ {d : List D} {v : List V}, Reps K G d v → noLs d = true → Reps K G1 d v
  | _, _, .nil, _ => .nil
  | _, _, .cons q r, f => by
    rw [noLs, Bool.and_eq_true] at f
    exact .cons (Rep.only h q f.1) (Reps.only h r f.2)
end
theorem cont_noTup {G : Hp} {d : D} {o : HO} (c : Cont K G d o) : (∀ vs, o ≠ .tup vs) ∧ ∀ u vs, o ≠ .frz u (.tup vs) := by
  cases d with
  | lst ds => obtain ⟨vs, rfl, _⟩ := c; exact ⟨fun _ z => (by cases z), fun _ _ z => (by cases z)⟩
  | dic ds => obtain ⟨vs, rfl, _⟩ := c; exact ⟨fun _ z => (by cases z), fun _ _ z => (by cases z)⟩
  | _ => exact (show False from c).elim
theorem callF_ps {T : Tb} {n : Nat} {f : Str} {ds : List D} (h : callF T n f ds ≠ .stuck) : ∃ fn, T.fn f = some fn ∧ ds.length = fn.ps := by
  cases n with
  | zero => exact absurd rfl h
  | succ n =>
    simp only [callF] at h
    cases q : T.fn f with
    | none => rw [q] at h; exact absurd rfl h
    | some fn =>
      refine ⟨fn, rfl, ?_⟩
      rw [q] at h
      simp only [runF] at h
      by_cases z : ds.length = fn.ps
      · exact z
      · rw [if_neg z] at h; exact absurd rfl h
end
section
variable {T : Tb} {n : Nat} {N : List Str} {sc : Scope} {X : Cx} {e : En}
/-- what is behind a call -/
theorem call_post {σ : St} {w : Wd} {S : RS} {H : Hp} {Q : VK} {f : Str} {ds : List D} {vs : List V} {fn : Fn} {pk : Bool} (r : Rel X.K e w S σ H) (rv : Reps X.K (GA pk w H) ds vs) (hf : T.fn f = some fn)
    (h : PostE X.K e σ w H Q (match callF T n f ds with
      | .ok d fr => if pk && !d.noLq fr then .stuck else .ok d fr S
      | .exc x => .exc x S
      | .stuck => .stuck)) : spF X.K T n f fn.ps vs H Q E0 := by
  refine ⟨GA pk w H, ds, GA_sub pk r, rv, ?_, ?_⟩
  · have hn : callF T n f ds ≠ .stuck := fun z => by rw [z] at h; exact h
    obtain ⟨fn', h1, h2⟩ := callF_ps hn
    rw [hf] at h1
    cases h1
    exact h2
  · cases q : callF T n f ds with
    | exc x => rw [q] at h; exact h
    | stuck => rw [q] at h; exact h
    | ok d fr =>
      rw [q] at h
      intro v H' G' h1 h2 h3 h4 res
      cases pk with
      | false =>
        have r' := r.call h1 h2 h3 h4
        refine h v ⟨G', w.ω⟩ H' ⟨h2, h1, fun b i o z _ => .inl z, fun _ _ z => z, fun b o z => (h4 b o z).elim .inl fun q => .inr (.inl q)⟩ r' ?_
        cases fr with
        | false => exact res
        | true =>
          obtain ⟨p, o, rfl, e1, e2, e3, e4⟩ := res
          exact ⟨p, o, rfl, e1, e2, e4, r.ωnone e3, e3⟩
      | true =>
        simp only [Bool.true_and] at h
        cases hq : d.noLq fr with
        | false => rw [hq] at h; exact h.elim
        | true =>
          rw [hq] at h
          have hs : Sub w.G (fun b => if (w.ω b).isSome then none else G' b) := fun b o z => by
            show (if (w.ω b).isSome then none else G' b) = some o
            rw [r.gω _ _ z]
            exact h2 _ _ (G_gAll _ _ z)
          have hnew : ∀ (b : Addr) (o : HO), (if (w.ω b).isSome then none else G' b) = some o → w.G b = some o ∨ H b = none := (fun b o z => by
            have z : (if (w.ω b).isSome then none else G' b) = some o := z
            split at z
            · cases z
            · rename_i hw
              rcases h4 b o z with y | y
              · have y : gAll w H b = some o := y
                unfold gAll at y
                split at y
                · rename_i u hu; cases y; exact .inl hu
                · rw [if_neg hw] at y; cases y
              · exact .inr y)
          have r' := r.call (G' := fun b => if (w.ω b).isSome then none else G' b) h1 hs (fun b o z => by
            have z : (if (w.ω b).isSome then none else G' b) = some o := z
            split at z
            · cases z
            · exact h3 _ _ z) hnew
          have only : ∀ p us, Rd G' p (.tup us) → (fun b => if (w.ω b).isSome then none else G' b) p = G' p := fun p us z => by
            show (if (w.ω p).isSome then none else G' p) = G' p
            split
            · rename_i hw
              obtain ⟨i, hi⟩ := Option.isSome_iff_exists.mp hw
              obtain ⟨d1, o1, _, _, e3, e4⟩ := r.ownH hi
              have e5 : G' p = some o1 := h2 _ _ (by show gAll w H p = _; rw [gAll_own r hi]; exact e3)
              rcases z with z | ⟨u, z⟩
              · rw [e5] at z; exact absurd (Option.some.inj z) ((cont_noTup e4).1 _)
              · rw [e5] at z; exact absurd (Option.some.inj z) ((cont_noTup e4).2 _ _)
            · rfl
          refine h v ⟨fun b => if (w.ω b).isSome then none else G' b, w.ω⟩ H' ⟨hs, h1, fun b i o z _ => .inl z, fun _ _ z => z, fun b o z => (hnew b o z).elim .inl fun q => .inr (.inl q)⟩ r' ?_
          cases fr with
          | false =>
            have nl : d.noL = true := by
              cases d with
              | lst xs => simp [D.noLq] at hq
              | _ => exact hq
            exact Rep.only only res nl
          | true =>
            obtain ⟨p, o, rfl, e1, e2, e3, e4⟩ := res
            refine ⟨p, o, rfl, e1, ?_, ?_, r.ωnone e3, e3⟩
            · cases d with
              | lst xs =>
                obtain ⟨us, rfl, ru⟩ := e2
                exact ⟨us, rfl, Reps.only only ru (by simpa [D.noLq] using hq)⟩
              | dic xs => simp [D.noLq, D.noL] at hq
              | _ => exact (show False from e2).elim
            · show (if (w.ω p).isSome then none else G' p) = none
              rw [e4]; simp
theorem se_call (g : Gd T n N sc X) {f : Str} {as : Cs} {es : List Expr} {p pos : Pos} (hg : glB sc f = true) (ho : okN f = true) (hs : ∀ ex ∈ es.head?, ∀ xs env, starEach (ex :: xs) env = (false, eval ex env) :: starEach xs env)
    (hpl : (backTo pos (starEach es.tail X.env)).any (·.1) = false) (hn : es = [] → as = .nil) (ha : PA X es (TVc X.K e (T.cfg n) as)) : PE X (.Call (.Name f p) es [] pos) (TEc X.K e (T.cfg n) (.call f as)) := by
  cases hf : T.fn f with
  | none =>
    refine ⟨fun a b c d q k m => ?_⟩
    obtain ⟨w, S, r, h⟩ := m
    rw [evE] at h
    cases q2 : evOs (T.cfg n) as S with
    | ok ds S1 =>
      rw [q2] at h
      simp only [OutL.bnd] at h
      rw [show callF T n f ds = .stuck by
        cases n with
        | zero => rfl
        | succ n => simp only [callF, hf]] at h
      exact h.elim
    | _ => rw [q2] at h; exact h.elim
  | some fn =>
    obtain ⟨fa, fd, ps, h1, h2, h3, h4, h5⟩ := g.call f fn hf
    have key : ∀ σ H Q, TEc X.K e (T.cfg n) (.call f as) σ H Q → tCall (spF X.K T n f fn.ps) [] E0 (TVc X.K e (T.cfg n) as) σ H Q := fun σ H Q ⟨w, S, r, h⟩ => by
      rw [evE] at h
      refine (bndV (Q := Q) (P := fun w1 H1 S1 ds => PostE X.K e σ w1 H1 Q (match callF T n f ds with
        | .ok d fr => if as.hasPk && !d.noLq fr then .stuck else .ok d fr S1
        | .exc x => .exc x S1
        | .stuck => .stuck)) r ?_).mono ?_
      · cases q : evOs (T.cfg n) as S with
        | ok d S' => rw [q] at h; exact fun w' H' x1 r1 => PostE.ext x1 h
        | _ => rw [q] at h; exact h
      rintro vs H1 ⟨w1, S1, ds, x1, r1, _, z1, hh⟩
      rw [List.append_nil]
      exact call_post r1 z1 hf hh
    cases es with
    | nil =>
      refine imE (pe_call0 h5 g.room (g.gl hg) h1 h2 h3 .nil pass0 (okN1 ho)) fun σ H Q h => ?_
      obtain ⟨w, S, r, h⟩ := h
      rw [hn rfl, evE] at h
      simp only [evOs, OutL.bnd] at h
      exact call_post (pk := false) r .nil hf h
    | cons ex xs => exact imE (pe_call h5 g.room (g.gl hg) h1 h2 h3 .nil pass0 ha (okN1 ho) (hs ex (by simp) xs X.env) hpl) key
end

section
variable {T : Tb} {n : Nat} {N : List Str} {sc : Scope} {X : Cx} {e : En}
/-- a built-in by its name, its arguments looked at -/
theorem bi_read {f : Str} {as : Cs} {σ : St} {H : Hp} {Q : VK} (hq : TEc X.K e (T.cfg n) (.bi f as) σ H Q) : tCB (rBi X.K f) (TVc X.K e (T.cfg n) as) σ H Q := by
  obtain ⟨w, S, r, h⟩ := hq
  rw [evE] at h
  refine (bndV (Q := Q) (P := fun w1 H1 S1 ds => PostE X.K e σ w1 H1 Q (pur S1 (biD f ds))) r ?_).mono ?_
  · cases q : evOs (T.cfg n) as S with
    | ok d S' => rw [q] at h; exact fun w' H' x1 r1 => PostE.ext x1 h
    | _ => rw [q] at h; exact h
  rintro vs H1 ⟨w1, S1, ds, x1, r1, z1, _, h1⟩
  obtain ⟨d3, fr, e3, q3⟩ := postE_pur r1 h1
  exact ⟨w1.G, ds, d3, fr, r1.gH, z1, e3, q3⟩
theorem se_bi (g : Gd T n N sc X) {f : Str} {as : Cs} {ex : Expr} {es : List Expr} {p pos : Pos} (hg : glB sc f = true) (hf : (biF f || biT f) = true) (he : starEach (ex :: es) X.env = (false, eval ex X.env) :: starEach es X.env)
    (hpl : (backTo pos (starEach es X.env)).any (·.1) = false) (ha : PA X (ex :: es) (TVc X.K e (T.cfg n) as)) : PE X (.Call (.Name f p) (ex :: es) [] pos) (TEc X.K e (T.cfg n) (.bi f as)) := by
  unfold biF biT at hf
  simp only [Bool.or_eq_true, decide_eq_true_eq] at hf
  rcases hf with (((((rfl | rfl) | rfl) | rfl) | rfl) | ((rfl | rfl) | rfl))
  · exact imE (pe_callB bi_len (g.gl hg) (g.blt _ (by simp [bltNames])) (by decide +kernel) ha (by decide +kernel) (by decide +kernel) he hpl) fun _ _ _ h => bi_read h
  · exact imE (pe_callB (bi_max g.calm) (g.gl hg) (g.blt _ (by simp [bltNames])) (by decide +kernel) ha (by decide +kernel) (by decide +kernel) he hpl) fun _ _ _ h => bi_read h
  · exact imE (pe_callB (bi_min g.calm) (g.gl hg) (g.blt _ (by simp [bltNames])) (by decide +kernel) ha (by decide +kernel) (by decide +kernel) he hpl) fun _ _ _ h => bi_read h
  · exact imE (pe_callB (bi_all g.calm) (g.gl hg) (g.blt _ (by simp [bltNames])) (by decide +kernel) ha (by decide +kernel) (by decide +kernel) he hpl) fun _ _ _ h => bi_read h
  · exact imE (pe_callB (bi_sum g.calm) (g.gl hg) (g.blt _ (by simp [bltNames])) (by decide +kernel) ha (by decide +kernel) (by decide +kernel) he hpl) fun _ _ _ h => bi_read h
  · exact imE (pe_callTy bi_list (g.gl hg) (g.blt _ (by simp [bltNames])) (by decide +kernel) ha (by decide +kernel) (by decide +kernel) he hpl) fun _ _ _ h => bi_read h
  · exact imE (pe_callTy bi_tuple (g.gl hg) (g.blt _ (by simp [bltNames])) (by decide +kernel) ha (by decide +kernel) (by decide +kernel) he hpl) fun _ _ _ h => bi_read h
  · exact imE (pe_callTy bi_int (g.gl hg) (g.blt _ (by simp [bltNames])) (by decide +kernel) ha (by decide +kernel) (by decide +kernel) he hpl) fun _ _ _ h => bi_read h
theorem tyB_n {ty : Str} (h : tyB ty = true) : ∃ n : String, bootBuiltins ty = some (.type n) ∧ ty ∈ bltNames ∧ ty ≠ "__name__" ∧ (ty == ("__debug__" : Str)) = false := by
  unfold tyB at h
  simp only [Bool.or_eq_true, decide_eq_true_eq] at h
  rcases h with ((((rfl | rfl) | rfl) | rfl) | rfl)
  · exact ⟨"int", by decide +kernel, by simp [bltNames], by decide +kernel, by decide +kernel⟩
  · exact ⟨"bool", by decide +kernel, by simp [bltNames], by decide +kernel, by decide +kernel⟩
  · exact ⟨"str", by decide +kernel, by simp [bltNames], by decide +kernel, by decide +kernel⟩
  · exact ⟨"tuple", by decide +kernel, by simp [bltNames], by decide +kernel, by decide +kernel⟩
  · exact ⟨"list", by decide +kernel, by simp [bltNames], by decide +kernel, by decide +kernel⟩
theorem se_isi (g : Gd T n N sc X) {ty : Str} {a : C} {ea : Expr} {p p2 pos : Pos} (hg : glB sc "isinstance" = true) (hy : glB sc ty = true) (ht : tyB ty = true) (hs : ∀ xs env, starEach (ea :: xs) env = (false, eval ea env) :: starEach xs env) (ha : PE X ea (TOc X.K e (T.cfg n) a)) :
    PE X (.Call (.Name "isinstance" p) [ea, .Name ty p2] [] pos) (TEc X.K e (T.cfg n) (.isi ty a)) := by
  obtain ⟨m, hb, hm, hnn, hd⟩ := tyB_n ht
  have pt : PE X (.Name ty p2) (tC (.ty m)) := pe_bltn (g.gl hy) (g.blt _ hm) hb (show RelV (.ty m) (.type m) from rfl) hnn hd
  refine imE (pe_callB call_isi (g.gl hg) (g.blt _ (by simp [bltNames])) (by decide +kernel) (pa_cons ha (pa_cons pt pa_nil) (hs _ _)) (by decide +kernel) (by decide +kernel) (hs _ _) rfl) fun σ H Q ⟨w, S, r, h⟩ => ?_
  rw [evE] at h
  refine (bndO (Q := Q) (P := fun w1 H1 S1 x => PostE X.K e σ w1 H1 Q (pur S1 ((isiD ty x).map fun b => (.bl b, false)))) r ?_).mono ?_
  · cases q : pkO (T.cfg n) a (evE (T.cfg n) a S) S with
    | ok d fr S' => rw [q] at h; exact fun w' H' x1 r1 => PostE.ext x1 h
    | _ => rw [q] at h; exact h
  rintro v H1 ⟨w1, S1, d, x1, r1, z1, _, h1⟩
  obtain ⟨d3, fr, e3, q3⟩ := postE_pur r1 h1
  cases e4 : isiD ty d with
  | none => rw [e4] at e3; cases e3
  | some b =>
    rw [e4] at e3
    cases e3
    obtain ⟨m', e5, e6, e7⟩ := kit_D X.K ty d b e4
    rw [hb] at e6
    cases e6
    exact ⟨v, .ty m, _, _, b, rfl, .ty m, tyx_of r1.gH z1, e7, q3 _ _ (.same (.bl b))⟩

def TAndc (K : PySem.W.Frag) (e : En) (Γ : Cfg) (cs : Cs) : TE := fun σ H Q => ∃ w S, Rel K e w S σ H ∧ PostE K e σ w H Q (evAnd Γ cs S)
def TOrc (K : PySem.W.Frag) (e : En) (Γ : Cfg) (cs : Cs) : TE := fun σ H Q => ∃ w S, Rel K e w S σ H ∧ PostE K e σ w H Q (evOr Γ cs S)
def TTAndc (K : PySem.W.Frag) (e : En) (Γ : Cfg) (cs : Cs) : TT := fun σ H Q => ∃ w S, Rel K e w S σ H ∧ PostB K e σ w H Q (evTAnd Γ cs S)
def TTOrc (K : PySem.W.Frag) (e : En) (Γ : Cfg) (cs : Cs) : TT := fun σ H Q => ∃ w S, Rel K e w S σ H ∧ PostB K e σ w H Q (evTOr Γ cs S)
theorem sand_one {c : C} {ex : Expr} {pos : Pos} (h : PE X ex (TEc X.K e (T.cfg n) c)) : PE X (.BoolOp .And [ex] pos) (TAndc X.K e (T.cfg n) (.cons c .nil)) :=
  imE (pe_one h) fun σ H Q ⟨w, S, r, h⟩ => ⟨w, S, r, by simpa only [evAnd] using h⟩
theorem sor_one {c : C} {ex : Expr} {pos : Pos} (h : PE X ex (TEc X.K e (T.cfg n) c)) : PE X (.BoolOp .Or [ex] pos) (TOrc X.K e (T.cfg n) (.cons c .nil)) :=
  imE (pe_one h) fun σ H Q ⟨w, S, r, h⟩ => ⟨w, S, r, by simpa only [evOr] using h⟩
theorem sand_cons {c c2 : C} {cs : Cs} {ex ex2 : Expr} {es : List Expr} {pos : Pos} (h1 : PE X ex (TEc X.K e (T.cfg n) c)) (h2 : PE X (.BoolOp .And (ex2 :: es) pos) (TAndc X.K e (T.cfg n) (.cons c2 cs))) : PE X (.BoolOp .And (ex :: ex2 :: es) pos) (TAndc X.K e (T.cfg n) (.cons c (.cons c2 cs))) :=
  imE (pe_and h1 h2) fun σ H Q ⟨w, S, r, h⟩ => by
    rw [evAnd] at h
    case x_2 => simp
    refine (bndE (Q := Q) (P := fun w1 H1 S1 x => PostE X.K e σ w1 H1 Q (match x with | .bl true => evAnd (T.cfg n) (.cons c2 cs) S1 | .bl false => .ok (.bl false) false S1 | _ => .stuck)) r ?_).mono ?_
    · cases q : evE (T.cfg n) c S with
      | ok d fr S' => rw [q] at h; exact fun w' H' x1 r1 => PostE.ext x1 h
      | _ => rw [q] at h; exact h
    rintro v H1 ⟨w1, S1, d, x1, r1, z1, h1⟩
    cases d with
    | bl b =>
      refine ⟨b, z1.blE, ?_⟩
      cases b with
      | true => exact ⟨w1, S1, r1, h1⟩
      | false => exact postE_same r1 h1 (.bl _)
    | _ => exact h1.elim
theorem sor_cons {c c2 : C} {cs : Cs} {ex ex2 : Expr} {es : List Expr} {pos : Pos} (h1 : PE X ex (TEc X.K e (T.cfg n) c)) (h2 : PE X (.BoolOp .Or (ex2 :: es) pos) (TOrc X.K e (T.cfg n) (.cons c2 cs))) : PE X (.BoolOp .Or (ex :: ex2 :: es) pos) (TOrc X.K e (T.cfg n) (.cons c (.cons c2 cs))) :=
  imE (pe_or h1 h2) fun σ H Q ⟨w, S, r, h⟩ => by
    rw [evOr] at h
    case x_2 => simp
    refine (bndE (Q := Q) (P := fun w1 H1 S1 x => PostE X.K e σ w1 H1 Q (match x with | .bl true => .ok (.bl true) false S1 | .bl false => evOr (T.cfg n) (.cons c2 cs) S1 | _ => .stuck)) r ?_).mono ?_
    · cases q : evE (T.cfg n) c S with
      | ok d fr S' => rw [q] at h; exact fun w' H' x1 r1 => PostE.ext x1 h
      | _ => rw [q] at h; exact h
    rintro v H1 ⟨w1, S1, d, x1, r1, z1, h1⟩
    cases d with
    | bl b =>
      refine ⟨b, z1.blE, ?_⟩
      cases b with
      | true => exact postE_same r1 h1 (.bl _)
      | false => exact ⟨w1, S1, r1, h1⟩
    | _ => exact h1.elim
theorem stand_one {c : C} {ex : Expr} {pos : Pos} (h : PT X ex (TTc X.K e (T.cfg n) c)) : PW X (.BoolOp .And [ex] pos) (TTAndc X.K e (T.cfg n) (.cons c .nil)) :=
  imW (pw_and1 h) fun σ H Q ⟨w, S, r, h⟩ => ⟨w, S, r, by simpa only [evTAnd] using h⟩
theorem stor_one {c : C} {ex : Expr} {pos : Pos} (h : PT X ex (TTc X.K e (T.cfg n) c)) : PW X (.BoolOp .Or [ex] pos) (TTOrc X.K e (T.cfg n) (.cons c .nil)) :=
  imW (pw_or1 h) fun σ H Q ⟨w, S, r, h⟩ => ⟨w, S, r, by simpa only [evTOr] using h⟩
theorem stand_cons {c c2 : C} {cs : Cs} {ex ex2 : Expr} {es : List Expr} {pos : Pos} (h1 : PT X ex (TTc X.K e (T.cfg n) c)) (h2 : PW X (.BoolOp .And (ex2 :: es) pos) (TTAndc X.K e (T.cfg n) (.cons c2 cs))) : PW X (.BoolOp .And (ex :: ex2 :: es) pos) (TTAndc X.K e (T.cfg n) (.cons c (.cons c2 cs))) :=
  imW (pw_and h1 h2) fun σ H Q ⟨w, S, r, h⟩ => by
    rw [evTAnd] at h
    case x_2 => simp
    refine (bndT (Q := fun _ _ => True) (P := fun w1 H1 S1 x => PostB X.K e σ w1 H1 Q (match x with | true => evTAnd (T.cfg n) (.cons c2 cs) S1 | false => .ok false S1)) r ?_).mono ?_
    · cases q : evT (T.cfg n) c S with
      | ok d S' => rw [q] at h; exact fun w' H' x1 r1 => PostB.ext x1 h
      | _ => rw [q] at h; exact h
    rintro b H1 ⟨w1, S1, x1, r1, h1⟩
    cases b with
    | true => exact ⟨w1, S1, r1, h1⟩
    | false => exact h1 w1 H1 (.refl _ _) r1
theorem stor_cons {c c2 : C} {cs : Cs} {ex ex2 : Expr} {es : List Expr} {pos : Pos} (h1 : PT X ex (TTc X.K e (T.cfg n) c)) (h2 : PW X (.BoolOp .Or (ex2 :: es) pos) (TTOrc X.K e (T.cfg n) (.cons c2 cs))) : PW X (.BoolOp .Or (ex :: ex2 :: es) pos) (TTOrc X.K e (T.cfg n) (.cons c (.cons c2 cs))) :=
  imW (pw_or h1 h2) fun σ H Q ⟨w, S, r, h⟩ => by
    rw [evTOr] at h
    case x_2 => simp
    refine (bndT (Q := fun _ _ => True) (P := fun w1 H1 S1 x => PostB X.K e σ w1 H1 Q (match x with | true => .ok true S1 | false => evTOr (T.cfg n) (.cons c2 cs) S1)) r ?_).mono ?_
    · cases q : evT (T.cfg n) c S with
      | ok d S' => rw [q] at h; exact fun w' H' x1 r1 => PostB.ext x1 h
      | _ => rw [q] at h; exact h
    rintro b H1 ⟨w1, S1, x1, r1, h1⟩
    cases b with
    | true => exact h1 w1 H1 (.refl _ _) r1
    | false => exact ⟨w1, S1, r1, h1⟩
theorem st_not {c : C} {ex : Expr} {pos : Pos} (h : PT X ex (TTc X.K e (T.cfg n) c)) : PT X (.UnaryOp .Not ex pos) (TTc X.K e (T.cfg n) (.not c)) :=
  imT (pt_not h) fun σ H Q ⟨w, S, r, h⟩ => by
    rw [evT] at h
    refine (bndT (Q := fun _ _ => True) (P := fun w1 H1 S1 x => PostB X.K e σ w1 H1 Q (.ok (!x) S1)) r ?_).mono ?_
    · cases q : evT (T.cfg n) c S with
      | ok d S' => rw [q] at h; exact fun w' H' x1 r1 => PostB.ext x1 h
      | _ => rw [q] at h; exact h
    rintro b H1 ⟨w1, S1, x1, r1, h1⟩
    exact h1 w1 H1 (.refl _ _) r1
/-- a comparison's answer as a test -/
theorem tt_te {c : C} {σ : St} {H : Hp} {Q : Bool → Hp → Prop} (he : ∀ S, evT (T.cfg n) c S = (evE (T.cfg n) c S).bndB blB) (hq : TTc X.K e (T.cfg n) c σ H Q) :
    TEc X.K e (T.cfg n) c σ H fun x H' => ∃ k, x = .bl k ∧ Q k H' := by
  obtain ⟨w, S, r, h⟩ := hq
  refine ⟨w, S, r, ?_⟩
  rw [he] at h
  cases q : evE (T.cfg n) c S with
  | ok d fr S' =>
    rw [q] at h
    intro v w' H' x1 r1 z
    obtain ⟨w2, x2, r2, z2⟩ := r1.fin x1 r.e0H z
    cases d with
    | bl b => exact ⟨b, z2.blE, h w2 H' x2 r2⟩
    | _ => exact h.elim
  | _ => rw [q] at h; exact h
theorem st_cmp (g : Gd T n N sc X) {op : CmpOp} {a b : C} {ea eb : Expr} {pos : Pos} (hm : behindInMarks op eb = false) (ha : PE X ea (TOc X.K e (T.cfg n) a)) (hb : PE X eb (TOc X.K e (T.cfg n) b)) : PT X (.Compare ea [op] [eb] pos) (TTc X.K e (T.cfg n) (.cmp op a b)) :=
  imT (pt_cmpR (op_cm g.units op) ha hb hm) fun σ H Q h => cmp_read (tt_te (fun S => by rw [evT]) h)
theorem st_chn (g : Gd T n N sc X) {op op' : CmpOp} {a b c : C} {ea eb ec : Expr} {pos : Pos} (hm : lastMarks [op, op'] [eb, ec] = false) (ha : PE X ea (TOc X.K e (T.cfg n) a)) (hb : PE X eb (TOc X.K e (T.cfg n) b)) (hc : PE X ec (TOc X.K e (T.cfg n) c)) :
    PT X (.Compare ea [op, op'] [eb, ec] pos) (TTc X.K e (T.cfg n) (.chn op op' a b c)) :=
  imT (pt_chain (op_cm g.units op) (op_cm g.units op') ha hb hc hm) fun σ H Q h => chn_read (tt_te (fun S => by rw [evT]) h)
/-- any other expression as a test: by its truth -/
theorem st_val {c : C} {ex : Expr} (hv : ∀ S, evT (T.cfg n) c S = (pkO (T.cfg n) c (evE (T.cfg n) c S) S).bndB truB)
    (he : ∀ whole, isTrue ex X.env whole = (do let v ← whole; standAt ex.pos; holding [v] (truthy v))) (h : PE X ex (TOc X.K e (T.cfg n) c)) : PT X ex (TTc X.K e (T.cfg n) c) :=
  imT (pt_truth h he) fun σ H Q ⟨w, S, r, h⟩ => by
    rw [hv] at h
    refine (bndO (Q := fun _ _ => True) (P := fun w1 H1 S1 x => PostB X.K e σ w1 H1 Q (truB x S1)) r ?_).mono ?_
    · cases q : pkO (T.cfg n) c (evE (T.cfg n) c S) S with
      | ok d fr S' => rw [q] at h; exact fun w' H' x1 r1 => PostB.ext x1 h
      | _ => rw [q] at h; exact h
    rintro v H1 ⟨w1, S1, d, x1, r1, z1, _, h1⟩
    unfold truB at h1
    cases e4 : tru d with
    | none => rw [e4] at h1; exact h1.elim
    | some k =>
      rw [e4] at h1
      exact ⟨k, tru_of r1.gH z1 e4, h1 w1 H1 (.refl _ _) r1⟩
theorem st_ite {c a b : C} {ex : Expr} : PT X ex (TTc X.K e (T.cfg n) (.ite c a b)) := ⟨fun _ _ _ _ _ _ ⟨w, S, r, h⟩ => by
  rw [evT] at h
  exact h.elim⟩
end
end RR

namespace RR
open PySem L2

/-- an iterator yields these things -/
structure Serve (K : PySem.W.Frag) (e : En) (J : L2.It) (gd : Hp → Prop) (ds : List D) : Prop where
  mono : ∀ G G', Sub G G' → gd G → gd G'
  item : ∀ (i : Nat) (w : Wd) (S : RS) (σ : St) (H : Hp) (d : D), Rel K e w S σ H → gd w.G → ds[i]? = some d → J.go i H ∧ ∀ x H', J.yld i H x H' → ∃ w', Ext w H w' H' ∧ Rel K e w' S σ H' ∧ w'.ω = w.ω ∧ Rep K w'.G d x
  stop : ∀ (i : Nat) (w : Wd) (S : RS) (σ : St) (H : Hp), Rel K e w S σ H → gd w.G → ds.length ≤ i → J.stop i H
def TIc (K : PySem.W.Frag) (e : En) (Γ : Cfg) (it : It) : TI := fun σ H R => ∃ w S, Rel K e w S σ H ∧ match evIt Γ it S with
  | .ok ds S' => ∀ w' H' J gd, Ext w H w' H' → Rel K e w' S' σ H' → Serve K e J gd ds → gd w'.G → (it.sz = true → ds.length ≤ LINE) → R J H'
  | _ => False
theorem imI {X : Cx} {tg ex : Expr} {t t' : TI} (p : PI X tg ex t) (h : ∀ σ H R, t' σ H R → t σ H R) : PI X tg ex t' := ⟨fun a b c d f g k => p.run a b c d f g (h _ _ _ k)⟩

section
variable {K : PySem.W.Frag} {e : En}
theorem serve_list {a : Addr} {vs : List V} {ds : List D} : Serve K e (Itl K a) (fun G => SqL K G a vs ∧ Reps K G ds vs) ds where
  mono := fun G G' s h => ⟨s.sqL h.1, h.2.mono s⟩
  item := fun i w S σ H d r h hd => by
    obtain ⟨v, e1, e2⟩ := h.2.get hd
    have q : SqL K H a vs := r.gH.sqL h.1
    refine ⟨⟨vs, v, q, e1⟩, fun x H' y => ?_⟩
    obtain ⟨rfl, y⟩ := y
    have := y vs q
    rw [e1] at this
    cases this
    exact ⟨w, .refl _ _, r, rfl, e2⟩
  stop := fun i w S σ H r h hl => ⟨vs, r.gH.sqL h.1, by rw [← h.2.length]; exact hl⟩
theorem serve_tup {a : Addr} {vs : List V} {ds : List D} : Serve K e (Itt K a) (fun G => SqT K G a vs ∧ Reps K G ds vs) ds where
  mono := fun G G' s h => ⟨s.sqT h.1, h.2.mono s⟩
  item := fun i w S σ H d r h hd => by
    obtain ⟨v, e1, e2⟩ := h.2.get hd
    have q : SqT K H a vs := r.gH.sqT h.1
    refine ⟨⟨vs, v, q, e1⟩, fun x H' y => ?_⟩
    obtain ⟨rfl, y⟩ := y
    have := y vs q
    rw [e1] at this
    cases this
    exact ⟨w, .refl _ _, r, rfl, e2⟩
  stop := fun i w S σ H r h hl => ⟨vs, r.gH.sqT h.1, by rw [← h.2.length]; exact hl⟩
theorem serve_range {lo : Int} {m : Nat} : Serve K e (Itr lo m) (fun _ => True) ((List.range m).map fun (k : Nat) => .int (lo + (k : Int))) where
  mono := fun _ _ _ h => h
  item := fun i w S σ H d r h hd => by
    have li : i < m := by
      have := (List.getElem?_eq_some_iff.mp hd).1
      simpa using this
    rw [List.getElem?_map, List.getElem?_range li] at hd
    cases hd
    refine ⟨li, fun x H' y => ?_⟩
    obtain ⟨rfl, rfl⟩ := y
    exact ⟨w, .refl _ _, r, rfl, .int _⟩
  stop := fun i w S σ H r h hl => by
    show m ≤ i
    simpa using hl
theorem enumD_get : ∀ (k : Nat) (ds : List D) (i : Nat) (d : D), (enumD k ds)[i]? = some d → ∃ d', ds[i]? = some d' ∧ d = .tup [.int ((k + i : Nat) : Int), d']
  | _, [], _, _, h => by simp [enumD] at h
  | k, x :: xs, 0, d, h => by simp [enumD] at h; subst h; exact ⟨x, by simp, by simp⟩
  | k, x :: xs, i + 1, d, h => by
    simp only [enumD, List.getElem?_cons_succ] at h
    obtain ⟨d', h1, h2⟩ := enumD_get (k + 1) xs i d h
    exact ⟨d', by simpa using h1, by rw [h2, show k + 1 + i = k + (i + 1) by omega]⟩
theorem enumD_length : ∀ (k : Nat) (ds : List D), (enumD k ds).length = ds.length
  | _, [] => rfl
  | k, x :: xs => by simp [enumD, enumD_length (k + 1) xs]
theorem serve_enum {a : Addr} {vs : List V} {ds : List D} : Serve K e (Ite K a) (fun G => SqL K G a vs ∧ Reps K G ds vs) (enumD 0 ds) where
  mono := fun G G' s h => ⟨s.sqL h.1, h.2.mono s⟩
  item := fun i w S σ H d r h hd => by
    obtain ⟨d', h1, rfl⟩ := enumD_get 0 ds i d hd
    obtain ⟨v, e1, e2⟩ := h.2.get h1
    have q : SqL K H a vs := r.gH.sqL h.1
    refine ⟨⟨vs, v, q, e1⟩, fun x H' y => ?_⟩
    obtain ⟨t, x', rfl, hn, rfl, y⟩ := y
    have := y vs q
    rw [e1] at this
    cases this
    refine ⟨_, .allocG r.gH hn, r.allocG hn, rfl, .tup (.inl (.inl upd_same)) (.cons ?_ (.cons (e2.mono (Sub.upd (r.gH.none hn))) .nil))⟩
    rw [Nat.zero_add]
    exact .int _
  stop := fun i w S σ H r h hl => ⟨vs, r.gH.sqL h.1, by rw [← h.2.length]; rw [enumD_length] at hl; exact hl⟩
theorem zipD_get : ∀ (ds es : List D) (i : Nat) (d : D), (zipD ds es)[i]? = some d → ∃ d1 d2, ds[i]? = some d1 ∧ es[i]? = some d2 ∧ d = .tup [d1, d2]
  | [], _, _, _, h => by simp [zipD] at h
  | _ :: _, [], _, _, h => by simp [zipD] at h
  | x :: xs, y :: ys, 0, d, h => by simp [zipD] at h; subst h; exact ⟨x, y, by simp, by simp, rfl⟩
  | x :: xs, y :: ys, i + 1, d, h => by
    simp only [zipD, List.getElem?_cons_succ] at h
    obtain ⟨d1, d2, h1, h2, h3⟩ := zipD_get xs ys i d h
    exact ⟨d1, d2, by simpa using h1, by simpa using h2, h3⟩
theorem zipD_stop : ∀ (ds es : List D) (i : Nat), (zipD ds es).length ≤ i → ds.length ≤ i ∨ es.length ≤ i
  | [], _, _, _ => .inl (Nat.zero_le _)
  | _ :: _, [], _, _ => .inr (Nat.zero_le _)
  | x :: xs, y :: ys, 0, h => by simp [zipD] at h
  | x :: xs, y :: ys, i + 1, h => by
    simp only [zipD, List.length_cons] at h
    rcases zipD_stop xs ys i (by omega) with z | z
    · exact .inl (by simp; omega)
    · exact .inr (by simp; omega)
theorem serve_zip {a b : Addr} {vs us : List V} {ds es : List D} : Serve K e (Itz K a b) (fun G => (SqL K G a vs ∧ Reps K G ds vs) ∧ SqL K G b us ∧ Reps K G es us) (zipD ds es) where
  mono := fun G G' s h => ⟨⟨s.sqL h.1.1, h.1.2.mono s⟩, s.sqL h.2.1, h.2.2.mono s⟩
  item := fun i w S σ H d r h hd => by
    obtain ⟨d1, d2, h1, h2, rfl⟩ := zipD_get ds es i d hd
    obtain ⟨v, e1, e2⟩ := h.1.2.get h1
    obtain ⟨u, f1, f2⟩ := h.2.2.get h2
    have q : SqL K H a vs := r.gH.sqL h.1.1
    have q2 : SqL K H b us := r.gH.sqL h.2.1
    refine ⟨⟨vs, us, v, u, q, q2, e1, f1⟩, fun x H' y => ?_⟩
    obtain ⟨t, x', y', rfl, hn, rfl, y, z⟩ := y
    have g1 := y vs q
    rw [e1] at g1
    cases g1
    have g2 := z us q2
    rw [f1] at g2
    cases g2
    have m := Sub.upd (o := .tup [v, u]) (r.gH.none hn)
    exact ⟨_, .allocG r.gH hn, r.allocG hn, rfl, .tup (.inl (.inl upd_same)) (.cons (e2.mono m) (.cons (f2.mono m) .nil))⟩
  stop := fun i w S σ H r h hl => ⟨vs, us, r.gH.sqL h.1.1, r.gH.sqL h.2.1, by rw [← h.1.2.length, ← h.2.2.length]; exact zipD_stop _ _ _ hl⟩
theorem serve_zipT {a b : Addr} {vs us : List V} {ds es : List D} : Serve K e (RZ.ItzT K a b) (fun G => (SqT K G a vs ∧ Reps K G ds vs) ∧ SqT K G b us ∧ Reps K G es us) (zipD ds es) where
  mono := fun G G' s h => ⟨⟨s.sqT h.1.1, h.1.2.mono s⟩, s.sqT h.2.1, h.2.2.mono s⟩
  item := fun i w S σ H d r h hd => by
    obtain ⟨d1, d2, h1, h2, rfl⟩ := zipD_get ds es i d hd
    obtain ⟨v, e1, e2⟩ := h.1.2.get h1
    obtain ⟨u, f1, f2⟩ := h.2.2.get h2
    have q : SqT K H a vs := r.gH.sqT h.1.1
    have q2 : SqT K H b us := r.gH.sqT h.2.1
    refine ⟨⟨vs, us, v, u, q, q2, e1, f1⟩, fun x H' y => ?_⟩
    obtain ⟨t, x', y', rfl, hn, rfl, y, z⟩ := y
    have g1 := y vs q
    rw [e1] at g1
    cases g1
    have g2 := z us q2
    rw [f1] at g2
    cases g2
    have m := Sub.upd (o := .tup [v, u]) (r.gH.none hn)
    exact ⟨_, .allocG r.gH hn, r.allocG hn, rfl, .tup (.inl (.inl upd_same)) (.cons (e2.mono m) (.cons (f2.mono m) .nil))⟩
  stop := fun i w S σ H r h hl => ⟨vs, us, r.gH.sqT h.1.1, r.gH.sqT h.2.1, by rw [← h.1.2.length, ← h.2.2.length]; exact zipD_stop _ _ _ hl⟩
theorem serve_rev {a : Addr} {vs : List V} {ds : List D} : Serve K e (Itv K a vs.length) (fun G => SqL K G a vs ∧ Reps K G ds vs) ds.reverse where
  mono := fun G G' s h => ⟨s.sqL h.1, h.2.mono s⟩
  item := fun i w S σ H d r h hd => by
    have li : i < ds.length := by
      have := (List.getElem?_eq_some_iff.mp hd).1
      simpa using this
    rw [List.getElem?_reverse li] at hd
    obtain ⟨v, e1, e2⟩ := h.2.get hd
    rw [h.2.length] at e1
    have q : SqL K H a vs := r.gH.sqL h.1
    refine ⟨⟨by rw [← h.2.length]; exact li, vs, v, q, e1⟩, fun x H' y => ?_⟩
    obtain ⟨rfl, y⟩ := y
    have := y vs q
    rw [e1] at this
    cases this
    exact ⟨w, .refl _ _, r, rfl, e2⟩
  stop := fun i w S σ H r h hl => by
    show vs.length ≤ i
    rw [← h.2.length]; simpa using hl
end

section
variable {X : Cx} {tg : Expr}
/-- a list or a tuple is walked -/
theorem pi_seqA {l : Expr} {tl : TE} (hl : PE X l tl) : PI X tg l (fun σ H R => tl σ H fun x H1 => ∃ a, x = .ref a ∧ ((∃ xs, SqL X.K H1 a xs ∧ (xs.length ≤ sizeLine → R (Itl X.K a) H1)) ∨ (∃ xs, SqT X.K H1 a xs ∧ (xs.length ≤ sizeLine → R (Itt X.K a) H1)))) := by
  refine ⟨fun pn s0 st Hh R I h => thn (hl.run pn s0 st Hh _ I h) fun v s1 ⟨x, H1, I1, r1, q1⟩ => ?_⟩
  obtain ⟨a, rfl, ⟨xs, hq, q⟩ | ⟨xs, hq, q⟩⟩ := q1
  · cases r1
    obtain ⟨its, rv, p, hz⟩ := I1.list hq
    refine wpAny_pyIter_list p.isList ⟨s1.heap.objs.size, [s1.heap.objs.size], _, _, H1, rfl,
      I1.kept (t' := s1.toks) fun b o z => Heap.get?_push_of_some _ z, turn_list a _,
      ⟨_, Heap.get?_push_size _ rfl, rfl, rfl⟩, fun b hb => ?_, q hz⟩
    obtain rfl : b = s1.heap.objs.size := by simpa using hb
    exact I1.fpOk (Nat.le_refl _) (I1.hok.fresh (Nat.le_refl _))
  · cases r1
    obtain ⟨its, rv, p, hz⟩ := I1.tuple hq
    refine wpAny_pyIter_tuple (show s1.heap.IsTuple a its.toArray from p) ⟨s1.heap.objs.size, [s1.heap.objs.size], _, _, H1, rfl,
      I1.kept (t' := s1.toks) fun b o z => Heap.get?_push_of_some _ z, turn_tuple a _,
      ⟨_, Heap.get?_push_size _ rfl, rfl, rfl⟩, fun b hb => ?_, q hz⟩
    obtain rfl : b = s1.heap.objs.size := by simpa using hb
    exact I1.fpOk (Nat.le_refl _) (I1.hok.fresh (Nat.le_refl _))
end
section
variable {T : Tb} {n : Nat} {N : List Str} {sc : Scope} {X : Cx} {e : En} {tg : Expr}
theorem si_seq {c : C} {ex : Expr} (h : PE X ex (TEc X.K e (T.cfg n) c)) : PI X tg ex (TIc X.K e (T.cfg n) (.seq c)) :=
  imI (pi_seqA h) fun σ H R ⟨w, S, r, h⟩ => by
    rw [evIt] at h
    refine ⟨w, S, r, ?_⟩
    cases q : evE (T.cfg n) c S with
    | ok d fr S' =>
      rw [q] at h
      intro v w' H' x1 r1 z
      obtain ⟨w2, x2, r2, z2⟩ := r1.fin x1 r.e0H z
      cases d with
      | lst ds =>
        cases z2 with
        | lst hq rr => exact ⟨_, rfl, .inl ⟨_, r2.gH.sqL hq, fun hz => h w2 H' _ _ x2 r2 serve_list ⟨hq, rr⟩ fun _ => by rw [rr.length, line_eq]; exact hz⟩⟩
      | tup ds =>
        cases z2 with
        | tup hq rr => exact ⟨_, rfl, .inr ⟨_, r2.gH.sqT hq, fun hz => h w2 H' _ _ x2 r2 serve_tup ⟨hq, rr⟩ fun _ => by rw [rr.length, line_eq]; exact hz⟩⟩
      | _ => exact h.elim
    | _ => rw [q] at h; exact h
theorem evOs_len {Γ : Cfg} : ∀ (as : Cs) (S S' : RS) (ds : List D), evOs Γ as S = .ok ds S' → ds.length = as.len
  | .nil, S, S', ds, h => by simp only [evOs, OutL.ok.injEq] at h; rw [← h.1]; rfl
  | .cons c r, S, S', ds, h => by
    simp only [evOs] at h
    cases q : pkO Γ c (evE Γ c S) S with
    | ok d fr S1 =>
      rw [q] at h
      simp only [Out.bndL] at h
      cases q2 : evOs Γ r S1 with
      | ok d2 S2 =>
        rw [q2] at h
        simp only [OutL.bndL, OutL.ok.injEq] at h
        rw [← h.1, List.length_cons, evOs_len r S1 S2 d2 q2]
        rfl
      | _ => rw [q2] at h; cases h
    | _ => rw [q] at h; cases h
theorem chkCs_len : ∀ (cs : Cs) (sc : Scope) (es : List Expr), chkCs N cs sc es = true → cs.len = es.length
  | .nil, _, [], _ => rfl
  | .nil, _, _ :: _, h => by simp [chkCs] at h
  | .cons _ _, _, [], h => by simp [chkCs] at h
  | .cons c r, sc, e :: es, h => by
    simp only [chkCs, Bool.and_eq_true] at h
    rw [Cs.len, List.length_cons, chkCs_len r sc es h.2]
theorem rng_read {as : Cs} {σ : St} {H : Hp} {R : L2.It → Hp → Prop} (hq : TIc X.K e (T.cfg n) (.rng as) σ H R) : TVc X.K e (T.cfg n) as σ H fun vs H1 =>
    ∃ ds w1 S1, ds.length = as.len ∧ Views X.K w1.G H1 ds vs ∧ Rel X.K e w1 S1 σ H1 ∧ ∃ is, rngD ds = some is ∧ ∀ J gd, Serve X.K e J gd is → gd w1.G → is.length ≤ LINE → R J H1 := by
  obtain ⟨w, S, r, h⟩ := hq
  rw [evIt] at h
  refine (bndV (Q := fun _ _ => True) (P := fun w1 H1 S1 ds => ds.length = as.len ∧ ∃ is, rngD ds = some is ∧ ∀ J gd, Serve X.K e J gd is → gd w1.G → is.length ≤ LINE → R J H1) r ?_).mono ?_
  · cases q : evOs (T.cfg n) as S with
    | ok d S' =>
      rw [q] at h
      intro w' H' x1 r1
      simp only [OutL.bndL] at h
      cases q2 : rngD d with
      | none => rw [q2] at h; exact h.elim
      | some is => rw [q2] at h; exact ⟨evOs_len _ _ _ _ q, is, rfl, fun J gd sv hg hl => h w' H' J gd x1 r1 sv hg fun _ => hl⟩
    | _ => rw [q] at h; exact h
  rintro vs H1 ⟨w1, S1, ds, x1, r1, z1, _, h1⟩
  exact ⟨ds, w1, S1, h1.1, z1, r1, h1.2⟩
theorem si_rng (g : Gd T n N sc X) {as : Cs} {es : List Expr} {p pos : Pos} (hg : glB sc "range" = true) (hl : (decide (es.length = 1) || decide (es.length = 2)) = true) (hn : as.len = es.length)
    (hs : ∀ ex ∈ es, ∀ xs env, starEach (ex :: xs) env = (false, eval ex env) :: starEach xs env) (ha : PA X es (TVc X.K e (T.cfg n) as)) :
    PI X tg (.Call (.Name "range" p) es [] pos) (TIc X.K e (T.cfg n) (.rng as)) := by
  match es, hl, hs, ha, hn with
  | [a], _, hs, ha, hn =>
    refine imI (pi_range1 (g.gl hg) (g.blt _ (by simp [bltNames])) ha (hs a (by simp) _ _)) fun σ H R h => (rng_read h).mono ?_
    rintro vs H1 ⟨ds, w1, S1, hd, z1, r1, is, e1, h1⟩
    rw [hn] at hd
    unfold rngD at e1
    split at e1
    · split at e1
      · rename_i hz
        rw [decide_eq_true_eq] at hz
        cases e1
        cases z1 with | cons z1 z2 => cases z2 with | nil =>
          rw [z1.intE]
          refine ⟨_, rfl, hz.1, ?_, h1 _ _ serve_range True.intro ?_⟩
          · have := hz.2
            simp only [LINE] at this
            omega
          · simp only [List.length_map, List.length_range]
            have := hz.2
            omega
      · cases e1
    · split at e1
      · simp at hd
      · cases e1
    · cases e1
  | [a, b], _, hs, ha, hn =>
    refine imI (pi_range2 (g.gl hg) (g.blt _ (by simp [bltNames])) ha (by rw [hs a (by simp), hs b (by simp)]; rfl) (by rw [hs b (by simp)]; rfl)) fun σ H R h => (rng_read h).mono ?_
    rintro vs H1 ⟨ds, w1, S1, hd, z1, r1, is, e1, h1⟩
    rw [hn] at hd
    unfold rngD at e1
    split at e1
    · simp at hd
    · split at e1
      · rename_i hz
        rw [decide_eq_true_eq] at hz
        cases e1
        cases z1 with | cons z1 z2 => cases z2 with | cons z2 z3 => cases z3 with | nil =>
          rw [z1.intE, z2.intE]
          refine ⟨_, _, rfl, ⟨hz.1, hz.2.1, hz.2.2.1, hz.2.2.2.1⟩, h1 _ _ serve_range True.intro ?_⟩
          simp only [List.length_map, List.length_range]
          have := hz.2.2.2.2
          omega
      · cases e1
    · cases e1
end

section
variable {T : Tb} {n : Nat} {N : List Str} {sc : Scope} {X : Cx} {e : En} {tg : Expr}
theorem si_enm (g : Gd T n N sc X) {c : C} {ex : Expr} {p pos tpos : Pos} {elts : List Expr} {kk : Nat} (hg : glB sc "enumerate" = true) (hs : ∀ xs env, starEach (ex :: xs) env = (false, eval ex env) :: starEach xs env) (h : PE X ex (TEc X.K e (T.cfg n) c)) :
    PI X (.Tuple elts kk tpos) (.Call (.Name "enumerate" p) [ex] [] pos) (TIc X.K e (T.cfg n) (.enm c)) :=
  imI (pi_enum (g.gl hg) (g.blt _ (by simp [bltNames])) (pa_cons h pa_nil (hs _ _)) (hs _ _)) fun σ H R ⟨w, S, r, h⟩ => by
    rw [evIt] at h
    refine ⟨w, S, r, ?_⟩
    cases q : evE (T.cfg n) c S with
    | ok d fr S' =>
      rw [q] at h
      intro v w' H' x1 r1 z
      obtain ⟨w2, x2, r2, z2⟩ := r1.fin x1 r.e0H z
      cases d with
      | lst ds =>
        cases z2 with
        | lst hq rr => exact ⟨_, _, rfl, r2.gH.sqL hq, h w2 H' _ _ x2 r2 serve_enum ⟨hq, rr⟩ fun z => by cases z⟩
      | _ => exact h.elim
    | _ => rw [q] at h; exact h
theorem si_rev (g : Gd T n N sc X) {c : C} {ex : Expr} {p pos : Pos} (hg : glB sc "reversed" = true) (hs : ∀ xs env, starEach (ex :: xs) env = (false, eval ex env) :: starEach xs env) (h : PE X ex (TEc X.K e (T.cfg n) c)) :
    PI X tg (.Call (.Name "reversed" p) [ex] [] pos) (TIc X.K e (T.cfg n) (.rev c)) :=
  imI (pi_reversed (g.gl hg) (g.blt _ (by simp [bltNames])) (pa_cons h pa_nil (hs _ _)) (hs _ _)) fun σ H R ⟨w, S, r, h⟩ => by
    rw [evIt] at h
    refine ⟨w, S, r, ?_⟩
    cases q : evE (T.cfg n) c S with
    | ok d fr S' =>
      rw [q] at h
      intro v w' H' x1 r1 z
      obtain ⟨w2, x2, r2, z2⟩ := r1.fin x1 r.e0H z
      cases d with
      | lst ds =>
        cases z2 with
        | lst hq rr => exact ⟨_, _, rfl, r2.gH.sqL hq, h w2 H' _ _ x2 r2 serve_rev ⟨hq, rr⟩ fun z => by cases z⟩
      | _ => exact h.elim
    | _ => rw [q] at h; exact h
theorem si_zip (g : Gd T n N sc X) {a b : C} {ea eb : Expr} {p pos tpos : Pos} {elts : List Expr} {kk : Nat} (hg : glB sc "zip" = true) (hsa : ∀ xs env, starEach (ea :: xs) env = (false, eval ea env) :: starEach xs env) (hsb : ∀ xs env, starEach (eb :: xs) env = (false, eval eb env) :: starEach xs env)
    (ha : PE X ea (TEc X.K e (T.cfg n) a)) (hb : PE X eb (TEc X.K e (T.cfg n) b)) : PI X (.Tuple elts kk tpos) (.Call (.Name "zip" p) [ea, eb] [] pos) (TIc X.K e (T.cfg n) (.zip a b)) :=
  imI (RZ.pi_zipA (g.gl hg) (g.blt _ (by simp [bltNames])) (pa_cons ha (pa_cons hb pa_nil (hsb _ _)) (hsa _ _)) (hsa _ _) (by rw [hsb]; rfl)) fun σ H R ⟨w, S, r, h⟩ => by
    rw [evIt] at h
    refine (bndE (Q := fun _ _ => True) (P := fun w1 H1 S1 x => match (evE (T.cfg n) b S1).bndL fun y s2 => iok (zipDD x y) s2 with
      | .ok ds S' => ∀ w' H' J gd, Ext w1 H1 w' H' → Rel X.K e w' S' σ H' → Serve X.K e J gd ds → gd w'.G → ((It.zip a b).sz = true → ds.length ≤ LINE) → R J H'
      | _ => False) r ?_).mono ?_
    · cases q : evE (T.cfg n) a S with
      | ok d fr S1 =>
        rw [q] at h
        intro w1 H1 x1 r1
        show match (evE (T.cfg n) b S1).bndL fun y s2 => iok (zipDD d y) s2 with | .ok ds S' => _ | _ => _
        have h : match (evE (T.cfg n) b S1).bndL fun y s2 => iok (zipDD d y) s2 with
          | .ok ds S' => ∀ w' H' J gd, Ext w H w' H' → Rel X.K e w' S' σ H' → Serve X.K e J gd ds → gd w'.G → ((It.zip a b).sz = true → ds.length ≤ LINE) → R J H'
          | _ => False := h
        cases q2 : (evE (T.cfg n) b S1).bndL fun y s2 => iok (zipDD d y) s2 with
        | ok ds S2 => rw [q2] at h; exact fun w' H' J gd x2 => h w' H' J gd (x1.trans x2)
        | _ => rw [q2] at h; exact h
      | _ => rw [q] at h; exact h
    rintro v H1 ⟨w1, S1, d, x1, r1, z1, h1⟩
    refine (bndE (Q := fun _ _ => True) (P := fun w2 H2 S2 y => match iok (zipDD d y) S2 with
      | .ok ds S' => ∀ w' H' J gd, Ext w2 H2 w' H' → Rel X.K e w' S' σ H' → Serve X.K e J gd ds → gd w'.G → ((It.zip a b).sz = true → ds.length ≤ LINE) → R J H'
      | _ => False) r1 ?_).mono ?_
    · cases q : evE (T.cfg n) b S1 with
      | ok y fr S2 =>
        rw [q] at h1
        intro w2 H2 x2 r2
        simp only [Out.bndL] at h1
        cases q2 : iok (zipDD d y) S2 with
        | ok ds S3 => rw [q2] at h1; exact fun w' H' J gd x3 => h1 w' H' J gd (x2.trans x3)
        | _ => rw [q2] at h1; exact h1
      | _ => rw [q] at h1; exact h1
    rintro u H2 ⟨w2, S2, y, x2, r2, z2, h2⟩
    have z1 := z1.mono x2.g
    cases q : zipDD d y with
    | none => rw [q] at h2; exact h2.elim
    | some ds =>
      rw [q] at h2
      unfold zipDD at q
      split at q
      · cases q
        cases z1 with
        | lst hq rr => cases z2 with
          | lst hq2 rr2 => exact ⟨_, _, _, _, rfl, .inl ⟨r2.gH.sqL hq, r2.gH.sqL hq2, h2 w2 H2 _ _ (.refl _ _) r2 serve_zip ⟨⟨hq, rr⟩, hq2, rr2⟩ fun z => by cases z⟩⟩
      · cases q
        cases z1 with
        | tup hq rr => cases z2 with
          | tup hq2 rr2 => exact ⟨_, _, _, _, rfl, .inr ⟨r2.gH.sqT hq, r2.gH.sqT hq2, h2 w2 H2 _ _ (.refl _ _) r2 serve_zipT ⟨⟨hq, rr⟩, hq2, rr2⟩ fun z => by cases z⟩⟩
      · cases q

def gNames : List Nat → TGs
  | [] => gNil
  | i :: is => gCons (gName i) (gNames is)
def gTgt (K : PySem.W.Frag) : Tg → TG
  | .nm i => gName i
  | .tp is => gTup K is.length (gNames is)
theorem names_ok {K : PySem.W.Frag} {H : Hp} {Q : St → Hp → Prop} {w0 : Wd} {σ0 : St} : ∀ (is : List Nat) (ds : List D) (vs : List V) (w : Wd) (S : RS) (σ : St), Rel K e w S σ H → Reps K w.G ds vs → ds.length = is.length → w.G = w0.G → σ.length = σ0.length →
    ∀ (js : List Nat), (∀ i ∈ is, i ∈ js) → (∀ (b : Addr) (j : Nat), w0.ω b = some j → ¬ j ∈ js → w.ω b = some j) → (∀ (b : Addr) (j : Nat), w.ω b = some j → w0.ω b = some j) → (∀ j, ¬ j ∈ js → σ[j]? = σ0[j]?) →
    (∀ σ' w', w'.G = w0.G → (∀ (b : Addr) (j : Nat), w0.ω b = some j → ¬ j ∈ js → w'.ω b = some j) → (∀ (b : Addr) (j : Nat), w'.ω b = some j → w0.ω b = some j) → Rel K e w' ⟨(is.zip ds).foldl (fun sl p => sl.set p.1 (.val p.2)) S.sl⟩ σ' H → σ'.length = σ0.length → (∀ j, ¬ j ∈ js → σ'[j]? = σ0[j]?) → Q σ' H) → gNames is vs σ H Q
  | [], [], _, w, S, σ, r, .nil, _, hg, hl, js, _, ho, hsh, hσ, hq => ⟨rfl, hq σ w hg ho hsh r hl hσ⟩
  | [], _ :: _, _, w, S, σ, r, _, h, _, _, _, _, _, _, _, _ => by simp at h
  | _ :: _, [], _, w, S, σ, r, _, h, _, _, _, _, _, _, _, _ => by simp at h
  | i :: is, d :: ds, _, w, S, σ, r, .cons (v := v) (vs := vs) h1 h2, h, hg, hl, js, hj, ho, hsh, hσ, hq => by
    obtain ⟨w1, g1, o1, o2, r1⟩ := r.setVal i h1
    refine ⟨v, vs, rfl, names_ok (w0 := w0) (σ0 := σ0) is ds vs w1 _ _ r1 (by rw [g1]; exact h2) (by simpa using h) (g1.trans hg) (by rw [List.length_set]; exact hl) js (fun k hk => hj k (List.mem_cons_of_mem _ hk)) (fun b j q nj => o1 b j (ho b j q nj) fun z => nj (by rw [z]; exact hj i List.mem_cons_self)) (fun b j q => hsh b j (o2 b j q).1) (fun j nj => ?_) ?_⟩
    · rw [List.getElem?_set_ne (fun z => nj (by rw [← z]; exact hj i List.mem_cons_self))]; exact hσ j nj
    · intro σ' w' a b c d
      exact hq σ' w' a b c d
theorem tgt_ok {K : PySem.W.Frag} {H : Hp} {Q : St → Hp → Prop} {w : Wd} {σ : St} {S S' : RS} {tg : Tg} {d : D} {v : V} (r : Rel K e w S σ H) (h : Rep K w.G d v) (ha : asg tg d S = some S')
    (hq : ∀ σ' w', w'.G = w.G → (∀ (b : Addr) (j : Nat), w.ω b = some j → ¬ j ∈ tg.ix → w'.ω b = some j) → (∀ (b : Addr) (j : Nat), w'.ω b = some j → w.ω b = some j) → Rel K e w' S' σ' H → σ'.length = σ.length → (∀ j, ¬ j ∈ tg.ix → σ'[j]? = σ[j]?) → Q σ' H) : gTgt K tg v σ H Q := by
  cases tg with
  | nm i =>
    simp only [asg, Option.some.injEq] at ha
    subst ha
    obtain ⟨w1, g1, o1, o2, r1⟩ := r.setVal i h
    refine hq _ w1 g1 (fun b j q nj => o1 b j q (by simpa [Tg.ix] using nj)) (fun b j q => (o2 b j q).1) r1 (by simp) fun j nj => ?_
    rw [List.getElem?_set_ne (by simpa [Tg.ix, eq_comm] using nj)]
  | tp is =>
    simp only [asg] at ha
    split at ha
    · rename_i ds
      split at ha
      · rename_i hl
        cases ha
        cases h with
        | tup hs rr =>
          exact ⟨_, _, rfl, r.gH.sqT hs, by rw [← rr.length]; exact hl, names_ok is _ _ w S σ r rr hl rfl rfl is (fun _ h => h) (fun _ _ q _ => q) (fun _ _ q => q) (fun _ _ => rfl) hq⟩
      · cases ha
    · cases ha
theorem ne_len : ∀ (es : List Expr) (env : Env), (assignEach es env).length = es.length
  | [], _ => by simp [assignEach]
  | e :: es, env => by
    cases e <;> simp [assignEach, ne_len es env]
theorem chkNs_len {fn : Str → Bool} : ∀ (is : List Nat) (es : List Expr), chkNs N sc fn is es = true → es.length = is.length
  | [], [], _ => rfl
  | [], _ :: _, h => by simp [chkNs] at h
  | _ :: _, [], h => by simp [chkNs] at h
  | i :: is, e :: es, h => by
    cases e <;> first
      | (simp [chkNs] at h; done)
      | (simp only [chkNs, Bool.and_eq_true] at h
         rw [List.length_cons, List.length_cons, chkNs_len is es h.2])
theorem chkNs_star {fn : Str → Bool} (env : Env) : ∀ (is : List Nat) (es : List Expr), chkNs N sc fn is es = true → (assignEach es env).findIdx? (·.1) = none
  | [], [], _ => by simp [assignEach]
  | [], _ :: _, h => by simp [chkNs] at h
  | _ :: _, [], h => by simp [chkNs] at h
  | i :: is, e :: es, h => by
    cases e <;> first
      | (simp [chkNs] at h; done)
      | (simp only [chkNs, Bool.and_eq_true] at h
         have := chkNs_star env is es h.2
         simp [assignEach, List.findIdx?_cons, this])
theorem pg_names (g : Gd T n N sc X) {fn : Str → Bool} (hf : ∀ x, fn x = true → X.fn x = true) : ∀ (is : List Nat) (es : List Expr), chkNs N sc fn is es = true → PGs X es (gNames is)
  | [], [], _ => pgs_nil
  | [], _ :: _, h => by simp [chkNs] at h
  | _ :: _, [], h => by simp [chkNs] at h
  | i :: is, e :: es, h => by
    cases e <;> first
      | (simp [chkNs] at h; done)
      | skip
    simp only [chkNs, chkN, Bool.and_eq_true, Bool.or_eq_true, decide_eq_true_eq] at h
    obtain ⟨⟨⟨h1, h2⟩, h3⟩, h4⟩ := h
    refine pgs_cons (pg_name (by rw [g.hN]; exact g.nd) (g.nm h1) (g.loc h2) ?_) (pg_names g hf is es h4) (by rfl)
    rcases h3 with z | z
    · exact .inl (hf _ z)
    · exact .inr (by rw [g.hsc]; exact z)
theorem pg_tgt (g : Gd T n N sc X) {fn : Str → Bool} (hf : ∀ x, fn x = true → X.fn x = true) {tg : Tg} {te : Expr} (h : chkTg N sc fn tg te = true) : PG X te (gTgt X.K tg) := by
  cases tg with
  | nm i =>
    cases te <;> first
      | (simp [chkTg] at h; done)
      | skip
    simp only [chkTg, chkN, Bool.and_eq_true, Bool.or_eq_true, decide_eq_true_eq] at h
    obtain ⟨⟨h1, h2⟩, h3⟩ := h
    refine pg_name (by rw [g.hN]; exact g.nd) (g.nm h1) (g.loc h2) ?_
    rcases h3 with z | z
    · exact .inl (hf _ z)
    · exact .inr (by rw [g.hsc]; exact z)
  | tp is =>
    cases te <;> first
      | (simp [chkTg] at h; done)
      | skip
    simp only [chkTg] at h
    exact pg_tup g.calm (pg_names g hf is _ h) (by rw [ne_len, chkNs_len is _ h]) (chkNs_star _ is _ h)
end
end RR

namespace RR
open PySem L2

theorem OutL.bnd_ok {ds : List D} {s : RS} {k : List D → RS → Out} : (OutL.ok ds s).bnd k = k ds s := rfl
def TDc (K : PySem.W.Frag) (e : En) (Γ : Cfg) (c : Oc) : TT := fun σ H Q => ∃ w S, Rel K e w S σ H ∧ PostB K e σ w H Q (evOcT Γ c S)
theorem imD {X : Cx} {ifs : List Expr} {t t' : TT} (p : PTs X ifs t) (h : ∀ σ H Q, t' σ H Q → t σ H Q) : PTs X ifs t' := ⟨fun a b c d f g k => p.run a b c d f g (h _ _ _ k)⟩
theorem Ext.apart {w w' : Wd} {H H' : Hp} (x : Ext w H w' H') {p : Addr} {o : HO} (h : H p = some o) (g : w.G p = none) (f : w.ω p = none) : H' p = some o ∧ w'.G p = none ∧ w'.ω p = none := by
  refine ⟨x.h _ _ h, ?_, ?_⟩
  · cases q : w'.G p with
    | none => rfl
    | some u =>
      rcases x.gnew p u q with z | z | ⟨i, z⟩
      · rw [g] at z; cases z
      · rw [h] at z; cases z
      · rw [f] at z; cases z
  · cases q : w'.ω p with
    | none => rfl
    | some u => rw [x.shr _ _ q] at f; cases f
theorem Ext.noOwn {K : PySem.W.Frag} {e e' : En} {w w' : Wd} {H H' : Hp} {S S' : RS} {σ σ' : St} (x : Ext w H w' H') (r : Rel K e w S σ H) (r' : Rel K e' w' S' σ' H') {is : List Nat} (h : ∀ k ∈ is, ∀ d, S.sl[k]? ≠ some (Sl.own d)) : ∀ k ∈ is, ∀ d, S'.sl[k]? ≠ some (Sl.own d) := by
  intro k hk d q
  obtain ⟨p, o, _, _, _, h4⟩ := r'.own k d q
  obtain ⟨d2, h5, _⟩ := r.owned p k (x.shr _ _ h4)
  exact h k hk d2 h5
theorem Gd.blk {T : Tb} {n : Nat} {N : List Str} {sc : Scope} {X : Cx} (g : Gd T n N sc X) (scope : Scope) (s : Shared) (H : Hp) (C : Addr) (cl : List (Str × Addr)) (fp : List Addr) : Gd T n N (relS scope sc) (X.blk s H scope (compEnvC scope cl C X.env) fp) := by
  obtain ⟨h1, h2, h3, h4, h5, h6, h7, h8⟩ := g
  refine ⟨h1, h2, ?_, h4, h5, h6, h7, h8⟩
  subst h3
  rfl
section
variable {T : Tb} {n : Nat} {N : List Str} {sc : Scope} {X : Cx} {e : En} {tg : Expr}
theorem noSetI {it : It} {te ie : Expr} (h : chkI N it sc te ie = true) (env : Env) (x : Value) : foldedSetIterable ie env x = pure x := by
  cases ie <;> first
    | rfl
    | (cases it <;> cases te <;> simp [chkI, chkE] at h <;> (rename_i c _ _ _ <;> cases c <;> simp [chkE] at h))
theorem ownOf_ix (N : List Str) (tg : Tg) : (ownOf N tg).map (·.2) = tg.ix := by unfold ownOf; rw [List.map_map]; exact List.map_id _
theorem pts_no (h : X.calm = true) : PTs X [] (TDc X.K e (T.cfg n) .no) := imD pts_nil fun σ H Q ⟨w, S, r, h⟩ => by
  rw [evOcT] at h
  exact h w H (.refl _ _) r
theorem pts_so {c : C} {ex : Expr} (h : PT X ex (TTc X.K e (T.cfg n) c)) : PTs X [ex] (TDc X.K e (T.cfg n) (.so c)) := imD (pts_one h) fun σ H Q ⟨w, S, r, h⟩ => by
  rw [evOcT] at h
  exact ⟨w, S, r, h⟩
theorem lc_imp {K : PySem.W.Frag} {elt : C} {t : Tg} {it : It} {cd : Oc} {σ : St} {H : Hp} {Q : VK} (hq : TEc K e (T.cfg n) (.lc elt t it cd) σ H Q) :
    tLc (TIc K e (T.cfg n) it) (gTgt K t) (TDc K e (T.cfg n) cd) (TEc K e (T.cfg n) elt) ((ownOf N t).map (·.2)) σ H Q := by
  obtain ⟨w, S, r, h⟩ := hq
  rw [ownOf_ix]
  refine ⟨w, S, r, ?_⟩
  rw [evE] at h
  cases q : evIt (T.cfg n) it S with
  | ok ds S1 =>
    rw [q] at h
    intro w1 H1 J gd x1 r1 sv hgd hsz pD hD
    rw [OutL.bnd_ok] at h
    split at h
    · rename_i hc
      rw [Bool.and_eq_true, Bool.or_eq_true, decide_eq_true_eq] at hc
      obtain ⟨hfr, hln⟩ := hc
      have hln : ds.length ≤ LINE := hln.elim hsz id
      generalize hf : lcStep t (evOcT (T.cfg n) cd) (evE (T.cfg n) elt) = f at h
      have own1 := freeAt_own hfr
      have h : PostE K e σ w1 H1 Q ((lcL f ds [] ⟨wipeR S1.sl t.ix⟩).bnd fun ys s2 => .ok (.lst ys) true ⟨backR S1.sl s2.sl t.ix⟩) := PostE.ext x1 h
      let Wf : Nat → Nat → Hp → Prop := fun i m Hc => ∃ w2 S2 acc vacc, Rel K e w2 S2 (wipe σ t.ix) Hc ∧ (∀ k ∈ t.ix, ∀ d, S2.sl[k]? ≠ some (Sl.own d)) ∧ gd w2.G ∧ Hc pD = some (.lst vacc) ∧ Reps K w2.G acc vacc ∧ w2.G pD = none ∧ w2.ω pD = none ∧
        Ext w1 H1 w2 Hc ∧ acc.length ≤ i ∧ i ≤ ds.length ∧ m = ds.length - i ∧ PostE K e σ w1 H1 Q ((lcL f (ds.drop i) acc S2).bnd fun ys s2 => .ok (.lst ys) true ⟨backR S1.sl s2.sl t.ix⟩)
      refine ⟨Wf, ⟨ds.length, w1, ⟨wipeR S1.sl t.ix⟩, [], [], (r1.alloc hD).wiped own1, ?_, hgd, upd_same, .nil, r1.gH.none hD, r1.ωnone hD, .alloc hD, Nat.zero_le _, Nat.zero_le _, rfl, h⟩, ?_⟩
      · intro k hk d z
        cases wipeR_in _ hk _ z
      rintro i m Hc ⟨w2, S2, acc, vacc, r2, own2, gd2, hD2, rep2, g2, f2, x2, hai, hid, rfl, h2⟩
      by_cases hlt : i < ds.length
      · right
        have hd1 : ds[i]? = some ds[i] := List.getElem?_eq_getElem hlt
        obtain ⟨go, yl⟩ := sv.item i w2 S2 _ Hc _ r2 gd2 hd1
        refine ⟨go, Wf (i + 1) (ds.length - (i + 1)), fun H' z => ⟨_, by omega, z⟩, fun x H' y => ?_⟩
        obtain ⟨w3, x3, r3, o3, rp3⟩ := yl x H' y
        rw [show ds.drop i = ds[i] :: ds.drop (i + 1) from List.drop_eq_getElem_cons hlt, lcL] at h2
        have own3 := x3.noOwn r2 r3 own2
        cases qa : asg t ds[i] S2 with
        | none =>
          have hx : f ds[i] S2 = .stuck := by rw [← hf]; simp only [lcStep, qa]
          rw [hx] at h2; exact h2.elim
        | some S3 =>
          refine tgt_ok r3 rp3 qa fun σ4 w4 g4 k4 sh4 r4 l4 e4 => ?_
          have x4 : Ext w3 H' w4 H' := by
            refine ⟨by rw [g4]; exact Sub.refl _, Sub.refl _, fun b j o hb _ => .inl (k4 b j hb fun hj => ?_), sh4, fun b o hb => .inl (by rw [← g4]; exact hb)⟩
            obtain ⟨d, hd, _⟩ := r3.owned b j hb
            exact own3 j hj d hd
          have hw : wipe σ4 t.ix = wipe σ t.ix := wipe_ext (by rw [l4, wipe_length]) fun j hj => by rw [e4 j hj, wipe_notin _ hj]
          refine ⟨hw, w4, S3, r4, ?_⟩
          have own4 := x4.noOwn r3 r4 own3
          cases qb : evOcT (T.cfg n) cd S3 with
          | ok b S5 =>
            intro w5 H5 x5 r5
            have x25 := (x3.trans x4).trans x5
            obtain ⟨hD5, g5, f5⟩ := x25.apart hD2 g2 f2
            have own5 := x5.noOwn r4 r5 own4
            cases b with
            | false =>
              have hx : f ds[i] S2 = .ok none ⟨wipeR S5.sl t.ix⟩ := by rw [← hf]; simp only [lcStep, qa, qb, OutB.bndO]
              rw [hx] at h2
              simp only [Bool.false_eq_true, if_false]
              refine ⟨w5, ⟨wipeR S5.sl t.ix⟩, acc, vacc, ?_, ?_, sv.mono _ _ x25.g gd2, hD5, rep2.mono x25.g, g5, f5, x2.trans x25, by omega, by omega, rfl, h2⟩
              · rw [← hw]; exact r5.wiped own5
              · intro k hk d z
                cases wipeR_in _ hk _ z
            | true =>
              simp only [if_true]
              refine ⟨w5, S5, r5, ?_⟩
              cases qe : evE (T.cfg n) elt S5 with
              | ok d fr S6 =>
                have hx : f ds[i] S2 = .ok (some d) ⟨wipeR S6.sl t.ix⟩ := by rw [← hf]; simp only [lcStep, qa, qb, qe, OutB.bndO, Out.bndO]
                rw [hx] at h2
                intro v w6 H6 x6 r6 z6
                obtain ⟨w7, x7, r7, rp7⟩ := r6.fin x6 r5.e0H z6
                have x27 := x25.trans x7
                obtain ⟨hD7, g7, f7⟩ := x27.apart hD2 g2 f2
                have own7 := x7.noOwn r5 r7 own5
                have hl := rep2.length
                refine ⟨vacc, hD7, ?_, w7, ⟨wipeR S6.sl t.ix⟩, acc ++ [d], vacc ++ [v], ?_, ?_, sv.mono _ _ x27.g gd2, upd_same, (rep2.mono x27.g).append (.cons rp7 .nil), g7, f7, ?_, ?_, by omega, rfl, h2⟩
                · rw [← hl]
                  have : LINE = sizeLine := line_eq
                  omega
                · rw [← hw]
                  exact (r7.updFree g7 f7 (r1.e0H.none hD)).wiped own7
                · intro k hk d z
                  cases wipeR_in _ hk _ z
                · have x17 := x2.trans x27
                  exact ⟨x17.g, x17.h.upd2 hD, x17.own, x17.shr, x17.gnew⟩
                · rw [List.length_append]
                  simp only [List.length_cons, List.length_nil]
                  omega
              | exc x s6 =>
                have hx : f ds[i] S2 = .exc x s6 := by rw [← hf]; simp only [lcStep, qa, qb, qe, OutB.bndO, Out.bndO]
                rw [hx] at h2; exact h2.elim
              | stuck =>
                have hx : f ds[i] S2 = .stuck := by rw [← hf]; simp only [lcStep, qa, qb, qe, OutB.bndO, Out.bndO]
                rw [hx] at h2; exact h2.elim
          | exc x s6 =>
            have hx : f ds[i] S2 = .exc x s6 := by rw [← hf]; simp only [lcStep, qa, qb, OutB.bndO]
            rw [hx] at h2; exact h2.elim
          | stuck =>
            have hx : f ds[i] S2 = .stuck := by rw [← hf]; simp only [lcStep, qa, qb, OutB.bndO]
            rw [hx] at h2; exact h2.elim
      · left
        have e1 : i = ds.length := by omega
        subst e1
        rw [List.drop_length, lcL] at h2
        exact ⟨sv.stop _ w2 S2 _ Hc r2 gd2 (Nat.le_refl _), h2 (.ref pD) w2 Hc x2 (r1.back own1 r2 x2.g own2) ⟨pD, _, rfl, hD2, ⟨vacc, rfl, rep2⟩, g2, f2, hD⟩⟩
    · exact h.elim
  | _ => rw [q] at h; exact h
theorem se_lc (g : Gd T n N sc X) {elt : C} {t : Tg} {it : It} {cd : Oc} {ee te ie : Expr} {ifs : List Expr} {scope : Scope} {pos : Pos}
    (hb : blkC N sc scope (ownOf N t) = true) (hi : PI X te ie (TIc X.K e (T.cfg n) it)) (hs : ∀ x, foldedSetIterable ie X.env x = pure x)
    (hg : ∀ (s : Shared) (H : Hp) (C : Addr) (cl : List (Str × Addr)) (fp : List Addr), PG (X.blk s H scope (compEnvC scope cl C X.env) fp) te (gTgt X.K t))
    (hd : ∀ (s : Shared) (H : Hp) (C : Addr) (cl : List (Str × Addr)) (fp : List Addr), PTs (X.blk s H scope (compEnvC scope cl C X.env) fp) ifs (TDc X.K e (T.cfg n) cd))
    (he : ∀ (s : Shared) (H : Hp) (C : Addr) (cl : List (Str × Addr)) (fp : List Addr), PE (X.blk s H scope (compEnvC scope cl C X.env) fp) ee (TEc X.K e (T.cfg n) elt)) :
    PE X (.ListComp ee [⟨te, ie, ifs, 0⟩] scope pos) (TEc X.K e (T.cfg n) (.lc elt t it cd)) := by
  exact imE (pe_lc g.calm (by rw [g.hN]; exact g.nd) hi (own := ownOf N t) (by rw [g.hN, g.hsc]; exact blkOk_by hb) hg hd he hs) fun σ H Q h => lc_imp h
end
end RR

namespace RR
open PySem L2
section
variable {T : Tb} {n : Nat} {N : List Str} {e : En}

theorem starCs {cs : Cs} {sc : Scope} {es : List Expr} (h : chkCs N cs sc es = true) : ∀ ex ∈ es, ∀ xs env, starEach (ex :: xs) env = (false, eval ex env) :: starEach xs env := by
  induction es generalizing cs with
  | nil => intro ex h2; cases h2
  | cons a r ih =>
    cases cs with
    | nil => simp [chkCs] at h
    | cons c cs =>
      simp only [chkCs, Bool.and_eq_true] at h
      intro ex hx xs env
      rcases List.mem_cons.mp hx with z | z
      · subst z; exact noStar h.1 xs env
      · exact ih h.2 ex z xs env
theorem starCs_any {cs : Cs} {sc : Scope} : ∀ {es : List Expr}, (∀ ex ∈ es, ∀ xs env, starEach (ex :: xs) env = (false, eval ex env) :: starEach xs env) → ∀ (pos : Pos) (env : Env), (backTo pos (starEach es env)).any (·.1) = false
  | [], _, pos, env => by simp [starEach, backTo]
  | a :: r, h, pos, env => by
    rw [h a List.mem_cons_self]
    have ih := starCs_any (cs := cs) (sc := sc) (es := r) (fun ex hx => h ex (List.mem_cons_of_mem _ hx)) pos env
    simp only [backTo, List.map_cons, List.any_cons] at ih ⊢
    simpa using ih
theorem evCs_nil_chk {cs : Cs} {sc : Scope} (h : chkCs N cs sc [] = true) : cs = .nil := by
  cases cs with
  | nil => rfl
  | cons c r => simp [chkCs] at h

theorem st_vac {X : Cx} {c : C} {ex : Expr} (hv : ∀ S, evT (T.cfg n) c S = .stuck) : PT X ex (TTc X.K e (T.cfg n) c) := ⟨fun _ _ _ _ _ _ ⟨w, S, r, h⟩ => by
  rw [hv] at h
  exact h.elim⟩
theorem se_vac {X : Cx} {c : C} {ex : Expr} (hv : ∀ S, evE (T.cfg n) c S = .stuck) : PE X ex (TEc X.K e (T.cfg n) c) := ⟨fun _ _ _ _ _ _ ⟨w, S, r, h⟩ => by
  rw [hv] at h
  exact h.elim⟩
mutual
theorem allC : ∀ (c : C) {sc : Scope} {X : Cx} {ex : Expr}, Gd T n N sc X → chkE N c sc ex = true → PE X ex (TEc X.K e (T.cfg n) c) ∧ PT X ex (TTc X.K e (T.cfg n) c)
  | .int i, sc, X, ex, g, h => by
    cases ex <;> first
      | (simp [chkE] at h; done)
      | skip
    rename_i k a b
    cases k <;> first
      | (simp [chkE] at h; done)
      | skip
    have h0 := h
    simp only [chkE, decide_eq_true_eq] at h
    subst h
    have p : PE X (.Constant (.int i) a b) (TEc X.K e (T.cfg n) (.int i)) := se_const (d := .int i) pe_int (fun S => by rw [evE]) fun G => .int i
    exact ⟨p, st_val (fun S => by rw [evT]; all_goals simp) (fun _ => rfl) (so_of g h0 p)⟩
  | .str i, sc, X, ex, g, h => by
    cases ex <;> first
      | (simp [chkE] at h; done)
      | skip
    rename_i k a b
    cases k <;> first
      | (simp [chkE] at h; done)
      | skip
    have h0 := h
    simp only [chkE, decide_eq_true_eq] at h
    subst h
    have p : PE X (.Constant (.str i) a b) (TEc X.K e (T.cfg n) (.str i)) := se_const (d := .str i) pe_str (fun S => by rw [evE]) fun G => .str i
    exact ⟨p, st_val (fun S => by rw [evT]; all_goals simp) (fun _ => rfl) (so_of g h0 p)⟩
  | .bl i, sc, X, ex, g, h => by
    cases ex <;> first
      | (simp [chkE] at h; done)
      | skip
    rename_i k a b
    cases k <;> first
      | (simp [chkE] at h; done)
      | skip
    have h0 := h
    simp only [chkE, decide_eq_true_eq] at h
    subst h
    have p : PE X (.Constant (.bool i) a b) (TEc X.K e (T.cfg n) (.bl i)) := se_const (d := .bl i) pe_bl (fun S => by rw [evE]) fun G => .bl i
    exact ⟨p, st_val (fun S => by rw [evT]; all_goals simp) (fun _ => rfl) (so_of g h0 p)⟩
  | .non, sc, X, ex, g, h => by
    cases ex <;> first
      | (simp [chkE] at h; done)
      | skip
    rename_i k a b
    cases k <;> first
      | (simp [chkE] at h; done)
      | skip
    have p : PE X (.Constant .none a b) (TEc X.K e (T.cfg n) .non) := se_const (d := .non) pe_non (fun S => by rw [evE]) fun G => .non
    exact ⟨p, st_val (fun S => by rw [evT]; all_goals simp) (fun _ => rfl) (so_of g h p)⟩
  | .var i, sc, X, ex, g, h => by
    cases ex <;> first
      | (simp [chkE] at h; done)
      | skip
    have h0 := h
    simp only [chkE, Bool.and_eq_true, decide_eq_true_eq] at h
    have p := se_var (e := e) (pos := by assumption) g h.1.1 h.1.2 h.2
    exact ⟨p, st_val (fun S => by rw [evT]; all_goals simp) (fun _ => rfl) (so_of g h0 p)⟩
  | .pk i, sc, X, ex, g, h => by
    have p : PE X ex (TEc X.K e (T.cfg n) (.pk i)) := se_vac fun S => by rw [evE]
    have q := so_of g h p
    cases ex <;> first
      | (simp [chkE] at h; done)
      | skip
    exact ⟨p, st_val (fun S => by rw [evT]; all_goals simp) (fun _ => rfl) q⟩
  | .glob x, sc, X, ex, g, h => by
    cases ex <;> first
      | (simp [chkE] at h; done)
      | skip
    have h0 := h
    simp only [chkE, Bool.and_eq_true, decide_eq_true_eq] at h
    obtain ⟨⟨rfl, h1⟩, h2⟩ := h
    have p := se_glob (e := e) (pos := by assumption) g h1 h2
    exact ⟨p, st_val (fun S => by rw [evT]; all_goals simp) (fun _ => rfl) (so_of g h0 p)⟩
  | .bin op a b, sc, X, ex, g, h => by
    cases ex <;> first
      | (simp [chkE] at h; done)
      | skip
    have h0 := h
    simp only [chkE, Bool.and_eq_true, decide_eq_true_eq] at h
    obtain ⟨⟨rfl, h1⟩, h2⟩ := h
    have p := se_bin (pos := by assumption) (op := op) (so_of g h1 (allC a g h1).1) (so_of g h2 (allC b g h2).1)
    exact ⟨p, st_val (fun S => by rw [evT]; all_goals simp) (fun _ => rfl) (so_of g h0 p)⟩
  | .neg a, sc, X, ex, g, h => by
    cases ex <;> first
      | (simp [chkE] at h; done)
      | skip
    rename_i op ea pos
    cases op <;> first
      | (simp [chkE] at h; done)
      | skip
    have h0 := h
    simp only [chkE] at h
    have p := se_neg (pos := pos) (allC a g h).1
    exact ⟨p, st_val (fun S => by rw [evT]; all_goals simp) (fun _ => rfl) (so_of g h0 p)⟩
  | .not a, sc, X, ex, g, h => by
    cases ex <;> first
      | (simp [chkE] at h; done)
      | skip
    rename_i op ea pos
    cases op <;> first
      | (simp [chkE] at h; done)
      | skip
    simp only [chkE] at h
    exact ⟨se_not (pos := pos) (so_of g h (allC a g h).1), st_not (allC a g h).2⟩
  | .and as, sc, X, ex, g, h => by
    cases ex <;> first
      | (simp [chkE] at h; done)
      | skip
    rename_i op es pos
    cases op <;> first
      | (simp [chkE] at h; done)
      | skip
    simp only [chkE] at h
    cases as with
    | nil => exact ⟨se_vac fun S => by rw [evE, evAnd], st_vac fun S => by rw [evT, evTAnd]⟩
    | cons c r =>
      obtain ⟨p, q⟩ := (allB (.cons c r) g h (fun z => by cases z) pos).1
      exact ⟨imE p fun σ H Q ⟨w, S, r, h⟩ => ⟨w, S, r, by rw [evE] at h; exact h⟩, (imW q fun σ H Q ⟨w, S, r, h⟩ => ⟨w, S, r, by rw [evT] at h; exact h⟩).pt⟩
  | .or as, sc, X, ex, g, h => by
    cases ex <;> first
      | (simp [chkE] at h; done)
      | skip
    rename_i op es pos
    cases op <;> first
      | (simp [chkE] at h; done)
      | skip
    simp only [chkE] at h
    cases as with
    | nil => exact ⟨se_vac fun S => by rw [evE, evOr], st_vac fun S => by rw [evT, evTOr]⟩
    | cons c r =>
      obtain ⟨p, q⟩ := (allB (.cons c r) g h (fun z => by cases z) pos).2
      exact ⟨imE p fun σ H Q ⟨w, S, r, h⟩ => ⟨w, S, r, by rw [evE] at h; exact h⟩, (imW q fun σ H Q ⟨w, S, r, h⟩ => ⟨w, S, r, by rw [evT] at h; exact h⟩).pt⟩
  | .cmp op a b, sc, X, ex, g, h => by
    cases ex <;> first
      | (simp [chkE] at h; done)
      | skip
    rename_i ea ops es pos
    match ops, es, h with
    | [op'], [eb], h =>
      simp only [chkE, Bool.and_eq_true, decide_eq_true_eq] at h
      obtain ⟨⟨rfl, h1⟩, h2⟩ := h
      have hm := noSetM h2 op
      exact ⟨se_cmp g hm (so_of g h1 (allC a g h1).1) (so_of g h2 (allC b g h2).1), st_cmp g hm (so_of g h1 (allC a g h1).1) (so_of g h2 (allC b g h2).1)⟩
    | [], _, h => simp [chkE] at h
    | _ :: _ :: _, _, h => simp [chkE] at h
    | [_], [], h => simp [chkE] at h
    | [_], _ :: _ :: _, h => simp [chkE] at h
  | .chn o1 o2 a b c, sc, X, ex, g, h => by
    cases ex <;> first
      | (simp [chkE] at h; done)
      | skip
    rename_i ea ops es pos
    match ops, es, h with
    | [o1', o2'], [eb, ec], h =>
      simp only [chkE, Bool.and_eq_true, decide_eq_true_eq] at h
      obtain ⟨⟨⟨⟨rfl, rfl⟩, h1⟩, h2⟩, h3⟩ := h
      have hm : lastMarks [o1, o2] [eb, ec] = false := by unfold lastMarks; exact noSetM h3 o2
      exact ⟨se_chn g hm (so_of g h1 (allC a g h1).1) (so_of g h2 (allC b g h2).1) (so_of g h3 (allC c g h3).1), st_chn g hm (so_of g h1 (allC a g h1).1) (so_of g h2 (allC b g h2).1) (so_of g h3 (allC c g h3).1)⟩
    | [], _, h => simp [chkE] at h
    | [_], _, h => simp [chkE] at h
    | _ :: _ :: _ :: _, _, h => simp [chkE] at h
    | [_, _], [], h => simp [chkE] at h
    | [_, _], [_], h => simp [chkE] at h
    | [_, _], _ :: _ :: _ :: _, h => simp [chkE] at h
  | .ite c a b, sc, X, ex, g, h => by
    cases ex <;> first
      | (simp [chkE] at h; done)
      | skip
    simp only [chkE, Bool.and_eq_true] at h
    obtain ⟨⟨h1, h2⟩, h3⟩ := h
    exact ⟨se_ite (allC c g h1).2 (allC a g h2).1 (allC b g h3).1, st_ite⟩
  | .tup es, sc, X, ex, g, h => by
    cases ex <;> first
      | (simp [chkE] at h; done)
      | skip
    have h0 := h
    simp only [chkE] at h
    have p := se_tup (k := by assumption) (pos := by assumption) (allA es g h).1
    exact ⟨p, st_val (fun S => by rw [evT]; all_goals simp) (fun _ => rfl) (so_of g h0 p)⟩
  | .lst es, sc, X, ex, g, h => by
    cases ex <;> first
      | (simp [chkE] at h; done)
      | skip
    have h0 := h
    simp only [chkE] at h
    have p := se_lst (pos := by assumption) (allA es g h).1
    exact ⟨p, st_val (fun S => by rw [evT]; all_goals simp) (fun _ => rfl) (so_of g h0 p)⟩
  | .idx a i, sc, X, ex, g, h => by
    cases ex <;> first
      | (simp [chkE] at h; done)
      | skip
    have h0 := h
    simp only [chkE, Bool.and_eq_true] at h
    have p := se_idx (pos := by assumption) (noSlice h.2) (so_of g h.1 (allC a g h.1).1) (allC i g h.2).1
    exact ⟨p, st_val (fun S => by rw [evT]; all_goals simp) (fun _ => rfl) (so_of g h0 p)⟩
  | .slc a lo hi, sc, X, ex, g, h => by
    cases ex <;> first
      | (simp [chkE] at h; done)
      | skip
    rename_i ea ei pos
    cases ei <;> first
      | (simp [chkE] at h; done)
      | skip
    rename_i el eh es p2
    have h0 := h
    simp only [chkE, Bool.and_eq_true] at h
    obtain ⟨⟨⟨h1, h2⟩, h3⟩, h4⟩ := h
    cases es with
    | some z => cases h4
    | none =>
      have p := se_slc (p2 := p2) (pos := pos) (so_of g h1 (allC a g h1).1) (allO lo g h2) (allO hi g h3)
      exact ⟨p, st_val (fun S => by rw [evT]; all_goals simp) (fun _ => rfl) (so_of g h0 p)⟩
  | .call f as, sc, X, ex, g, h => by
    cases ex <;> first
      | (simp [chkE] at h; done)
      | skip
    rename_i fe es ks pos
    cases fe <;> first
      | (simp [chkE] at h; done)
      | skip
    rename_i x px
    have h0 := h
    simp only [chkE, Bool.and_eq_true, decide_eq_true_eq, List.isEmpty_iff] at h
    obtain ⟨⟨⟨⟨rfl, h1⟩, h2⟩, rfl⟩, h3⟩ := h
    have st := starCs h3
    have p := se_call (e := e) (p := px) (pos := pos) g h1 h2 (fun ex hx => st ex (List.mem_of_mem_head? hx)) (starCs_any (cs := as) (sc := sc) (fun ex hx => st ex (List.mem_of_mem_tail hx)) _ _) (fun z => by subst z; exact evCs_nil_chk h3) (allA as g h3).2
    exact ⟨p, st_val (fun S => by rw [evT]; all_goals simp) (fun _ => rfl) (so_of g h0 p)⟩
  | .bi f as, sc, X, ex, g, h => by
    cases ex <;> first
      | (simp [chkE] at h; done)
      | skip
    rename_i fe es ks pos
    cases fe <;> first
      | (simp [chkE] at h; done)
      | skip
    rename_i x px
    have h0 := h
    simp only [chkE, Bool.and_eq_true, decide_eq_true_eq, List.isEmpty_iff] at h
    obtain ⟨⟨⟨⟨⟨rfl, h1⟩, h2⟩, rfl⟩, h4⟩, h3⟩ := h
    have st := starCs h3
    cases es with
    | nil => cases h4
    | cons a r =>
      have p := se_bi (e := e) (p := px) (pos := pos) g h1 h2 (st a List.mem_cons_self _ _) (starCs_any (cs := as) (sc := sc) (fun ex hx => st ex (List.mem_cons_of_mem _ hx)) _ _) (allA as g h3).2
      exact ⟨p, st_val (fun S => by rw [evT]; all_goals simp) (fun _ => rfl) (so_of g h0 p)⟩
  | .isi ty a, sc, X, ex, g, h => by
    cases ex <;> first
      | (simp [chkE] at h; done)
      | skip
    rename_i fe es ks pos
    cases fe <;> first
      | (simp [chkE] at h; done)
      | skip
    rename_i x px
    match es, h with
    | [ea, eb], h =>
      cases eb <;> first
        | (simp [chkE] at h; done)
        | skip
      rename_i y py
      have h0 := h
      simp only [chkE, Bool.and_eq_true, decide_eq_true_eq, List.isEmpty_iff] at h
      obtain ⟨⟨⟨⟨⟨⟨rfl, h1⟩, rfl⟩, h3⟩, h4⟩, rfl⟩, h5⟩ := h
      have p := se_isi (e := e) (p := px) (p2 := py) (pos := pos) g h1 h4 h3 (noStar h5) (so_of g h5 (allC a g h5).1)
      exact ⟨p, st_val (fun S => by rw [evT]; all_goals simp) (fun _ => rfl) (so_of g h0 p)⟩
    | [], h => simp [chkE] at h
    | [_], h => simp [chkE] at h
    | _ :: _ :: _ :: _, h => simp [chkE] at h
  | .lc elt t it cd, sc, X, ex, g, h => by
    cases ex <;> first
      | (simp [chkE] at h; done)
      | skip
    rename_i ee gens scope pos
    match gens, h with
    | [⟨te, ie, ifs, as⟩], h =>
      have h0 := h
      simp only [chkE, Bool.and_eq_true, decide_eq_true_eq] at h
      obtain ⟨⟨⟨⟨⟨rfl, h1⟩, h2⟩, h3⟩, h4⟩, h5⟩ := h
      have p := se_lc (pos := pos) g h1 (allI it g h3) (noSetI h3 _) (fun s H C cl fp => pg_tgt (g.blk scope s H C cl fp) (fun x hx => hx) h2) (fun s H C cl fp => allD cd (g.blk scope s H C cl fp) h5) (fun s H C cl fp => (allC elt (g.blk scope s H C cl fp) h4).1)
      exact ⟨p, st_val (fun S => by rw [evT]; all_goals simp) (fun _ => rfl) (so_of g h0 p)⟩
    | [], h => simp [chkE] at h
    | _ :: _ :: _, h => simp [chkE] at h
theorem allO : ∀ (c : Oc) {sc : Scope} {X : Cx} {ex : Option Expr}, Gd T n N sc X → chkO N c sc ex = true → PO X ex (TPc X.K e (T.cfg n) c)
  | .no, sc, X, ex, g, h => by
    cases ex with
    | none => exact sp_no
    | some z => simp [chkO] at h
  | .so c, sc, X, ex, g, h => by
    cases ex with
    | none => simp [chkO] at h
    | some z =>
      simp only [chkO] at h
      exact sp_so (allC c g h).1
theorem allD : ∀ (c : Oc) {sc : Scope} {X : Cx} {es : List Expr}, Gd T n N sc X → chkD N c sc es = true → PTs X es (TDc X.K e (T.cfg n) c)
  | .no, sc, X, es, g, h => by
    cases es with
    | nil => exact pts_no g.calm
    | cons a b => simp [chkD] at h
  | .so c, sc, X, es, g, h => by
    match es, h with
    | [], h => simp [chkD] at h
    | [a], h =>
      simp only [chkD] at h
      exact pts_so (allC c g h).2
    | _ :: _ :: _, h => simp [chkD] at h
theorem allA : ∀ (cs : Cs) {sc : Scope} {X : Cx} {es : List Expr}, Gd T n N sc X → chkCs N cs sc es = true → PA X es (TLc X.K e (T.cfg n) cs) ∧ PA X es (TVc X.K e (T.cfg n) cs)
  | .nil, sc, X, es, g, h => by
    cases es with
    | nil => exact ⟨sl_nil, sv_nil⟩
    | cons a b => simp [chkCs] at h
  | .cons c r, sc, X, es, g, h => by
    cases es with
    | nil => simp [chkCs] at h
    | cons a b =>
      simp only [chkCs, Bool.and_eq_true] at h
      exact ⟨sl_cons (noStar h.1 _ _) (allC c g h.1).1 (allA r g h.2).1, sv_cons (noStar h.1 _ _) (so_of g h.1 (allC c g h.1).1) (allA r g h.2).2⟩
theorem allB : ∀ (cs : Cs) {sc : Scope} {X : Cx} {es : List Expr}, Gd T n N sc X → chkCs N cs sc es = true → cs ≠ .nil → ∀ pos : Pos,
    (PE X (.BoolOp .And es pos) (TAndc X.K e (T.cfg n) cs) ∧ PW X (.BoolOp .And es pos) (TTAndc X.K e (T.cfg n) cs)) ∧ (PE X (.BoolOp .Or es pos) (TOrc X.K e (T.cfg n) cs) ∧ PW X (.BoolOp .Or es pos) (TTOrc X.K e (T.cfg n) cs))
  | .nil, sc, X, es, g, h, hn, pos => absurd rfl hn
  | .cons c r, sc, X, es, g, h, hn, pos => by
    cases es with
    | nil => simp [chkCs] at h
    | cons a b =>
      simp only [chkCs, Bool.and_eq_true] at h
      have p := allC c g h.1
      cases r with
      | nil =>
        cases b with
        | nil => exact ⟨⟨sand_one p.1, stand_one p.2⟩, sor_one p.1, stor_one p.2⟩
        | cons a2 b2 => simp [chkCs] at h
      | cons c2 r2 =>
        cases b with
        | nil => simp [chkCs] at h
        | cons a2 b2 =>
          have q := allB (.cons c2 r2) g h.2 (fun z => by cases z) pos
          exact ⟨⟨sand_cons p.1 q.1.1, stand_cons p.2 q.1.2⟩, sor_cons p.1 q.2.1, stor_cons p.2 q.2.2⟩
theorem allI : ∀ (it : It) {sc : Scope} {X : Cx} {te ie : Expr}, Gd T n N sc X → chkI N it sc te ie = true → PI X te ie (TIc X.K e (T.cfg n) it)
  | .seq c, sc, X, te, ie, g, h => si_seq (allC c g (by simpa only [chkI] using h)).1
  | .rng as, sc, X, te, ie, g, h => by
    cases ie <;> first
      | (simp [chkI] at h; done)
      | skip
    rename_i fe es ks pos
    cases fe <;> first
      | (simp [chkI] at h; done)
      | skip
    simp only [chkI, Bool.and_eq_true, decide_eq_true_eq, List.isEmpty_iff] at h
    obtain ⟨⟨⟨⟨rfl, h1⟩, rfl⟩, h2⟩, h3⟩ := h
    exact si_rng g h1 h2 (chkCs_len as sc es h3) (starCs h3) (allA as g h3).2
  | .enm c, sc, X, te, ie, g, h => by
    cases te <;> first
      | (simp [chkI] at h; done)
      | skip
    cases ie <;> first
      | (simp [chkI] at h; done)
      | skip
    rename_i fe es ks pos
    cases fe <;> first
      | (simp [chkI] at h; done)
      | skip
    match es, h with
    | [a], h =>
      simp only [chkI, Bool.and_eq_true, decide_eq_true_eq, List.isEmpty_iff] at h
      obtain ⟨⟨⟨rfl, h1⟩, rfl⟩, h3⟩ := h
      exact si_enm g h1 (fun xs env => noStar h3 xs env) (allC c g h3).1
    | [], h => simp [chkI] at h
    | _ :: _ :: _, h => simp [chkI] at h
  | .zip a b, sc, X, te, ie, g, h => by
    cases te <;> first
      | (simp [chkI] at h; done)
      | skip
    cases ie <;> first
      | (simp [chkI] at h; done)
      | skip
    rename_i fe es ks pos
    cases fe <;> first
      | (simp [chkI] at h; done)
      | skip
    match es, h with
    | [ea, eb], h =>
      simp only [chkI, Bool.and_eq_true, decide_eq_true_eq, List.isEmpty_iff] at h
      obtain ⟨⟨⟨rfl, h1⟩, rfl⟩, h3, h4⟩ := h
      exact si_zip g h1 (fun xs env => noStar h3 xs env) (fun xs env => noStar h4 xs env) (allC a g h3).1 (allC b g h4).1
    | [], h => simp [chkI] at h
    | [_], h => simp [chkI] at h
    | _ :: _ :: _ :: _, h => simp [chkI] at h
  | .rev c, sc, X, te, ie, g, h => by
    cases ie <;> first
      | (simp [chkI] at h; done)
      | skip
    rename_i fe es ks pos
    cases fe <;> first
      | (simp [chkI] at h; done)
      | skip
    match es, h with
    | [a], h =>
      simp only [chkI, Bool.and_eq_true, decide_eq_true_eq, List.isEmpty_iff] at h
      obtain ⟨⟨⟨rfl, h1⟩, rfl⟩, h3⟩ := h
      exact si_rev g h1 (fun xs env => noStar h3 xs env) (allC c g h3).1
    | [], h => simp [chkI] at h
    | _ :: _ :: _, h => simp [chkI] at h
end
end
end RR

namespace RR
open PySem L2

/-- is a comprehension's value given over to its target: none, not looked into -/
def swB (v : Expr) (y : Str) (py : Pos) (sc : Scope) : Option Bool := match v with
  | .ListComp _ _ scope pos => some (decide (sc.names.lookup y = some .local) && py.line == pos.line && !(scope.names.any fun (n, k) => n == y && (k == .local || k == .cell)))
  | .SetComp .. => none
  | .DictComp .. => none
  | _ => some false
def notComp (v : Expr) : Bool := match v with
  | .ListComp .. => false | .SetComp .. => false | .DictComp .. => false | _ => true
def notTup (v : Expr) : Bool := match v with
  | .Tuple .. => false | _ => true
section
variable (N : List Str) (sc : Scope)
mutual
def chkS : S → Stmt → Bool
  | .set i c, .Assign ts v _ => match ts with
    | [.Name y py] => chkN N sc (fun _ => true) i y && chkE N c sc v && (swB v y py sc).isSome
    | _ => false
  | .unp is c, .Assign ts v _ => match ts with
    | [.Tuple es _ _] => chkNs N sc (fun _ => true) is es && chkE N c sc v && notTup v && notComp v
    | _ => false
  | .sidx i ix c, .Assign ts v _ => match ts with
    | [.Subscript (.Name y _) ei _] => decide (N[i]? = some y) && visB sc y && okN y && chkE N ix sc ei && chkE N c sc v
    | _ => false
  | .aug i op c, .AugAssign (.Name y _) op' v _ => chkN N sc (fun _ => true) i y && decide (op = op') && (decide (op = .Add) || decide (op = .Sub)) && chkE N c sc v
  | .app i c, .Expr (.Call (.Attribute (.Name y _) m ap) es ks cp) _ => decide (N[i]? = some y) && visB sc y && okN y && decide (m = "append") && ks.isEmpty && (ap.endLine == cp.line) && (match es with | [e] => chkE N c sc e | _ => false)
  | .pop i, .Expr (.Call (.Attribute (.Name y _) m ap) es ks cp) _ => decide (N[i]? = some y) && visB sc y && okN y && decide (m = "pop") && ks.isEmpty && (ap.endLine == cp.line) && es.isEmpty
  | .ex c, .Expr v _ => chkE N c sc v && notComp v
  | .ret c, .Return (some v) _ => chkE N c sc v
  | .retv i, .Return (some (.Name y _)) _ => decide (N[i]? = some y) && visB sc y && okN y
  | .retN, .Return none _ => true
  | .ite c a b, .If ec ea eb _ => chkE N c sc ec && chkSs a ea && chkSs b eb
  | .for tg it b, .For te ie body orelse _ => chkTg N sc (fun _ => true) tg te && chkI N it sc te ie && chkSs b body && orelse.isEmpty
  | .whl c b, .While ec body orelse _ => chkE N c sc ec && chkSs b body && orelse.isEmpty
  | .pas, .Pass _ => true
  | .cont, .Continue _ => true
  | .brk, .Break _ => true
  | _, _ => false
def chkSs : Ss → List Stmt → Bool
  | .nil, [] => true
  | .cons a r, s :: ss => chkS a s && chkSs r ss
  | _, _ => false
end
end

def PostS (K : PySem.W.Frag) (e : En) (w : Wd) (D : Ends) (o : SO) : Prop := match o with
  | .nx S' => ∀ w' σ' H', Sub w.G w'.G → Rel K e w' S' σ' H' → D.nx σ' H'
  | .ct S' => ∀ w' σ' H', Sub w.G w'.G → Rel K e w' S' σ' H' → D.ct σ' H'
  | .bk S' => ∀ w' σ' H', Sub w.G w'.G → Rel K e w' S' σ' H' → D.bk σ' H'
  | .rt d fr S' => ∀ v w' σ' H', Sub w.G w'.G → Rel K e w' S' σ' H' → Res1 K e.H w' H' d fr v → D.rt v H'
  | _ => False
def TSc (K : PySem.W.Frag) (e : En) (Γ : Cfg) (c : S) : TS := fun D σ H => ∃ w S, Rel K e w S σ H ∧ PostS K e w D (evS Γ c S)
def TSsc (K : PySem.W.Frag) (e : En) (Γ : Cfg) (c : Ss) : TS := fun D σ H => ∃ w S, Rel K e w S σ H ∧ PostS K e w D (evSs Γ c S)
structure Gf (T : Tb) (n : Nat) (N : List Str) (sc : Scope) (X : Cx) : Prop extends Gd T n N sc X where
  fn : ∀ x, X.fn x = true
  own : PassesOwn (model X.prog X.w) X.A X.env X.xe
  kind : sc.kind = .function
section
variable {K : PySem.W.Frag} {e : En} {w w1 : Wd} {D D' : Ends} {o : SO}
theorem PostS.ext (x : Sub w.G w1.G) (h : PostS K e w D o) : PostS K e w1 D o := by
  cases o with
  | nx S' => exact fun w' σ' H' y r => h w' σ' H' (x.trans y) r
  | ct S' => exact fun w' σ' H' y r => h w' σ' H' (x.trans y) r
  | bk S' => exact fun w' σ' H' y r => h w' σ' H' (x.trans y) r
  | rt d fr S' => exact fun v w' σ' H' y r => h v w' σ' H' (x.trans y) r
  | _ => exact h
end
section
variable {T : Tb} {n : Nat} {N : List Str} {sc : Scope} {X : Cx} {e : En}
theorem chkN_loc (g : Gf T n N sc X) {i : Nat} {y : Str} (h : chkN N sc (fun _ => true) i y = true) : X.N[i]? = some y ∧ L2.Loc X.env.scope y := by
  simp only [chkN, Bool.and_eq_true, decide_eq_true_eq] at h
  exact ⟨g.nm h.1.1, g.loc h.1.2⟩
/-- what stands behind a value that is given a name -/
theorem set_post {w : Wd} {S1 : RS} {σ : St} {H1 : Hp} {d : D} {fr : Bool} {v : V} {i : Nat} {De : Ends} (r1 : Rel X.K e w S1 σ H1) (q : Res1 X.K e.H w H1 d fr v)
    (h : PostS X.K e w De (.nx ⟨S1.sl.set i (slOf d fr)⟩)) : De.nx (σ.set i (some v)) H1 := by
  cases fr with
  | false =>
    obtain ⟨w', g', _, _, r'⟩ := r1.setVal i (d := d) (v := v) q
    exact h w' _ H1 (by rw [g']; exact Sub.refl _) r'
  | true =>
    cases d with
    | lst ds =>
      obtain ⟨w', g', r'⟩ := r1.setOwn i q
      exact h w' _ H1 (by rw [g']; exact Sub.refl _) r'
    | dic ds =>
      obtain ⟨w', g', r'⟩ := r1.setOwn i q
      exact h w' _ H1 (by rw [g']; exact Sub.refl _) r'
    | _ =>
      obtain ⟨_, _, _, _, c, _⟩ := q
      exact (show False from c).elim
theorem ss_setv (g : Gf T n N sc X) {i : Nat} {c : C} {te : TE} (hq : ∀ {σ H Q}, TEc X.K e (T.cfg n) c σ H Q → te σ H Q) {De : Ends} {σ : St} {H : Hp} (h : TSc X.K e (T.cfg n) (.set i c) De σ H) : tAsg te (gName i) De σ H := by
  refine hq ?_
  obtain ⟨w, S, r, h⟩ := h
  rw [evS] at h
  refine ⟨w, S, r, ?_⟩
  cases q : evE (T.cfg n) c S with
  | ok d fr S1 =>
    rw [q] at h
    intro v w1 H1 x1 r1 z
    exact set_post r1 (z.base r.e0H) (PostS.ext x1.g h)
  | _ => rw [q] at h; exact h
theorem ss_set (g : Gf T n N sc X) {i : Nat} {c : C} {y : Str} {py pos : Pos} {v : Expr} (hi : chkN N sc (fun _ => true) i y = true) (hs : swapsWith v (some (.Name y py)) pos.line X.env = pure false) (hv : PE X v (TEc X.K e (T.cfg n) c)) :
    PS X (.Assign [.Name y py] v pos) (TSc X.K e (T.cfg n) (.set i c)) := by
  obtain ⟨h1, h2⟩ := chkN_loc g hi
  exact imS (ps_set (by rw [g.hN]; exact g.nd) h1 h2 hv hs (.inl (g.fn _))) fun De σ H h => ss_setv g (fun z => z) h
theorem ss_ret {c : C} {v : Expr} {pos : Pos} (hv : PE X v (TEc X.K e (T.cfg n) c)) : PS X (.Return (some v) pos) (TSc X.K e (T.cfg n) (.ret c)) :=
  imS (ps_ret hv) fun De σ H ⟨w, S, r, h⟩ => by
    rw [evS] at h
    refine ⟨w, S, r, ?_⟩
    cases q : evE (T.cfg n) c S with
    | ok d fr S1 =>
      rw [q] at h
      intro v w1 H1 x1 r1 z
      exact h v w1 σ H1 x1.g r1 (z.base r.e0H)
    | _ => rw [q] at h; exact h
theorem ss_retv (g : Gf T n N sc X) {i : Nat} {y : Str} {py pos : Pos} (h1 : N[i]? = some y) (h2 : visB sc y = true) (h3 : okN y = true) : PS X (.Return (some (.Name y py)) pos) (TSc X.K e (T.cfg n) (.retv i)) :=
  imS (ps_ret (pe_var (g.nm h1) (g.vis h2) (okN1 h3) (okN2 h3))) fun De σ H ⟨w, S, r, h⟩ => by
    rw [evS] at h
    unfold retS at h
    split at h
    · rename_i d q
      obtain ⟨v, e1, e2⟩ := r.val i d q
      exact ⟨v, e1, h v w σ H (Sub.refl _) r e2⟩
    · rename_i d q
      obtain ⟨w', v, e1, s1, r1, e2⟩ := r.moved q
      exact ⟨v, e1, h v w' σ H s1 r1 e2⟩
    · exact h.elim
theorem ss_ex {c : C} {v : Expr} {pos : Pos} (hs : swapsWith v none pos.line X.env = pure false) (hv : PE X v (TEc X.K e (T.cfg n) c)) : PS X (.Expr v pos) (TSc X.K e (T.cfg n) (.ex c)) :=
  imS (ps_expr hv hs) fun De σ H ⟨w, S, r, h⟩ => by
    rw [evS] at h
    refine ⟨w, S, r, ?_⟩
    cases q : evE (T.cfg n) c S with
    | ok d fr S1 =>
      rw [q] at h
      intro v w1 H1 x1 r1 z
      exact h w1 σ H1 x1.g r1
    | _ => rw [q] at h; exact h
theorem ss_unp (g : Gf T n N sc X) {is : List Nat} {c : C} {es : List Expr} {k : Nat} {tp pos : Pos} {v : Expr} (hi : chkNs N sc (fun _ => true) is es = true) (h1 : notTup v = true) (h2 : notComp v = true) (hv : PE X v (TEc X.K e (T.cfg n) c)) :
    PS X (.Assign [.Tuple es k tp] v pos) (TSc X.K e (T.cfg n) (.unp is c)) := by
  have hg : PG X (.Tuple es k tp) (gTgt X.K (.tp is)) := pg_tgt g.toGd (fn := fun _ => true) (fun x _ => g.fn x) (by rw [chkTg]; exact hi)
  refine imS (ps_asg hv hg (by cases v <;> first | rfl | cases h2) (by cases v <;> first | rfl | cases h1)) fun De σ H ⟨w, S, r, h⟩ => ?_
  rw [evS] at h
  refine ⟨w, S, r, ?_⟩
  cases q : evE (T.cfg n) c S with
  | ok d fr S1 =>
    rw [q] at h
    intro v w1 H1 x1 r1 z
    obtain ⟨w2, x2, r2, z2⟩ := r1.fin x1 r.e0H z
    have h : PostS X.K e w De (unpS is d S1) := h
    cases d with
    | tup ds =>
      unfold unpS at h
      simp only at h
      split at h
      · rename_i hl
        refine tgt_ok r2 z2 (tg := .tp is) (S' := ⟨(is.zip ds).foldl (fun sl p => sl.set p.1 (.val p.2)) S1.sl⟩) (by simp only [asg, hl, if_true]) fun σ' w' g' _ _ r' _ _ => ?_
        exact h w' σ' H1 (by rw [g']; exact x2.g) r'
      · exact h.elim
    | _ => exact h.elim
  | _ => rw [q] at h; exact h
theorem ss_sidx (g : Gf T n N sc X) {i : Nat} {ix c : C} {y : Str} {py sp pos : Pos} {ei v : Expr} (h1 : N[i]? = some y) (h2 : visB sc y = true) (h3 : okN y = true) (hns : PlainIx ei) (hx : PE X ei (TEc X.K e (T.cfg n) ix)) (hv : PE X v (TEc X.K e (T.cfg n) c))
    (ha : ∀ u, assign (.Subscript (.Name y py) ei sp) X.env u = (do
      let ov ← holding [u] (eval (.Name y py) X.env)
      let iv ← holding [u, ov] (eval ei X.env)
      standAt sp
      holding [u, ov, iv] (setItem ov iv u)
      release [u, ov, iv] [])) :
    PS X (.Assign [.Subscript (.Name y py) ei sp] v pos) (TSc X.K e (T.cfg n) (.sidx i ix c)) := by
  refine imS (ps_asg hv (pg_sub (pe_var (g.nm h1) (g.vis h2) (okN1 h3) (okN2 h3)) hx set_list ha) (by cases v <;> rfl) (by cases v <;> rfl)) fun De σ H ⟨w, S, r, h⟩ => ?_
  rw [evS] at h
  refine ⟨w, S, r, ?_⟩
  cases q : evE (T.cfg n) c S with
  | ok d fr S1 =>
    rw [q] at h
    intro v w1 H1 x1 r1 z
    obtain ⟨w2, x2, r2, z2⟩ := r1.fin x1 r.e0H z
    have h : PostS X.K e w De (ownAt i S1 ((evE (T.cfg n) ix S1).bndS fun k _ s2 => setS i k d s2)) := h
    unfold ownAt at h
    split at h
    · rename_i xs0 q0
      obtain ⟨p, o, e1, _, _, _⟩ := r2.own i _ q0
      refine ⟨.ref p, e1, w2, S1, r2, ?_⟩
      cases q2 : evE (T.cfg n) ix S1 with
      | ok k fk S2 =>
        rw [q2] at h
        have h : PostS X.K e w De (setS i k d S2) := h
        intro u w3 H3 x3 r3 z3
        obtain ⟨w4, x4, r4, z4⟩ := r3.fin x3 r2.e0H z3
        unfold setS at h
        split at h
        · rename_i xs j hs hj
          split at h
          · rename_i m hm
            obtain ⟨p', o', e2, e3, e4, e5⟩ := r4.own i _ hs
            rw [e1] at e2
            cases e2
            obtain ⟨vs, rfl, e6⟩ := e4
            cases z4
            refine ⟨p, vs, j, m, rfl, rfl, e3, by rw [← e6.length]; exact hm, ?_⟩
            exact h w4 σ _ (x2.g.trans x4.g) (r4.setCont hs e1 ⟨_, rfl, e6.set (z2.mono x4.g) m⟩)
          · exact h.elim
        · exact h.elim
      | _ => rw [q2] at h; exact h
    · exact h.elim
  | _ => rw [q] at h; exact h
theorem aug_read {K : PySem.W.Frag} {i : Nat} {op : Operator} {c : C} {De : Ends} {σ : St} {H : Hp} {ti : TIp} (h : TSc K e (T.cfg n) (.aug i op c) De σ H)
    (ha : ∀ (a b : Int) Q H', op = .Add → Q (V.int (a + b)) H' → ti (.int a) (.int b) H' Q) (hb : ∀ (a b : Int) Q H', op = .Sub → Q (V.int (a - b)) H' → ti (.int a) (.int b) H' Q) : tAug i (TEc K e (T.cfg n) c) ti De σ H := by
  obtain ⟨w, S, r, h⟩ := h
  rw [evS] at h
  unfold valAt at h
  split at h
  · rename_i d q
    obtain ⟨x, e1, e2⟩ := r.val i d q
    refine ⟨x, e1, w, S, r, ?_⟩
    cases q2 : evE (T.cfg n) c S with
    | ok d2 fr S1 =>
      rw [q2] at h
      have h : PostS K e w De (augS i op d2 S1) := h
      intro u w1 H1 x1 r1 z
      obtain ⟨w2, x2, r2, z2⟩ := r1.fin x1 r.e0H z
      unfold augS at h
      split at h
      · rename_i a b hs _
        obtain ⟨x', e3, e4⟩ := r2.val i _ hs
        rw [e1] at e3
        cases e3
        cases e4
        cases z2
        refine ha _ _ _ _ rfl ?_
        obtain ⟨w3, g3, _, _, r3⟩ := r2.setVal i (d := .int (a + b)) (v := .int (a + b)) (.int _)
        exact h w3 _ _ (by rw [g3]; exact x2.g) r3
      · rename_i a b hs _
        obtain ⟨x', e3, e4⟩ := r2.val i _ hs
        rw [e1] at e3
        cases e3
        cases e4
        cases z2
        refine hb _ _ _ _ rfl ?_
        obtain ⟨w3, g3, _, _, r3⟩ := r2.setVal i (d := .int (a - b)) (v := .int (a - b)) (.int _)
        exact h w3 _ _ (by rw [g3]; exact x2.g) r3
      · exact h.elim
    | _ => rw [q2] at h; exact h
  · exact h.elim
theorem ss_aug (g : Gf T n N sc X) {i : Nat} {op : Operator} {c : C} {y : Str} {py pos : Pos} {v : Expr} (hi : chkN N sc (fun _ => true) i y = true) (ho : (decide (op = .Add) || decide (op = .Sub)) = true) (hv : PE X v (TEc X.K e (T.cfg n) c)) :
    PS X (.AugAssign (.Name y py) op v pos) (TSc X.K e (T.cfg n) (.aug i op c)) := by
  obtain ⟨h1, h2⟩ := chkN_loc g hi
  simp only [Bool.or_eq_true, decide_eq_true_eq] at ho
  rcases ho with rfl | rfl
  · exact imS (ps_aug (by rw [g.hN]; exact g.nd) h1 h2 hv ip_add (.inl (g.fn _))) fun De σ H h => aug_read h (fun a b Q H' _ q => ⟨a, b, rfl, rfl, q⟩) (fun _ _ _ _ z => by cases z)
  · exact imS (ps_aug (by rw [g.hN]; exact g.nd) h1 h2 hv ip_sub (.inl (g.fn _))) fun De σ H h => aug_read h (fun _ _ _ _ z => by cases z) (fun a b Q H' _ q => ⟨a, b, rfl, rfl, q⟩)
theorem ss_app (g : Gf T n N sc X) {i : Nat} {c : C} {y : Str} {py ap cp pos : Pos} {ex : Expr} (h1 : N[i]? = some y) (h2 : visB sc y = true) (h3 : okN y = true) (hl : (ap.endLine == cp.line) = true) (hs : ∀ xs env, starEach (ex :: xs) env = (false, eval ex env) :: starEach xs env) (hv : PE X ex (TEc X.K e (T.cfg n) c)) :
    PS X (.Expr (.Call (.Attribute (.Name y py) "append" ap) [ex] [] cp) pos) (TSc X.K e (T.cfg n) (.app i c)) := by
  refine imS (ps_expr (pe_bm PySem.F.plainAttrs_list PySem.F.slot_list_append PySem.F.type_list_append mt_append (pe_var (g.nm h1) (g.vis h2) (okN1 h3) (okN2 h3)) (pa_cons hv pa_nil (hs _ _)) (by rfl) (by rw [hs]; rfl) hl (hs _ _) (by rfl))) fun De σ H ⟨w, S, r, h⟩ => ?_
  rw [evS] at h
  unfold ownAt at h
  split at h
  · rename_i xs0 q0
    obtain ⟨p, o, e1, e2, e3, _⟩ := r.own i _ q0
    obtain ⟨vs0, rfl, _⟩ := e3
    refine ⟨.ref p, e1, .inl ⟨rfl, vs0, .inl (.inl e2)⟩, w, S, r, ?_⟩
    cases q : evE (T.cfg n) c S with
    | ok d fr S1 =>
      rw [q] at h
      have h : PostS X.K e w De (appS i d S1) := h
      intro v w1 H1 x1 r1 z
      obtain ⟨w2, x2, r2, z2⟩ := r1.fin x1 r.e0H z
      unfold appS at h
      split at h
      · rename_i xs hs1
        split at h
        · rename_i hln
          obtain ⟨p', o', f1, f2, f3, f4⟩ := r2.own i _ hs1
          rw [e1] at f1
          cases f1
          obtain ⟨vs, rfl, f5⟩ := f3
          refine ⟨p, vs, v, rfl, rfl, f2, ?_, ?_⟩
          · rw [← f5.length]
            have : LINE = sizeLine := line_eq
            omega
          · exact h w2 σ _ x2.g (r2.setCont hs1 e1 ⟨_, rfl, f5.append (.cons z2 .nil)⟩)
        · exact h.elim
      · exact h.elim
    | _ => rw [q] at h; exact h
  · exact h.elim
theorem ss_pop (g : Gf T n N sc X) {i : Nat} {y : Str} {py ap cp pos : Pos} (h1 : N[i]? = some y) (h2 : visB sc y = true) (h3 : okN y = true) (hl : (ap.endLine == cp.line) = true) :
    PS X (.Expr (.Call (.Attribute (.Name y py) "pop" ap) [] [] cp) pos) (TSc X.K e (T.cfg n) (.pop i)) := by
  refine imS (ps_expr (pe_bm0 PySem.F.plainAttrs_list PySem.F.slot_list_pop PySem.F.type_list_pop mt_pop (pe_var (g.nm h1) (g.vis h2) (okN1 h3) (okN2 h3)) (by rfl) hl)) fun De σ H ⟨w, S, r, h⟩ => ?_
  rw [evS] at h
  unfold popS at h
  split at h
  · rename_i xs hs1
    split at h
    · exact h.elim
    · rename_i hne
      obtain ⟨p, o, f1, f2, f3, f4⟩ := r.own i _ hs1
      obtain ⟨vs, rfl, f5⟩ := f3
      have hl := f5.length
      have hpos : 0 < xs.length := List.length_pos_iff.mpr hne
      have hlt : vs.length - 1 < vs.length := by omega
      refine ⟨.ref p, f1, .inl ⟨rfl, vs, .inl (.inl f2)⟩, p, vs, vs[vs.length - 1], rfl, rfl, f2, List.getElem?_eq_getElem hlt, ?_⟩
      have f6 : Reps X.K w.G xs.dropLast vs.dropLast := by
        rw [List.dropLast_eq_take, List.dropLast_eq_take, hl]
        exact f5.take _
      exact h w σ _ (Sub.refl _) (r.setCont hs1 f1 ⟨_, rfl, f6⟩)
  · exact h.elim
theorem ss_ite {c : C} {a b : Ss} {ec : Expr} {ea eb : List Stmt} {pos : Pos} (hc : PT X ec (TTc X.K e (T.cfg n) c)) (ha : PSs X ea (TSsc X.K e (T.cfg n) a)) (hb : PSs X eb (TSsc X.K e (T.cfg n) b)) : PS X (.If ec ea eb pos) (TSc X.K e (T.cfg n) (.ite c a b)) :=
  imS (ps_if hc ha hb) fun De σ H ⟨w, S, r, h⟩ => by
    rw [evS] at h
    refine ⟨w, S, r, ?_⟩
    cases q : evT (T.cfg n) c S with
    | ok k S1 =>
      rw [q] at h
      intro w1 H1 x1 r1
      cases k with
      | true => exact ⟨w1, S1, r1, PostS.ext x1.g h⟩
      | false => exact ⟨w1, S1, r1, PostS.ext x1.g h⟩
    | _ => rw [q] at h; exact h
theorem ss_whl (g : Gf T n N sc X) {c : C} {b : Ss} {ec : Expr} {eb : List Stmt} {pos : Pos} (hc : PT X ec (TTc X.K e (T.cfg n) c)) (hb : PSs X eb (TSsc X.K e (T.cfg n) b)) : PS X (.While ec eb [] pos) (TSc X.K e (T.cfg n) (.whl c b)) :=
  imS (ps_while g.own hc hb) fun De σ H ⟨w, S, r, h⟩ => by
    rw [evS] at h
    have hne : whl (evT (T.cfg n) c) (evSs (T.cfg n) b) S ≠ .stuck := fun z => by rw [z] at h; exact h
    obtain ⟨k, hk⟩ := whl_ex hne
    rw [← hk] at h
    refine ⟨fun m σ H => ∃ w2 S2, Rel X.K e w2 S2 σ H ∧ Sub w.G w2.G ∧ PostS X.K e w De (whlN (evT (T.cfg n) c) (evSs (T.cfg n) b) m S2), ⟨k, w, S, r, Sub.refl _, h⟩, ?_⟩
    rintro m σ H ⟨w2, S2, r2, g2, h2⟩
    cases m with
    | zero => exact h2.elim
    | succ m =>
      rw [whlN] at h2
      refine ⟨w2, S2, r2, ?_⟩
      cases q : evT (T.cfg n) c S2 with
      | ok k S3 =>
        rw [q] at h2
        intro w3 H3 x3 r3
        cases k with
        | true =>
          rw [if_pos rfl]
          refine ⟨fun σ' H' => ∃ w2 S2, Rel X.K e w2 S2 σ' H' ∧ Sub w.G w2.G ∧ PostS X.K e w De (whlN (evT (T.cfg n) c) (evSs (T.cfg n) b) m S2), fun σ' H' z => ⟨m, Nat.lt_succ_self m, z⟩, w3, S3, r3, ?_⟩
          simp only at h2
          cases q2 : evSs (T.cfg n) b S3 with
          | nx S4 => rw [q2] at h2; exact fun w4 σ4 H4 x4 r4 => ⟨w4, S4, r4, (g2.trans x3.g).trans x4, h2⟩
          | ct S4 => rw [q2] at h2; exact fun w4 σ4 H4 x4 r4 => ⟨w4, S4, r4, (g2.trans x3.g).trans x4, h2⟩
          | bk S4 => rw [q2] at h2; exact fun w4 σ4 H4 x4 r4 => h2 w4 σ4 H4 ((g2.trans x3.g).trans x4) r4
          | rt d fr S4 => rw [q2] at h2; exact fun v w4 σ4 H4 x4 r4 => h2 v w4 σ4 H4 ((g2.trans x3.g).trans x4) r4
          | _ => rw [q2] at h2; exact h2.elim
        | false =>
          rw [if_neg Bool.false_ne_true]
          exact h2 w3 σ H3 (g2.trans x3.g) r3
      | _ => rw [q] at h2; exact h2.elim
theorem ss_for (g : Gf T n N sc X) {t : Tg} {it : It} {b : Ss} {te ie : Expr} {eb : List Stmt} {pos : Pos} (ht : chkTg N sc (fun _ => true) t te = true) (hi : PI X te ie (TIc X.K e (T.cfg n) it)) (hb : PSs X eb (TSsc X.K e (T.cfg n) b)) (hs : ∀ x, foldedSetIterable ie X.env x = pure x) :
    PS X (.For te ie eb [] pos) (TSc X.K e (T.cfg n) (.for t it b)) :=
  imS (ps_for g.own g.calm hi (pg_tgt g.toGd (fn := fun _ => true) (fun x _ => g.fn x) ht) hb hs) fun De σ H ⟨w, S, r, h⟩ => by
    rw [evS] at h
    refine ⟨w, S, r, ?_⟩
    cases q : evIt (T.cfg n) it S with
    | ok ds S1 =>
      rw [q] at h
      intro w1 H1 J gd x1 r1 sv hgd _
      generalize hf : forStep t (evSs (T.cfg n) b) = f at h
      have h : PostS X.K e w De (forL f ds S1) := h
      refine ⟨fun i m σ H => ∃ w2 S2, Rel X.K e w2 S2 σ H ∧ Sub w.G w2.G ∧ gd w2.G ∧ i ≤ ds.length ∧ m = ds.length - i ∧ PostS X.K e w De (forL f (ds.drop i) S2), ⟨_, w1, S1, r1, x1.g, hgd, Nat.zero_le _, rfl, h⟩, ?_⟩
      rintro i m σ2 H2 ⟨w2, S2, r2, g2, gd2, hid, rfl, h2⟩
      by_cases hlt : i < ds.length
      · right
        have hd1 : ds[i]? = some ds[i] := List.getElem?_eq_getElem hlt
        obtain ⟨go, yl⟩ := sv.item i w2 S2 _ H2 _ r2 gd2 hd1
        refine ⟨go, fun σ' H' => ∃ w3 S3, Rel X.K e w3 S3 σ' H' ∧ Sub w.G w3.G ∧ gd w3.G ∧ PostS X.K e w De (forL f (ds.drop (i + 1)) S3), fun σ' H' ⟨w3, S3, a, b, c, d⟩ => ⟨ds.length - (i + 1), by omega, w3, S3, a, b, c, hlt, rfl, d⟩, fun x H' y => ?_⟩
        obtain ⟨w3, x3, r3, o3, rp3⟩ := yl x H' y
        rw [show ds.drop i = ds[i] :: ds.drop (i + 1) from List.drop_eq_getElem_cons hlt, forL] at h2
        cases qa : asg t ds[i] S2 with
        | none =>
          have hx : f ds[i] S2 = .stuck := by rw [← hf]; simp only [forStep, qa]
          rw [hx] at h2; exact h2.elim
        | some S3 =>
          have hx : f ds[i] S2 = evSs (T.cfg n) b S3 := by rw [← hf]; simp only [forStep, qa]
          rw [hx] at h2
          refine tgt_ok r3 rp3 qa fun σ4 w4 g4 _ _ r4 _ _ => ⟨w4, S3, r4, ?_⟩
          have g24 : Sub w.G w4.G := by rw [g4]; exact g2.trans x3.g
          have gd4 : gd w4.G := by rw [g4]; exact sv.mono _ _ x3.g gd2
          cases qb : evSs (T.cfg n) b S3 with
          | nx S5 => rw [qb] at h2; exact fun w5 σ5 H5 x5 r5 => ⟨w5, S5, r5, g24.trans x5, sv.mono _ _ x5 gd4, h2⟩
          | ct S5 => rw [qb] at h2; exact fun w5 σ5 H5 x5 r5 => ⟨w5, S5, r5, g24.trans x5, sv.mono _ _ x5 gd4, h2⟩
          | bk S5 => rw [qb] at h2; exact fun w5 σ5 H5 x5 r5 => h2 w5 σ5 H5 (g24.trans x5) r5
          | rt d fr S5 => rw [qb] at h2; exact fun v w5 σ5 H5 x5 r5 => h2 v w5 σ5 H5 (g24.trans x5) r5
          | _ => rw [qb] at h2; exact h2.elim
      · left
        have e1 : i = ds.length := by omega
        subst e1
        rw [List.drop_length, forL] at h2
        exact ⟨sv.stop _ w2 S2 _ H2 r2 gd2 (Nat.le_refl _), h2 w2 σ2 H2 g2 r2⟩
    | _ => rw [q] at h; exact h
theorem ss_nil : PSs X [] (TSsc X.K e (T.cfg n) .nil) := imSs pss_nil fun De σ H ⟨w, S, r, h⟩ => by
  rw [evSs] at h
  exact h w σ H (Sub.refl _) r
theorem ss_cons {a : S} {r : Ss} {s : Stmt} {ss : List Stmt} (h1 : PS X s (TSc X.K e (T.cfg n) a)) (h2 : PSs X ss (TSsc X.K e (T.cfg n) r)) : PSs X (s :: ss) (TSsc X.K e (T.cfg n) (.cons a r)) :=
  imSs (pss_cons h1 h2) fun De σ H ⟨w, S, rl, h⟩ => by
    rw [evSs] at h
    refine ⟨w, S, rl, ?_⟩
    cases q : evS (T.cfg n) a S with
    | nx S1 => rw [q] at h; exact fun w1 σ1 H1 x1 r1 => ⟨w1, S1, r1, PostS.ext x1 h⟩
    | _ => rw [q] at h; exact h
theorem sw_false (g : Gf T n N sc X) {v : Expr} {y : Str} {py : Pos} {l : Nat} (h : swB v y py sc = some false) : swapsWith v (some (.Name y py)) l X.env = pure false := by
  have hk : X.env.scope.kind = .function := by rw [g.hsc]; exact g.kind
  have hb : X.env.blockKind = .function := by unfold Env.blockKind; rw [hk]; rfl
  cases v <;> first
    | rfl
    | (simp [swB] at h; done)
    | skip
  rename_i elt gs scope pos
  simp only [swB, Option.some.injEq] at h
  unfold swapsWith
  simp only [hb, Expr.pos]
  show pure (_) = pure false
  congr 1
  rw [← h]
  have e1 : (X.env.kindOf y == some NameKind.local) = decide (sc.names.lookup y = some .local) := by
    unfold Env.kindOf
    rw [g.hsc]
    cases List.lookup y sc.names with
    | none => rfl
    | some k => cases k <;> rfl
  rw [e1]
  rfl
theorem ss_setLc (g : Gf T n N sc X) {i : Nat} {y : Str} {py spos pos : Pos} {elt : C} {t : Tg} {it : It} {cd : Oc} {ee te ie : Expr} {ifs : List Expr} {scope : Scope} (hi : chkN N sc (fun _ => true) i y = true) (hsw : swB (.ListComp ee [⟨te, ie, ifs, 0⟩] scope pos) y py sc = some true)
    (hb : blkC N sc scope (ownOf N t) = true) (hit : PI X te ie (TIc X.K e (T.cfg n) it)) (hs : ∀ x, foldedSetIterable ie X.env x = pure x)
    (hg : ∀ (s : Shared) (H : Hp) (C : Addr) (cl : List (Str × Addr)) (fp : List Addr), PG (X.blk s H scope (compEnvC scope cl C X.env) fp) te (gTgt X.K t))
    (hd : ∀ (s : Shared) (H : Hp) (C : Addr) (cl : List (Str × Addr)) (fp : List Addr), PTs (X.blk s H scope (compEnvC scope cl C X.env) fp) ifs (TDc X.K e (T.cfg n) cd))
    (he : ∀ (s : Shared) (H : Hp) (C : Addr) (cl : List (Str × Addr)) (fp : List Addr), PE (X.blk s H scope (compEnvC scope cl C X.env) fp) ee (TEc X.K e (T.cfg n) elt)) :
    PS X (.Assign [.Name y py] (.ListComp ee [⟨te, ie, ifs, 0⟩] scope pos) spos) (TSc X.K e (T.cfg n) (.set i (.lc elt t it cd))) := by
  simp only [swB, Option.some.injEq, Bool.and_eq_true, decide_eq_true_eq, Bool.not_eq_true'] at hsw
  obtain ⟨⟨h1, h2⟩, h3⟩ := hsw
  have hk : X.env.scope.kind = .function := by rw [g.hsc]; exact g.kind
  refine imS (ps_setLc (i := i) g.calm (by rw [g.hN]; exact g.nd) (chkN_loc g hi).1 (by rw [g.hsc]; exact h1) (sw_true hk (by rw [g.hsc]; exact h1) h2 h3) hit (own := ownOf N t) (by rw [g.hN, g.hsc]; exact blkOk_by hb) hg hd he hs) fun De σ H h => ss_setv g (fun z => lc_imp z) h
theorem ss_setC (g : Gf T n N sc X) {i : Nat} {c : C} {y : Str} {py pos : Pos} {v : Expr} (hi : chkN N sc (fun _ => true) i y = true) (hv : chkE N c sc v = true) (hsw : (swB v y py sc).isSome = true) : PS X (.Assign [.Name y py] v pos) (TSc X.K e (T.cfg n) (.set i c)) := by
  cases q : swB v y py sc with
  | none => rw [q] at hsw; cases hsw
  | some b =>
    cases b with
    | false => exact ss_set g hi (sw_false g q) (allC c g.toGd hv).1
    | true =>
      cases v <;> first
        | (simp [swB] at q; done)
        | skip
      rename_i ee gens scope pos2
      cases c <;> first
        | (simp [chkE] at hv; done)
        | skip
      rename_i elt t it cd
      match gens, hv, q with
      | [⟨te, ie, ifs, as⟩], hv, q =>
        simp only [chkE, Bool.and_eq_true, decide_eq_true_eq] at hv
        obtain ⟨⟨⟨⟨⟨rfl, h1⟩, h2⟩, h3⟩, h4⟩, h5⟩ := hv
        exact ss_setLc g hi q h1 (allI it g.toGd h3) (noSetI h3 _) (fun s H C cl fp => pg_tgt (g.toGd.blk scope s H C cl fp) (fun x hx => hx) h2) (fun s H C cl fp => allD cd (g.toGd.blk scope s H C cl fp) h5) (fun s H C cl fp => (allC elt (g.toGd.blk scope s H C cl fp) h4).1)
      | [], hv, _ => simp [chkE] at hv
      | _ :: _ :: _, hv, _ => simp [chkE] at hv
theorem asgSub {c : C} {ei : Expr} (h : chkE N c sc ei = true) (o : Expr) (sp : Pos) (env : Env) : ∀ u, assign (.Subscript o ei sp) env u = (do
      let ov ← holding [u] (eval o env)
      let iv ← holding [u, ov] (eval ei env)
      standAt sp
      holding [u, ov, iv] (setItem ov iv u)
      release [u, ov, iv] []) := by
  intro u
  cases ei <;> first
    | rfl
    | (cases c <;> simp [chkE] at h)
mutual
theorem allS : ∀ (c : S) {st : Stmt}, Gf T n N sc X → chkS N sc c st = true → PS X st (TSc X.K e (T.cfg n) c)
  | .set i c, st, g, h => by
    cases st <;> first
      | (simp [chkS] at h; done)
      | skip
    rename_i ts v pos
    match ts, h with
    | [tx], h =>
      cases tx <;> first
        | (simp [chkS] at h; done)
        | skip
      simp only [chkS, Bool.and_eq_true] at h
      exact ss_setC g h.1.1 h.1.2 h.2
    | [], h => simp [chkS] at h
    | _ :: _ :: _, h => simp [chkS] at h
  | .unp is c, st, g, h => by
    cases st <;> first
      | (simp [chkS] at h; done)
      | skip
    rename_i ts v pos
    match ts, h with
    | [tx], h =>
      cases tx <;> first
        | (simp [chkS] at h; done)
        | skip
      simp only [chkS, Bool.and_eq_true] at h
      exact ss_unp g h.1.1.1 h.1.2 h.2 (allC c g.toGd h.1.1.2).1
    | [], h => simp [chkS] at h
    | _ :: _ :: _, h => simp [chkS] at h
  | .sidx i ix c, st, g, h => by
    cases st <;> first
      | (simp [chkS] at h; done)
      | skip
    rename_i ts v pos
    match ts, h with
    | [tx], h =>
      cases tx <;> first
        | (simp [chkS] at h; done)
        | skip
      rename_i o ei sp
      cases o <;> first
        | (simp [chkS] at h; done)
        | skip
      simp only [chkS, Bool.and_eq_true, decide_eq_true_eq] at h
      obtain ⟨⟨⟨⟨h1, h2⟩, h3⟩, h4⟩, h5⟩ := h
      exact ss_sidx g h1 h2 h3 (noSlice h4) (allC ix g.toGd h4).1 (allC c g.toGd h5).1 (asgSub h4 _ _ _)
    | [], h => simp [chkS] at h
    | _ :: _ :: _, h => simp [chkS] at h
  | .aug i op c, st, g, h => by
    cases st <;> first
      | (simp [chkS] at h; done)
      | skip
    rename_i tx op' v pos
    cases tx <;> first
      | (simp [chkS] at h; done)
      | skip
    simp only [chkS, Bool.and_eq_true, decide_eq_true_eq] at h
    obtain ⟨⟨⟨h1, rfl⟩, h3⟩, h4⟩ := h
    exact ss_aug g h1 h3 (allC c g.toGd h4).1
  | .app i c, st, g, h => by
    cases st <;> first
      | (simp [chkS] at h; done)
      | skip
    rename_i v pos
    cases v <;> first
      | (simp [chkS] at h; done)
      | skip
    rename_i fe es ks cp
    cases fe <;> first
      | (simp [chkS] at h; done)
      | skip
    rename_i o m ap
    cases o <;> first
      | (simp [chkS] at h; done)
      | skip
    match es, h with
    | [ex], h =>
      simp only [chkS, Bool.and_eq_true, decide_eq_true_eq, List.isEmpty_iff] at h
      obtain ⟨⟨⟨⟨⟨⟨h1, h2⟩, h3⟩, rfl⟩, rfl⟩, h6⟩, h7⟩ := h
      exact ss_app g h1 h2 h3 h6 (noStar h7) (allC c g.toGd h7).1
    | [], h => simp [chkS] at h
    | _ :: _ :: _, h => simp [chkS] at h
  | .pop i, st, g, h => by
    cases st <;> first
      | (simp [chkS] at h; done)
      | skip
    rename_i v pos
    cases v <;> first
      | (simp [chkS] at h; done)
      | skip
    rename_i fe es ks cp
    cases fe <;> first
      | (simp [chkS] at h; done)
      | skip
    rename_i o m ap
    cases o <;> first
      | (simp [chkS] at h; done)
      | skip
    simp only [chkS, Bool.and_eq_true, decide_eq_true_eq, List.isEmpty_iff] at h
    obtain ⟨⟨⟨⟨⟨⟨h1, h2⟩, h3⟩, rfl⟩, rfl⟩, h6⟩, rfl⟩ := h
    exact ss_pop g h1 h2 h3 h6
  | .ex c, st, g, h => by
    cases st <;> first
      | (simp [chkS] at h; done)
      | skip
    rename_i v pos
    simp only [chkS, Bool.and_eq_true] at h
    exact ss_ex (by
      have h2 := h.2
      cases v <;> first
        | rfl
        | cases h2) (allC c g.toGd h.1).1
  | .ret c, st, g, h => by
    cases st <;> first
      | (simp [chkS] at h; done)
      | skip
    rename_i v pos
    cases v with
    | none => simp [chkS] at h
    | some v =>
      simp only [chkS] at h
      exact ss_ret (allC c g.toGd h).1
  | .retv i, st, g, h => by
    cases st <;> first
      | (simp [chkS] at h; done)
      | skip
    rename_i v pos
    cases v with
    | none => simp [chkS] at h
    | some v =>
      cases v <;> first
        | (simp [chkS] at h; done)
        | skip
      simp only [chkS, Bool.and_eq_true, decide_eq_true_eq] at h
      exact ss_retv g h.1.1 h.1.2 h.2
  | .retN, st, g, h => by
    cases st <;> first
      | (simp [chkS] at h; done)
      | skip
    rename_i v pos
    cases v with
    | some v => simp [chkS] at h
    | none =>
      refine imS ps_retN fun De σ H ⟨w, S, r, h⟩ => ?_
      rw [evS] at h
      exact h .non w σ H (Sub.refl _) r .non
  | .ite c a b, st, g, h => by
    cases st <;> first
      | (simp [chkS] at h; done)
      | skip
    simp only [chkS, Bool.and_eq_true] at h
    exact ss_ite (allC c g.toGd h.1.1).2 (allSs a g h.1.2) (allSs b g h.2)
  | .for t it b, st, g, h => by
    cases st <;> first
      | (simp [chkS] at h; done)
      | skip
    simp only [chkS, Bool.and_eq_true, List.isEmpty_iff] at h
    obtain ⟨⟨⟨h1, h2⟩, h3⟩, rfl⟩ := h
    exact ss_for g h1 (allI it g.toGd h2) (allSs b g h3) (noSetI h2 _)
  | .whl c b, st, g, h => by
    cases st <;> first
      | (simp [chkS] at h; done)
      | skip
    simp only [chkS, Bool.and_eq_true, List.isEmpty_iff] at h
    obtain ⟨⟨h1, h2⟩, rfl⟩ := h
    exact ss_whl g (allC c g.toGd h1).2 (allSs b g h2)
  | .pas, st, g, h => by
    cases st <;> first
      | (simp [chkS] at h; done)
      | skip
    refine imS ps_pass fun De σ H ⟨w, S, r, h⟩ => ?_
    rw [evS] at h
    exact h w σ H (Sub.refl _) r
  | .cont, st, g, h => by
    cases st <;> first
      | (simp [chkS] at h; done)
      | skip
    refine imS ps_continue fun De σ H ⟨w, S, r, h⟩ => ?_
    rw [evS] at h
    exact h w σ H (Sub.refl _) r
  | .brk, st, g, h => by
    cases st <;> first
      | (simp [chkS] at h; done)
      | skip
    refine imS ps_break fun De σ H ⟨w, S, r, h⟩ => ?_
    rw [evS] at h
    exact h w σ H (Sub.refl _) r
theorem allSs : ∀ (c : Ss) {sts : List Stmt}, Gf T n N sc X → chkSs N sc c sts = true → PSs X sts (TSsc X.K e (T.cfg n) c)
  | .nil, sts, g, h => by
    cases sts with
    | nil => exact ss_nil
    | cons a b => simp [chkSs] at h
  | .cons a r, sts, g, h => by
    cases sts with
    | nil => simp [chkSs] at h
    | cons s ss =>
      simp only [chkSs, Bool.and_eq_true] at h
      exact ss_cons (allS a g h.1) (allSs r g h.2)
end
end
end RR

namespace RR
open PySem L2

/-- a def's text is its code -/
def chkF (fn : Fn) (ps : List Str) (st : Stmt) : Bool := C8.scC fn.N ps (defScope st) && decide (ps.length = fn.ps) && chkSs fn.N (defScope st) fn.body (defBody st)
/-- a value of the module -/
def kD (K : PySem.W.Frag) : Nat → D → Value → Bool
  | _, .non, .none => true
  | _, .bl a, .bool b => decide (a = b)
  | _, .int a, .int b _ => decide (a = b)
  | _, .str a, .str b _ => decide (a = b)
  | n + 1, .tup ds, .ref p => match K.lookup p with
    | some ⟨c, _, .seq its _, _⟩ => decide (c = .type "tuple") && decide (its.size ≤ LINE) && decide (ds.length = its.size) && (ds.zip its.toList).all fun q => kD K n q.1 q.2
    | _ => false
  | n + 1, .lst ds, .ref p => match K.lookup p with
    | some ⟨c, none, .seq its _, _⟩ => decide (c = .type "list") && decide (its.size ≤ LINE) && decide (ds.length = its.size) && (ds.zip its.toList).all fun q => kD K n q.1 q.2
    | _ => false
  | _, _, _ => false
section
variable {K : PySem.W.Frag} {G : Hp}
theorem kDs_rep {n : Nat} (ih : ∀ (d : D) (u : Value), kD K n d u = true → ∃ v, RelV v u ∧ Rep K G d v) : ∀ (ds : List D) (us : List Value), ds.length = us.length → ((ds.zip us).all fun q => kD K n q.1 q.2) = true → ∃ vs, Vals vs us ∧ Reps K G ds vs
  | [], [], _, _ => ⟨[], .nil, .nil⟩
  | [], _ :: _, h, _ => by simp at h
  | _ :: _, [], h, _ => by simp at h
  | d :: ds, u :: us, h, z => by
    simp only [List.zip_cons_cons, List.all_cons, Bool.and_eq_true] at z
    obtain ⟨v, h1, h2⟩ := ih d u z.1
    obtain ⟨vs, h3, h4⟩ := kDs_rep ih ds us (by simpa using h) z.2
    exact ⟨v :: vs, .cons h1 h3, .cons h2 h4⟩
theorem kD_rep : ∀ (n : Nat) (d : D) (u : Value), kD K n d u = true → ∃ v, RelV v u ∧ Rep K G d v := by
  intro n
  induction n with
  | zero =>
    intro d u h
    cases d <;> cases u <;> first
      | (simp [kD] at h; done)
      | skip
    · exact ⟨.non, rfl, .non⟩
    · simp only [kD, decide_eq_true_eq] at h; subst h; exact ⟨.bl _, rfl, .bl _⟩
    · simp only [kD, decide_eq_true_eq] at h; subst h; exact ⟨.int _, ⟨_, rfl⟩, .int _⟩
    · simp only [kD, decide_eq_true_eq] at h; subst h; exact ⟨.str _, ⟨_, rfl⟩, .str _⟩
  | succ n ih =>
    intro d u h
    cases d <;> cases u <;> first
      | (simp [kD] at h; done)
      | skip
    · exact ⟨.non, rfl, .non⟩
    · simp only [kD, decide_eq_true_eq] at h; subst h; exact ⟨.bl _, rfl, .bl _⟩
    · simp only [kD, decide_eq_true_eq] at h; subst h; exact ⟨.int _, ⟨_, rfl⟩, .int _⟩
    · simp only [kD, decide_eq_true_eq] at h; subst h; exact ⟨.str _, ⟨_, rfl⟩, .str _⟩
    · rename_i ds p
      rw [kD] at h
      split at h
      · rename_i c dd its m sl hk
        simp only [Bool.and_eq_true, decide_eq_true_eq] at h
        obtain ⟨⟨⟨rfl, h1⟩, h2⟩, h3⟩ := h
        obtain ⟨vs, h4, h5⟩ := kDs_rep ih ds its.toList (by simpa using h2) h3
        exact ⟨.ref p, rfl, .tup (.inr ⟨_, its, m, hk, rfl, rfl, by rw [← line_eq]; exact h1, h4⟩) h5⟩
      · cases h
    · rename_i ds p
      rw [kD] at h
      split at h
      · rename_i c its m sl hk
        simp only [Bool.and_eq_true, decide_eq_true_eq] at h
        obtain ⟨⟨⟨rfl, h1⟩, h2⟩, h3⟩ := h
        obtain ⟨vs, h4, h5⟩ := kDs_rep ih ds its.toList (by simpa using h2) h3
        exact ⟨.ref p, rfl, .lst (.inr ⟨_, its, m, hk, rfl, rfl, rfl, by rw [← line_eq]; exact h1, h4⟩) h5⟩
      · cases h
end

/-- a def of the table stands in the module -/
structure DefAt (K : PySem.W.Frag) (mg : Str → Option Value) (f : Str) (fn : Fn) (st : Stmt) (a : Addr) (fd : FuncData) (ps : List Str) : Prop where
  text : L2.Fun K f f st a fd
  at_ : mg f = some (.ref a)
  bind : Binds K fd ps []
  chk : chkF fn ps st = true
/-- the module holds the table -/
structure Mdl (T : Tb) (K : PySem.W.Frag) (mg : Str → Option Value) : Prop where
  defs : ∀ f fn, T.fn f = some fn → ∃ st a fd ps, DefAt K mg f fn st a fd ps
  glob : ∀ x d, T.glob x = some d → ∃ u, mg x = some u ∧ kD K 9 d u = true
  blt : ∀ x, x ∈ bltNames → mg x = none

section
variable {T : Tb} {P : Program} {w : World} {K : PySem.W.Frag} {mg : Str → Option Value} {base : Heap}
theorem start_rel {G H : Hp} {ds : List D} {vs : List V} {N : List Str} (s : Sub G H) (r : Reps K G ds vs) : Rel K ⟨G, H⟩ ⟨G, fun _ => none⟩ ⟨ds.map .val ++ List.replicate (N.length - ds.length) .un⟩ (L2.start N vs) H where
  gH := s
  gω := fun _ _ _ => rfl
  len := by simp [L2.start, r.length]
  val := fun i d q => by
    by_cases hi : i < ds.length
    · rw [List.getElem?_append_left (by simpa using hi), List.getElem?_map] at q
      cases q2 : ds[i]? with
      | none => rw [q2] at q; cases q
      | some d' =>
        rw [q2] at q
        cases q
        obtain ⟨v, h1, h2⟩ := r.get q2
        refine ⟨v, ?_, h2⟩
        unfold L2.start
        rw [List.getElem?_append_left (by rw [List.length_map, ← r.length]; exact hi), List.getElem?_map, h1]
        rfl
    · rw [List.getElem?_append_right (by simpa using hi), List.getElem?_replicate] at q
      split at q <;> cases q
  own := fun i d q => by
    by_cases hi : i < ds.length
    · rw [List.getElem?_append_left (by simpa using hi), List.getElem?_map] at q
      cases q2 : ds[i]? with
      | none => rw [q2] at q; cases q
      | some d' => rw [q2] at q; cases q
    · rw [List.getElem?_append_right (by simpa using hi), List.getElem?_replicate] at q
      split at q <;> cases q
  owned := fun b i q => by cases q
  e0H := Sub.refl _
  e0G := Sub.refl _
  eNew := fun b o q => .inl q
  eω := fun b i q => by cases q
theorem fns_ok (M : Mdl T K mg) : ∀ (n : Nat) (f : Str) (fn : Fn) (st : Stmt) (a : Addr) (fd : FuncData) (ps : List Str), T.fn f = some fn → DefAt K mg f fn st a fd ps → FnOk P w K mg base CX0 n a fd ps (spF K T n f fn.ps)
  | 0, f, fn, st, a, fd, ps, hf, d => by
    have no : ∀ vs H Q E, ¬ spF K T 0 f fn.ps vs H Q E := fun vs H Q E ⟨G, ds, _, _, _, h⟩ => h
    exact ⟨fun vs H Q E h => absurd h (no vs H Q E), fun A outer s H args us vs Q E _ _ _ _ h => absurd h (no vs H Q E)⟩
  | n + 1, f, fn, st, a, fd, ps, hf, d => by
    have ck := d.chk
    simp only [chkF, Bool.and_eq_true, decide_eq_true_eq] at ck
    obtain ⟨⟨c1, c2⟩, c3⟩ := ck
    have S := C8.fnScope_by c1
    refine d.text.ok S (fun vs H Q E h => ?_) (fun cdv A outer s H vs Q E hr h => ?_)
    · obtain ⟨G, ds, _, r, hl, _⟩ := h
      rw [← r.length, hl, c2]
    · obtain ⟨G, ds, s1, r, hl, h⟩ := h
      have gf : Gf T n fn.N (defScope st) (cxOf CX0 P w K mg base fn.N f (defScope st) a cdv A outer s H E).nox := {
        hN := rfl
        nd := S.nd
        hsc := rfl
        calm := rfl
        room := hr
        glob := fun x d' hx => by
          obtain ⟨u, e1, e2⟩ := M.glob x d' hx
          obtain ⟨v, e3, e4⟩ := kD_rep (G := fun _ => none) 9 d' u e2
          exact ⟨u, v, e1, e3, e4⟩
        blt := M.blt
        call := fun g gn hg => by
          obtain ⟨st2, a2, fd2, ps2, d2⟩ := M.defs g gn hg
          have ck := d2.chk
          simp only [chkF, Bool.and_eq_true, decide_eq_true_eq] at ck
          exact ⟨a2, fd2, ps2, d2.at_, d2.text.kp, d2.bind, ck.1.2, fns_ok M n g gn st2 a2 fd2 ps2 hg d2⟩
        fn := fun _ => rfl
        own := PassesOwn.never
        kind := S.kind }
      refine ⟨_, allSs (e := ⟨G, H⟩) fn.body gf c3, ⟨G, fun _ => none⟩, ⟨ds.map Sl.val ++ List.replicate (fn.N.length - ds.length) Sl.un⟩, start_rel (N := fn.N) s1 r, ?_⟩
      rw [callF, hf] at h
      simp only [runF, hl, if_true] at h
      rw [hl]
      cases q : evSs (T.cfg n) fn.body ⟨ds.map Sl.val ++ List.replicate (fn.N.length - fn.ps) Sl.un⟩ with
      | nx S' =>
        rw [q] at h
        exact fun w' σ' H' y r' => h .non H' w'.G r'.e0H y r'.gH r'.eNew .non
      | rt d' fr S' =>
        rw [q] at h
        intro v w' σ' H' y r' z
        refine h v H' w'.G r'.e0H y r'.gH r'.eNew ?_
        cases fr with
        | false => exact z
        | true =>
          obtain ⟨p, o, z1, z2, z3, z4, z5, z6⟩ := z
          exact ⟨p, o, z1, z2, z3, z6, z4⟩
      | _ => rw [q] at h; exact h.elim
end
/-- what law(script) promises -/
theorem law_sp {T : Tb} {K : PySem.W.Frag} {n : Nat} {f : Str} {H : Hp} {a : Addr} {ns : List Int} (hS : SqL K H a (ns.map V.int)) (hc : callF T n f [.lst (ns.map .int)] = .ok (.bl true) false) :
    spF K T n f 1 [.ref a] H (fun v _ => v = .bl true) fun _ _ _ => False := by
  refine ⟨H, [.lst (ns.map .int)], Sub.refl _, .cons (.lst hS (Reps.ofInts ns)) .nil, rfl, ?_⟩
  rw [hc]
  intro v H' G' _ _ _ _ h
  exact h.blE
theorem walk {T : Tb} {l : PySem.W.OpenLaw} {q : Program} {loose : List Str} {XP : (Str → Option Value) → Heap → Prop} {YP : World → Heap → Prop} {d : DefRec} {K : Params → PySem.W.Frag} {k : Nat} {x : Str} {fn : Fn} (hT : T.fn d.name = some fn) (hp : fn.ps = 1) (hn : l.most = some 63) (hdf : d.params.defaults = []) (hr : Room k callerA)
    (hY : ∀ (w : World) (h : Heap), YP w h → (K w.params).In h)
    (hm : ∀ (w : World) (mg : Str → Option Value) (fa : Addr) (h : Heap), (K w.params).In h → h.Ns mainGlobals mg → mg d.name = some (.ref fa) → Mdl T (K w.params) mg ∧ ∃ st fd, DefAt (K w.params) mg d.name fn st fa fd [x] ∧ ∀ (s : Shared) (u : Value), BindsTo s fd ⟨[u], []⟩ [(x, u)])
    (hl : ∀ ns : List Int, ns.length ≤ 63 → callF T k d.name [.lst (ns.map .int)] = .ok (.bl true) false) :
    PySem.W.WalkO q loose XP YP l.row.toRowW d [] (fun f vs => PySem.call f vs) :=
  L2.walk_of (n := 63) (k := k) (x := x) (CX := fun _ => CX0) (sp := fun w => spF (K w.params) T k d.name 1) hn (by decide) hdf hr hY (fun w mg fa h KX G hmg => by
    obtain ⟨M, st, fd, D1, b⟩ := hm w mg fa h KX G hmg
    refine ⟨fd, b, fun base _ _ => ?_⟩
    have := fns_ok (P := l.prog) (w := w) (base := base) M k d.name fn st fa fd [x] hT D1
    rw [hp] at this
    exact this) (fun w H a ns h1 _ hS => law_sp hS (hl ns h1)) fun _ _ _ _ _ z => z
end RR

namespace RR
open PySem L2
theorem callF_succ {T : Tb} {n : Nat} {f : Str} {fn : Fn} {as : List D} (h : T.fn f = some fn) : callF T (n + 1) f as = runF (T.cfg n) fn as := by
  rw [callF, h]
section
variable {x y : D} {fr : Bool} {s : RS} {e : Exn} {ds : List D} {b : Bool}
@[simp] theorem ob1 {k : D → RS → Out} : (Out.ok x fr s).bnd k = k x s := rfl
@[simp] theorem ob2 {k : D → RS → OutB} : (Out.ok x fr s).bndB k = k x s := rfl
@[simp] theorem ob3 {k : D → RS → OutL} : (Out.ok x fr s).bndL k = k x s := rfl
@[simp] theorem ob4 {k : D → Bool → RS → SO} : (Out.ok x fr s).bndS k = k x fr s := rfl
@[simp] theorem ob5 {k : D → RS → OutO} : (Out.ok x fr s).bndO k = k x s := rfl
@[simp] theorem ol1 {k : List D → RS → Out} : (OutL.ok ds s).bnd k = k ds s := rfl
@[simp] theorem ol2 {k : List D → RS → OutL} : (OutL.ok ds s).bndL k = k ds s := rfl
@[simp] theorem ol3 {k : List D → RS → SO} : (OutL.ok ds s).bndS k = k ds s := rfl
@[simp] theorem oz1 {k : Bool → RS → Out} : (OutB.ok b s).bnd k = k b s := rfl
@[simp] theorem oz2 {k : Bool → RS → OutB} : (OutB.ok b s).bndB k = k b s := rfl
@[simp] theorem oz3 {k : Bool → RS → SO} : (OutB.ok b s).bndS k = k b s := rfl
@[simp] theorem oz4 {k : Bool → RS → OutO} : (OutB.ok b s).bndO k = k b s := rfl
@[simp] theorem st1 {k : RS → SO} : (SO.nx s).thn k = k s := rfl
@[simp] theorem st2 {k : RS → SO} : (SO.rt x fr s).thn k = .rt x fr s := rfl
@[simp] theorem st3 {k : RS → SO} : (SO.bk s).thn k = .bk s := rfl
@[simp] theorem st4 {k : RS → SO} : (SO.ct s).thn k = .ct s := rfl
end
section
variable (a b : Int) (p q : Bool) (z1 z2 : Str) (xs ys : List D) (s : RS) (x y : D)
@[simp] theorem pu1 (d : D) (fr : Bool) : pur s (some (d, fr)) = .ok d fr s := rfl
@[simp] theorem pu2 : pur s none = .stuck := rfl
@[simp] theorem bd1 : binD .Add (.int a) (.int b) = some (.int (a + b), false) := rfl
@[simp] theorem bd2 : binD .Sub (.int a) (.int b) = some (.int (a - b), false) := rfl
@[simp] theorem bd3 : binD .Mult (.int a) (.int b) = if mulOk a b then some (.int (a * b), false) else none := rfl
theorem log_fits (h0 : 0 < b) (h1 : b < 18446744073709551616) : b.natAbs.log2 < 9000 := by
  have h2 : b.natAbs < 2 ^ 64 := by omega
  have h3 : b.natAbs ≠ 0 := by omega
  have := (Nat.log2_lt h3).mpr h2
  omega
@[simp] theorem bd4 (h0 : 0 < b) (h1 : b < 18446744073709551616) : binD .FloorDiv (.int a) (.int b) = some (.int (a / b), false) := by
  simp only [binD]
  rw [if_pos (by rw [decide_eq_true_eq]; exact ⟨h0, log_fits b h0 h1⟩)]
@[simp] theorem bd5 : binD .Mod (.int a) (.int b) = if 0 < b then some (.int (a % b), false) else if b ≠ 0 then some (.int (a.fmod b), false) else none := rfl
@[simp] theorem bd6 : binD .Pow (.int a) (.int b) = if powOk a b then some (.int (a ^ b.toNat), false) else none := rfl
@[simp] theorem bd7 : binD .LShift (.int a) (.int b) = if powOk a b then some (.int (a * 2 ^ b.toNat), false) else none := rfl
@[simp] theorem bd8 : binD .RShift (.int a) (.int b) = if 0 ≤ b then some (.int (a / 2 ^ b.toNat), false) else none := rfl
@[simp] theorem bd9 : binD .BitAnd (.int a) (.int b) = some (.int (Builtin.bitAnd a b), false) := rfl
@[simp] theorem bd10 : binD .BitOr (.int a) (.int b) = some (.int (Builtin.bitOr a b), false) := rfl
@[simp] theorem bd11 : binD .Add (.lst xs) (.lst ys) = if xs.length + ys.length ≤ LINE then some (.lst (xs ++ ys), true) else none := rfl
@[simp] theorem bd12 : binD .Add (.tup xs) (.tup ys) = if xs.length + ys.length ≤ LINE then some (.tup (xs ++ ys), false) else none := rfl
@[simp] theorem bd13 : binD .Add (.str z1) (.str z2) = if z1.length + z2.length ≤ LINE then some (.str (z1 ++ z2), false) else none := rfl
@[simp] theorem bd14 : binD .Mult (.lst xs) (.int a) = if decide (-(2 ^ 63) ≤ a ∧ a < 2 ^ 63) && decide (xs.length * a.toNat ≤ LINE) then some (.lst (List.replicate a.toNat xs).flatten, true) else none := rfl
@[simp] theorem cm1 : cmpD .Lt (.int a) (.int b) = some (decide (a < b)) := rfl
@[simp] theorem cm2 : cmpD .LtE (.int a) (.int b) = some (decide (a ≤ b)) := rfl
@[simp] theorem cm3 : cmpD .Gt (.int a) (.int b) = some (decide (b < a)) := rfl
@[simp] theorem cm4 : cmpD .GtE (.int a) (.int b) = some (decide (b ≤ a)) := rfl
@[simp] theorem cm5 : cmpD .Eq x y = eqD x y := rfl
@[simp] theorem cm6 : cmpD .NotEq x y = (eqD x y).map (!·) := rfl
@[simp] theorem cm7 : cmpD .In x y = inD x y := rfl
@[simp] theorem cm8 : cmpD .NotIn x y = (inD x y).map (!·) := rfl
@[simp] theorem cm9 : cmpD .Is .non .non = some true := rfl
@[simp] theorem cm10 : cmpD .IsNot .non .non = some false := rfl
@[simp] theorem cm11 : cmpD .Is (.int a) .non = some false := rfl
@[simp] theorem cm12 : cmpD .IsNot (.int a) .non = some true := rfl
@[simp] theorem cm13 : cmpD .Is (.lst xs) .non = some false := rfl
@[simp] theorem cm14 : cmpD .IsNot (.lst xs) .non = some true := rfl
@[simp] theorem cm15 : cmpD .Is (.tup xs) .non = some false := rfl
@[simp] theorem cm16 : cmpD .IsNot (.tup xs) .non = some true := rfl
@[simp] theorem cm17 : cmpD .Is (.bl p) .non = some false := rfl
@[simp] theorem cm18 : cmpD .IsNot (.bl p) .non = some true := rfl
@[simp] theorem cm19 : cmpD .Is (.str z1) .non = some false := rfl
@[simp] theorem cm20 : cmpD .IsNot (.str z1) .non = some true := rfl
@[simp] theorem cm21 : cmpD .Is (.bl p) (.bl q) = some (decide (p = q)) := rfl
@[simp] theorem cm22 : cmpD .IsNot (.bl p) (.bl q) = some (!decide (p = q)) := rfl
@[simp] theorem eq1 : eqD (.int a) (.int b) = some (decide (a = b)) := rfl
@[simp] theorem eq2 : eqD (.bl p) (.bl q) = some (decide (p = q)) := rfl
@[simp] theorem eq3 : eqD (.str z1) (.str z2) = some (decide (z1 = z2)) := rfl
@[simp] theorem eq4 : eqD .non .non = some true := rfl
@[simp] theorem eq5 : eqD .non (.int a) = some false := rfl
@[simp] theorem eq6 : eqD (.int a) .non = some false := rfl
@[simp] theorem eq7 : eqD .non (.str z1) = some false := rfl
@[simp] theorem eq8 : eqD (.str z1) .non = some false := rfl
@[simp] theorem bl1 : blB (.bl p) s = .ok p s := rfl
@[simp] theorem tb1 : truB (.bl p) s = .ok p s := rfl
@[simp] theorem tb2 : truB (.int a) s = .ok (decide (a ≠ 0)) s := rfl
@[simp] theorem tb3 : truB (.lst xs) s = .ok (!xs.isEmpty) s := rfl
@[simp] theorem tb4 : truB (.tup xs) s = .ok (!xs.isEmpty) s := rfl
@[simp] theorem tb5 : truB .non s = .ok false s := rfl
@[simp] theorem ix1 : idxD (.lst xs) (.int a) = (atI xs a).map fun d => (d, false) := rfl
@[simp] theorem ix2 : idxD (.tup xs) (.int a) = (atI xs a).map fun d => (d, false) := rfl
@[simp] theorem sc1 (lo hi : Option Int) : slcD (.lst xs) lo hi = some (.lst (cutL xs lo hi), true) := rfl
@[simp] theorem sc2 (lo hi : Option Int) : slcD (.tup xs) lo hi = some (.tup (cutL xs lo hi), false) := rfl
@[simp] theorem oi1 : oiD .non = some none := rfl
@[simp] theorem oi2 : oiD (.int a) = some (some a) := rfl
@[simp] theorem sq1 : seqD (.lst xs) = some xs := rfl
@[simp] theorem sq2 : seqD (.tup xs) = some xs := rfl
@[simp] theorem io1 : iok (some xs) s = .ok xs s := rfl
@[simp] theorem so1 : slOf x false = .val x := rfl
@[simp] theorem so2 : slOf (.lst xs) true = .own (.lst xs) := rfl
theorem nei {u v : String} (h : decide ((u : Str) = (v : Str)) = false) : ¬ (u : Str) = (v : Str) := of_decide_eq_false h
@[simp] theorem is1 : isiD "int" (.int a) = some true := by unfold isiD; rw [if_pos rfl]
@[simp] theorem is2 : isiD "int" (.bl p) = some true := by unfold isiD; rw [if_pos rfl]
@[simp] theorem is3 : isiD "int" (.lst xs) = some false := by unfold isiD; rw [if_pos rfl]
@[simp] theorem is4 : isiD "int" (.tup xs) = some false := by unfold isiD; rw [if_pos rfl]
@[simp] theorem is5 : isiD "int" .non = some false := by unfold isiD; rw [if_pos rfl]
@[simp] theorem is6 : isiD "int" (.str z1) = some false := by unfold isiD; rw [if_pos rfl]
@[simp] theorem is11 : isiD "bool" (.int a) = some false := by unfold isiD; rw [if_neg (nei (by decide +kernel)), if_pos rfl]
@[simp] theorem is12 : isiD "bool" (.bl p) = some true := by unfold isiD; rw [if_neg (nei (by decide +kernel)), if_pos rfl]
@[simp] theorem is13 : isiD "bool" (.lst xs) = some false := by unfold isiD; rw [if_neg (nei (by decide +kernel)), if_pos rfl]
@[simp] theorem is14 : isiD "bool" (.tup xs) = some false := by unfold isiD; rw [if_neg (nei (by decide +kernel)), if_pos rfl]
@[simp] theorem is15 : isiD "bool" .non = some false := by unfold isiD; rw [if_neg (nei (by decide +kernel)), if_pos rfl]
@[simp] theorem is16 : isiD "bool" (.str z1) = some false := by unfold isiD; rw [if_neg (nei (by decide +kernel)), if_pos rfl]
@[simp] theorem is21 : isiD "tuple" (.int a) = some false := by unfold isiD; rw [if_neg (nei (by decide +kernel)), if_neg (nei (by decide +kernel)), if_neg (nei (by decide +kernel)), if_pos rfl]
@[simp] theorem is22 : isiD "tuple" (.bl p) = some false := by unfold isiD; rw [if_neg (nei (by decide +kernel)), if_neg (nei (by decide +kernel)), if_neg (nei (by decide +kernel)), if_pos rfl]
@[simp] theorem is23 : isiD "tuple" (.lst xs) = some false := by unfold isiD; rw [if_neg (nei (by decide +kernel)), if_neg (nei (by decide +kernel)), if_neg (nei (by decide +kernel)), if_pos rfl]
@[simp] theorem is24 : isiD "tuple" (.tup xs) = some true := by unfold isiD; rw [if_neg (nei (by decide +kernel)), if_neg (nei (by decide +kernel)), if_neg (nei (by decide +kernel)), if_pos rfl]
@[simp] theorem is25 : isiD "tuple" .non = some false := by unfold isiD; rw [if_neg (nei (by decide +kernel)), if_neg (nei (by decide +kernel)), if_neg (nei (by decide +kernel)), if_pos rfl]
@[simp] theorem is26 : isiD "tuple" (.str z1) = some false := by unfold isiD; rw [if_neg (nei (by decide +kernel)), if_neg (nei (by decide +kernel)), if_neg (nei (by decide +kernel)), if_pos rfl]
@[simp] theorem is31 : isiD "list" (.int a) = some false := by unfold isiD; rw [if_neg (nei (by decide +kernel)), if_neg (nei (by decide +kernel)), if_neg (nei (by decide +kernel)), if_neg (nei (by decide +kernel)), if_pos rfl]
@[simp] theorem is32 : isiD "list" (.bl p) = some false := by unfold isiD; rw [if_neg (nei (by decide +kernel)), if_neg (nei (by decide +kernel)), if_neg (nei (by decide +kernel)), if_neg (nei (by decide +kernel)), if_pos rfl]
@[simp] theorem is33 : isiD "list" (.lst xs) = some true := by unfold isiD; rw [if_neg (nei (by decide +kernel)), if_neg (nei (by decide +kernel)), if_neg (nei (by decide +kernel)), if_neg (nei (by decide +kernel)), if_pos rfl]
@[simp] theorem is34 : isiD "list" (.tup xs) = some false := by unfold isiD; rw [if_neg (nei (by decide +kernel)), if_neg (nei (by decide +kernel)), if_neg (nei (by decide +kernel)), if_neg (nei (by decide +kernel)), if_pos rfl]
@[simp] theorem is35 : isiD "list" .non = some false := by unfold isiD; rw [if_neg (nei (by decide +kernel)), if_neg (nei (by decide +kernel)), if_neg (nei (by decide +kernel)), if_neg (nei (by decide +kernel)), if_pos rfl]
@[simp] theorem is36 : isiD "list" (.str z1) = some false := by unfold isiD; rw [if_neg (nei (by decide +kernel)), if_neg (nei (by decide +kernel)), if_neg (nei (by decide +kernel)), if_neg (nei (by decide +kernel)), if_pos rfl]
@[simp] theorem bi1 : biD "len" [.lst xs] = some (.int xs.length, false) := by unfold biD; rw [if_pos rfl]
@[simp] theorem bi2 : biD "len" [.tup xs] = some (.int xs.length, false) := by unfold biD; rw [if_pos rfl]
@[simp] theorem bi3 : biD "list" [.lst xs] = some (.lst xs, true) := by unfold biD; rw [if_neg (nei (by decide +kernel)), if_pos rfl]
@[simp] theorem bi4 : biD "list" [.tup xs] = some (.lst xs, true) := by unfold biD; rw [if_neg (nei (by decide +kernel)), if_pos rfl]
@[simp] theorem bi5 : biD "tuple" [.lst xs] = some (.tup xs, false) := by unfold biD; rw [if_neg (nei (by decide +kernel)), if_neg (nei (by decide +kernel)), if_pos rfl]
@[simp] theorem bi6 : biD "tuple" [.tup xs] = some (.tup xs, false) := by unfold biD; rw [if_neg (nei (by decide +kernel)), if_neg (nei (by decide +kernel)), if_pos rfl]
@[simp] theorem bi7 : biD "max" [.int a, .int b] = some (.int (if b > a then b else a), false) := by unfold biD; rw [if_neg (nei (by decide +kernel)), if_neg (nei (by decide +kernel)), if_neg (nei (by decide +kernel)), if_neg (nei (by decide +kernel)), if_pos rfl]
@[simp] theorem bi8 : biD "min" [.int a, .int b] = some (.int (if b < a then b else a), false) := by unfold biD; rw [if_neg (nei (by decide +kernel)), if_neg (nei (by decide +kernel)), if_neg (nei (by decide +kernel)), if_neg (nei (by decide +kernel)), if_neg (nei (by decide +kernel)), if_pos rfl]
@[simp] theorem bi9 : biD "all" [.lst xs] = (allBl xs).map fun bs => (.bl (bs.all id), false) := by unfold biD; rw [if_neg (nei (by decide +kernel)), if_neg (nei (by decide +kernel)), if_neg (nei (by decide +kernel)), if_neg (nei (by decide +kernel)), if_neg (nei (by decide +kernel)), if_neg (nei (by decide +kernel)), if_pos rfl]
@[simp] theorem bi10 : biD "sum" [.lst xs] = (allInt xs).map fun bs => (.int bs.sum, false) := by unfold biD; rw [if_neg (nei (by decide +kernel)), if_neg (nei (by decide +kernel)), if_neg (nei (by decide +kernel)), if_neg (nei (by decide +kernel)), if_neg (nei (by decide +kernel)), if_neg (nei (by decide +kernel)), if_neg (nei (by decide +kernel)), if_pos rfl]
@[simp] theorem bi11 : biD "int" [.int a] = some (.int a, false) := by unfold biD; rw [if_neg (nei (by decide +kernel)), if_neg (nei (by decide +kernel)), if_neg (nei (by decide +kernel)), if_pos rfl]
@[simp] theorem bi12 : biD "int" [.bl p] = some (.int (if p then 1 else 0), false) := by unfold biD; rw [if_neg (nei (by decide +kernel)), if_neg (nei (by decide +kernel)), if_neg (nei (by decide +kernel)), if_pos rfl]
end
theorem fdivI (a b : Int) (h : 0 < b) : a.fdiv b = a / b := Int.fdiv_eq_ediv_of_nonneg a (Int.le_of_lt h)
/-- a for loop by an invariant -/
theorem forL_inv {f : D → RS → SO} (I : Nat → RS → Prop) : ∀ (ds : List D) (k : Nat) (s : RS), I k s → (∀ i d s, ds[i]? = some d → I (k + i) s → (∃ s', (f d s = .nx s' ∨ f d s = .ct s') ∧ I (k + i + 1) s')) → ∃ s', forL f ds s = .nx s' ∧ I (k + ds.length) s'
  | [], k, s, h0, _ => ⟨s, rfl, h0⟩
  | d :: ds, k, s, h0, hs => by
    obtain ⟨s1, e1, h1⟩ := hs 0 d s rfl h0
    obtain ⟨s2, e2, h2⟩ := forL_inv I ds (k + 1) s1 h1 fun i d' s hd hi => by
      have := hs (i + 1) d' s (by simpa using hd)
      rw [show k + (i + 1) = k + 1 + i by omega] at this
      exact this hi
    refine ⟨s2, ?_, by rw [List.length_cons, show k + (ds.length + 1) = k + 1 + ds.length by omega]; exact h2⟩
    rw [forL]
    rcases e1 with e1 | e1 <;> rw [e1] <;> exact e2
/-- the ints of a script -/
theorem atI_ints {ns : List Int} {k : Int} (h0 : 0 ≤ k) (h1 : k < ns.length) : ∃ z, atI (ns.map D.int) k = some (.int z) := by
  obtain ⟨j, rfl⟩ : ∃ j : Nat, k = (j : Int) := ⟨k.toNat, by omega⟩
  have hj : j < ns.length := by omega
  exact ⟨ns[j], atI_nat (by rw [List.getElem?_map, List.getElem?_eq_getElem hj]; rfl)⟩
theorem cut_ints (ns : List Int) (lo hi : Option Int) : cutL (ns.map D.int) lo hi = (cutL ns lo hi).map D.int := by
  unfold cutL
  rw [List.length_map, List.map_take, List.map_drop]
theorem rng_lit (m : Nat) (h : m ≤ LINE) : rngD [.int (m : Int)] = some ((List.range m).map fun (k : Nat) => .int (k : Int)) := by
  simp only [rngD]
  rw [if_pos (by simp only [decide_eq_true_eq, LINE] at *; omega)]
  simp
theorem log_lt {i : Int} {k : Nat} (h0 : 0 < k) (h : i.natAbs < 2 ^ k) : i.natAbs.log2 < k := by
  by_cases h2 : i.natAbs = 0
  · rw [h2]; simpa using h0
  · exact (Nat.log2_lt h2).mpr h
theorem mul_ok {i j : Int} (h1 : i.natAbs < 2 ^ 1000) (h2 : j.natAbs < 2 ^ 1000) : mulOk i j = true := by
  unfold mulOk
  have a := log_lt (by decide) h1
  have b := log_lt (by decide) h2
  rw [Bool.or_eq_true, Bool.or_eq_true]
  exact .inr (by rw [decide_eq_true_eq]; omega)
@[simp] theorem mul_r {i j : Int} (h1 : -18446744073709551616 < j) (h2 : j < 18446744073709551616) : mulOk i j = true := by
  unfold mulOk
  rw [Bool.or_eq_true, Bool.or_eq_true]
  exact .inl (.inr (by rw [decide_eq_true_eq]; omega))
@[simp] theorem mul_l {i j : Int} (h1 : -18446744073709551616 < i) (h2 : i < 18446744073709551616) : mulOk i j = true := by
  unfold mulOk
  rw [Bool.or_eq_true, Bool.or_eq_true]
  exact .inl (.inl (by rw [decide_eq_true_eq]; omega))
theorem cut_len (ns : List Int) (m : Nat) : (cutL ns none (some (m : Int))).length ≤ m := by
  unfold cutL
  rw [List.length_take]
  have : HT.sIx ns.length ns.length (some (m : Int)) - HT.sIx ns.length 0 none ≤ m := by
    simp only [HT.sIx]
    split <;> simp <;> omega
  omega
end RR

namespace RR
open PySem L2
mutual
/-- data that == may look into: of some depth, whole texts -/
def okD : Nat → D → Bool
  | _, .non => true
  | _, .bl _ => true
  | _, .int _ => true
  | _, .str z => PyData.strOk z
  | n + 1, .tup xs => okDs n xs
  | n + 1, .lst xs => okDs n xs
  | _, _ => false
def okDs : Nat → List D → Bool
  | _, [] => true
  | n, x :: xs => okD n x && okDs n xs
end
mutual
theorem okD_lay : ∀ (d : D) (n : Nat), okD n d = true → d.pd.canLay0 = true ∧ d.pd.depth ≤ n ∧ PyData.eqv d.pd d.pd = true
  | .non, n, h => ⟨rfl, by simp [D.pd, PyData.depth], by simp [D.pd, PyData.eqv]⟩
  | .bl b, n, h => ⟨rfl, by simp [D.pd, PyData.depth], by simp [D.pd, PyData.eqv]⟩
  | .int i, n, h => ⟨rfl, by simp [D.pd, PyData.depth], by simp [D.pd, PyData.eqv]⟩
  | .str z, n, h => ⟨by simpa [D.pd, PyData.canLay0, okD] using h, by simp [D.pd, PyData.depth], by simp [D.pd, PyData.eqv]⟩
  | .tup xs, 0, h => by simp [okD] at h
  | .lst xs, 0, h => by simp [okD] at h
  | .tup xs, n + 1, h => by
    obtain ⟨a, b, c⟩ := okDs_lay xs n (by simpa [okD] using h)
    exact ⟨by simpa [D.pd, PyData.canLay0] using a, by simp [D.pd, PyData.depth]; exact b, by simpa [D.pd, PyData.eqv] using c⟩
  | .lst xs, n + 1, h => by
    obtain ⟨a, b, c⟩ := okDs_lay xs n (by simpa [okD] using h)
    exact ⟨by simpa [D.pd, PyData.canLay0] using a, by simp [D.pd, PyData.depth]; exact b, by simpa [D.pd, PyData.eqv] using c⟩
  | .dic _, n, h => by cases n <;> simp [okD] at h
  | .obj _, n, h => by cases n <;> simp [okD] at h
theorem okDs_lay : ∀ (ds : List D) (n : Nat), okDs n ds = true → PyData.canLayAll0 (pds ds) = true ∧ PyData.depthAll (pds ds) ≤ n ∧ PyData.eqvAll (pds ds) (pds ds) = true
  | [], n, h => ⟨rfl, by simp [pds, PyData.depthAll], by simp [pds, PyData.eqvAll]⟩
  | d :: ds, n, h => by
    simp only [okDs, Bool.and_eq_true] at h
    obtain ⟨a, b, c⟩ := okD_lay d n h.1
    obtain ⟨a2, b2, c2⟩ := okDs_lay ds n h.2
    refine ⟨by simp [pds, PyData.canLayAll0, a, a2], ?_, by simp [pds, PyData.eqvAll, c, c2]⟩
    simp only [pds, PyData.depthAll]
    exact Nat.max_le.mpr ⟨b, b2⟩
end
theorem okD_shaped {d : D} {n : Nat} (hn : n ≤ 64) (h : okD n d = true) : SeqAt.shaped d.pd = true := by
  obtain ⟨a, b, _⟩ := okD_lay d n h
  unfold SeqAt.shaped
  rw [a, Bool.true_and, decide_eq_true_eq]
  omega
theorem okDs_all {n : Nat} : ∀ {xs : List D}, (∀ x ∈ xs, okD n x = true) → okDs n xs = true
  | [], _ => rfl
  | x :: xs, h => by rw [okDs, h x List.mem_cons_self, okDs_all fun y hy => h y (List.mem_cons_of_mem _ hy)]; rfl
theorem okDs_mem {n : Nat} : ∀ {xs : List D}, okDs n xs = true → ∀ x ∈ xs, okD n x = true
  | x :: xs, h, y, hy => by
    rw [okDs, Bool.and_eq_true] at h
    rcases List.mem_cons.mp hy with z | z
    · rw [z]; exact h.1
    · exact okDs_mem h.2 y z
/-- a list is itself -/
theorem eqL_self {xs : List D} {n : Nat} (hn : n < 64) (h : okDs n xs = true) : eqD (.lst xs) (.lst xs) = some true := by
  have o : okD (n + 1) (.lst xs) = true := by rw [okD]; exact h
  have s := okD_shaped (by omega) o
  show (if SeqAt.shaped (D.lst xs).pd && SeqAt.shaped (D.lst xs).pd then some (PyData.eqv (D.lst xs).pd (D.lst xs).pd) else none) = _
  rw [s, (okD_lay _ _ o).2.2]
  rfl
theorem eqT_self {xs : List D} {n : Nat} (hn : n < 64) (h : okDs n xs = true) : eqD (.tup xs) (.tup xs) = some true := by
  have o : okD (n + 1) (.tup xs) = true := by rw [okD]; exact h
  have s := okD_shaped (by omega) o
  show (if SeqAt.shaped (D.tup xs).pd && SeqAt.shaped (D.tup xs).pd then some (PyData.eqv (D.tup xs).pd (D.tup xs).pd) else none) = _
  rw [s, (okD_lay _ _ o).2.2]
  rfl
/-- x in [ints] -/
theorem in_ints (x : Int) (ns : List Nat) : inD (.int x) (.lst (ns.map fun (k : Nat) => D.int (k : Int))) = some (ns.any fun k => (k : Int) == x) := by
  have a : (ns.map fun (k : Nat) => D.int (k : Int)).all D.flat = true := by
    rw [List.all_eq_true]
    intro d hd
    obtain ⟨k, _, rfl⟩ := List.mem_map.mp hd
    rfl
  show (if (D.int x).flat && (ns.map fun (k : Nat) => D.int (k : Int)).all D.flat then some ((ns.map fun (k : Nat) => D.int (k : Int)).any fun z => PyData.eqv z.pd (D.int x).pd) else _) = _
  rw [a]
  show some _ = some _
  rw [List.any_map]
  congr 1
theorem atI_map {α : Type} {f : α → D} {xs : List α} {k : Int} {x : α} (h0 : 0 ≤ k) (h : xs[k.toNat]? = some x) : atI (xs.map f) k = some (f x) := by
  obtain ⟨j, rfl⟩ : ∃ j : Nat, k = (j : Int) := ⟨k.toNat, by omega⟩
  rw [Int.toNat_natCast] at h
  exact atI_nat (by rw [List.getElem?_map, h]; rfl)
theorem atI_mapN {α : Type} {f : α → D} {xs : List α} {k : Nat} {x : α} (h : xs[k]? = some x) : atI (xs.map f) (k : Int) = some (f x) := atI_map (by omega) (by simpa using h)
theorem rng_up {a b : Int} (h0 : 0 ≤ a) (h1 : b - a ≤ 1000000) (h2 : b ≤ 1000000) (h3 : -1000000 ≤ b) (h4 : a ≤ 1000000) : rngD [.int a, .int b] = some ((List.range (b - a).toNat).map fun (k : Nat) => .int (a + (k : Int))) := by
  simp only [rngD]
  rw [if_pos (by simp only [decide_eq_true_eq, LINE]; omega)]
theorem rng_n {b : Int} (h2 : b ≤ 1000000) (h3 : -1000000 ≤ b) : rngD [.int b] = some ((List.range b.toNat).map fun (k : Nat) => .int (k : Int)) := by
  simp only [rngD]
  rw [if_pos (by simp only [decide_eq_true_eq, LINE]; omega)]
  simp
/-- a loop over lo, lo + 1, .. -/
theorem for_count {f : D → RS → SO} (I : Nat → RS → Prop) (lo : Int) : ∀ (m k : Nat) (s : RS), I k s → (∀ i s, i < k + m → k ≤ i → I i s → ∃ s', f (.int (lo + (i : Int))) s = .nx s' ∧ I (i + 1) s') → ∃ s', forL f ((List.range' k m).map fun (j : Nat) => .int (lo + (j : Int))) s = .nx s' ∧ I (k + m) s'
  | 0, k, s, h0, _ => ⟨s, rfl, h0⟩
  | m + 1, k, s, h0, hs => by
    obtain ⟨s1, e1, h1⟩ := hs k s (by omega) (Nat.le_refl _) h0
    obtain ⟨s2, e2, h2⟩ := for_count I lo m (k + 1) s1 h1 fun i s a b c => hs i s (by omega) (by omega) c
    refine ⟨s2, ?_, by rw [show k + (m + 1) = k + 1 + m by omega]; exact h2⟩
    rw [List.range'_succ, List.map_cons, forL, e1]
    exact e2
theorem for_range {f : D → RS → SO} (I : Nat → RS → Prop) (lo : Int) (m : Nat) (s : RS) (h0 : I 0 s) (hs : ∀ i s, i < m → I i s → ∃ s', f (.int (lo + (i : Int))) s = .nx s' ∧ I (i + 1) s') : ∃ s', forL f ((List.range m).map fun (j : Nat) => .int (lo + (j : Int))) s = .nx s' ∧ I m s' := by
  rw [List.range_eq_range']
  obtain ⟨s', e, h⟩ := for_count I lo m 0 s h0 fun i s a _ c => hs i s (by omega) c
  exact ⟨s', e, by rw [Nat.zero_add] at h; exact h⟩
theorem for_upto {f : D → RS → SO} (I : Nat → RS → Prop) (m : Nat) (s : RS) (h0 : I 0 s) (hs : ∀ i s, i < m → I i s → ∃ s', f (.int (i : Int)) s = .nx s' ∧ I (i + 1) s') : ∃ s', forL f ((List.range m).map fun (j : Nat) => .int (j : Int)) s = .nx s' ∧ I m s' := by
  obtain ⟨s', e, h⟩ := for_range I 0 m s h0 fun i s a c => by simpa using hs i s a c
  exact ⟨s', by simpa using e, h⟩
/-- a comprehension: every item gives a value -/
theorem lc_map {f : D → RS → OutO} {α : Type} (g : α → D) (v : α → D) (s : RS) : ∀ (xs : List α) (acc : List D), (∀ x ∈ xs, f (g x) s = .ok (some (v x)) s) → lcL f (xs.map g) acc s = .ok (acc ++ xs.map v) s
  | [], acc, _ => by simp [lcL]
  | x :: xs, acc, h => by
    rw [List.map_cons, lcL, h x List.mem_cons_self]
    simp only
    rw [lc_map g v s xs (acc ++ [v x]) fun y hy => h y (List.mem_cons_of_mem _ hy)]
    simp
theorem lc_ex {f : D → RS → OutO} {α : Type} (g : α → D) (P : D → Prop) (s : RS) : ∀ (xs : List α) (acc : List D), (∀ x ∈ xs, ∃ v, f (g x) s = .ok (some v) s ∧ P v) → ∃ vs, lcL f (xs.map g) acc s = .ok (acc ++ vs) s ∧ vs.length = xs.length ∧ ∀ v ∈ vs, P v
  | [], acc, _ => ⟨[], by simp [lcL], rfl, fun v h => by cases h⟩
  | x :: xs, acc, h => by
    obtain ⟨v, e, p⟩ := h x List.mem_cons_self
    obtain ⟨vs, e2, l2, p2⟩ := lc_ex g P s xs (acc ++ [v]) fun y hy => h y (List.mem_cons_of_mem _ hy)
    refine ⟨v :: vs, ?_, by simp [l2], fun u hu => ?_⟩
    · rw [List.map_cons, lcL, e]
      simp only
      rw [e2]
      simp
    · rcases List.mem_cons.mp hu with z | z
      · rw [z]; exact p
      · exact p2 u z
end RR

namespace RR
open PySem L2
def ct0is_under : C := (.cmp .IsNot (.pk 1) .non)
def cb1is_under : Ss := (.cons (.ite (.cmp .Eq (.pk 1) (.pk 2)) (.cons (.ret (.bl true)) .nil) .nil) (.cons (.set 1 (.idx (.idx (.pk 0) (.var 1)) (.int 0))) .nil))
def cis_under : Fn := ⟨3, ["makes", "c", "other"],
  (.cons (.whl ct0is_under cb1is_under) (.cons (.ret (.bl false)) .nil))⟩
def c_law_draw : Fn := ⟨2, ["_law_script", "_law_k", "_law_cell", "_law_other"],
  (.cons (.set 2 (.bin .Mult (.int 40503) (.pk 1))) (.cons (.ite (.cmp .Lt (.pk 1) (.bi "len" (.cons (.pk 0) .nil))) (.cons (.set 2 (.idx (.pk 0) (.var 1))) .nil) (.cons (.ite (.cmp .Gt (.bi "len" (.cons (.pk 0) .nil)) (.int 0)) (.cons (.set 3 (.idx (.pk 0) (.bin .Mod (.bin .Add (.bin .Mult (.int 3) (.pk 1)) (.int 1)) (.bi "len" (.cons (.pk 0) .nil))))) (.cons (.set 2 (.bin .Add (.bin .Add (.pk 2) (.idx (.pk 0) (.bin .Mod (.pk 1) (.bi "len" (.cons (.pk 0) .nil))))) (.bin .Mult (.int 31) (.bin .Mod (.pk 3) (.int 1000033))))) .nil)) .nil) .nil)) (.cons (.ret (.bin .Mod (.bin .Add (.bin .Mult (.pk 2) (.int 6364136223846793005)) (.bin .Mult (.int 1442695040888963407) (.pk 1))) (.int 2305843009213693951))) .nil)))⟩
def c_law_kind : Fn := ⟨2, ["_law_cell", "_law_sizes", "_law_c"],
  (.cons (.set 2 (.bin .Mod (.bin .FloorDiv (.pk 0) (.int 4)) (.bi "len" (.cons (.pk 1) .nil)))) (.cons (.ite (.cmp .Eq (.bin .Mod (.pk 0) (.int 4)) (.int 0)) (.cons (.ret (.tup (.cons (.str "any") .nil))) .nil) .nil) (.cons (.ite (.cmp .Eq (.bin .Mod (.pk 0) (.int 4)) (.int 1)) (.cons (.ret (.tup (.cons (.str "number") .nil))) .nil) .nil) (.cons (.ite (.cmp .Eq (.bin .Mod (.pk 0) (.int 4)) (.int 2)) (.cons (.ret (.tup (.cons (.str "whole") (.cons (.var 2) .nil)))) .nil) .nil) (.cons (.ret (.tup (.cons (.str "raw") (.cons (.var 2) (.cons (.bin .Mod (.bin .FloorDiv (.pk 0) (.int 32)) (.bin .LShift (.int 1) (.idx (.pk 1) (.var 2)))) .nil))))) .nil)))))⟩
def cb0_law_makes : Ss := (.cons (.set 6 (.call "_law_draw" (.cons (.var 0) (.cons (.bin .Add (.pk 1) (.pk 4)) .nil)))) (.cons (.set 7 (.bin .Mod (.pk 6) (.pk 4))) (.cons (.ite (.cmp .Eq (.bin .Mod (.bin .FloorDiv (.call "_law_draw" (.cons (.var 0) (.cons (.var 1) .nil))) (.int 8)) (.int 3)) (.int 1)) (.cons (.set 7 (.bin .Sub (.pk 4) (.int 1))) .nil) .nil) (.cons (.app 2 (.tup (.cons (.var 7) (.cons (.bin .Mod (.bin .FloorDiv (.pk 6) (.int 8)) (.bin .Sub (.int 7) (.idx (.pk 3) (.var 7)))) .nil)))) (.cons (.app 3 (.bin .Add (.idx (.pk 3) (.var 7)) (.idx (.idx (.pk 2) (.var 4)) (.int 1)))) .nil)))))
def ce1_law_makes : C := (.call "_law_kind" (.cons (.call "_law_draw" (.cons (.var 0) (.cons (.bin .Add (.bin .Add (.bin .Add (.pk 1) (.int 8)) (.bin .Mult (.int 6) (.pk 4))) (.pk 9)) .nil))) (.cons (.pk 3) .nil)))
def cb2_law_makes : Ss := (.cons (.set 8 (.lc ce1_law_makes (.nm 9) (.rng (.cons (.idx (.idx (.pk 2) (.var 4)) (.int 1)) .nil)) .no)) (.cons (.app 5 (.tup (.cons (.idx (.idx (.pk 2) (.var 4)) (.int 0)) (.cons (.var 8) .nil)))) .nil))
def c_law_makes : Fn := ⟨2, ["_law_script", "_law_at", "_law_shapes", "_law_sizes", "_law_c", "_law_makes_here", "_law_cell", "_law_elder", "_law_own", "_law_k"],
  (.cons (.set 2 (.lst (.cons (.tup (.cons .non (.cons (.int 0) .nil))) .nil))) (.cons (.set 3 (.lst (.cons (.int 0) .nil))) (.cons (.for (.nm 4) (.rng (.cons (.int 1) (.cons (.bin .Add (.int 1) (.bin .Mod (.call "_law_draw" (.cons (.var 0) (.cons (.var 1) .nil))) (.int 8))) .nil))) cb0_law_makes) (.cons (.set 5 (.lst .nil)) (.cons (.for (.nm 4) (.rng (.cons (.bi "len" (.cons (.pk 2) .nil)) .nil)) cb2_law_makes) (.cons (.retv 5) .nil))))))⟩
def ct0_law_elders : C := (.cmp .IsNot (.pk 1) .non)
def cb1_law_elders : Ss := (.cons (.app 2 (.var 1)) (.cons (.set 1 (.idx (.idx (.pk 0) (.var 1)) (.int 0))) .nil))
def c_law_elders : Fn := ⟨2, ["_law_makes_here", "_law_c", "_law_found"],
  (.cons (.set 2 (.lst .nil)) (.cons (.whl ct0_law_elders cb1_law_elders) (.cons (.retv 2) .nil)))⟩
def ce0_law_copy : C := (.tup (.cons (.var 1) (.cons (.bi "list" (.cons (.pk 2) .nil)) .nil)))
def c_law_copy : Fn := ⟨1, ["_law_makes_here", "_law_elder", "_law_own"],
  (.cons (.ret (.lc ce0_law_copy (.tp [1, 2]) (.seq (.var 0)) .no)) .nil)⟩
def c_law_is : Fn := ⟨2, ["_law_found", "_law_due"],
  (.cons (.ite (.pk 1) (.cons (.ret (.cmp .Is (.pk 0) (.bl true))) .nil) .nil) (.cons (.ret (.cmp .Is (.pk 0) (.bl false))) .nil))⟩
@[simp] theorem at0 (x : D) (xs : List D) : atI (x :: xs) 0 = some x := atI_nat (j := 0) (by rfl)
@[simp] theorem at1 (x y : D) (xs : List D) : atI (x :: y :: xs) 1 = some y := atI_nat (j := 1) (by rfl)
@[simp] theorem at2 (x y z : D) (xs : List D) : atI (x :: y :: z :: xs) 2 = some z := atI_nat (j := 2) (by rfl)
@[simp] theorem at3 (x y z u : D) (xs : List D) : atI (x :: y :: z :: u :: xs) 3 = some u := atI_nat (j := 3) (by rfl)
def elD : Option Nat → D
  | none => .non
  | some j => .int (j : Int)
def mkD (m : Option Nat × List D) : D := .tup [elD m.1, .lst m.2]
abbrev Mks := List (Option Nat × List D)
def msD (ms : Mks) : D := .lst (ms.map mkD)
/-- the elder of a make stands before it -/
def WF (ms : Mks) : Prop := 0 < ms.length ∧ ms.length ≤ 8 ∧ ∀ (c : Nat) (m : Option Nat × List D), ms[c]? = some m → (c = 0 ∧ m.1 = none) ∨ ∃ j, m.1 = some j ∧ j < c
/-- a make and the makes above it -/
def eld (ms : Mks) : Nat → Nat → List Nat
  | 0, _ => []
  | f + 1, c => c :: (match ms[c]? with
    | some (some j, _) => eld ms f j
    | _ => [])
def elds (ms : Mks) (c : Nat) : List Nat := eld ms (c + 1) c
section
variable {T : Tb} {ms : Mks}
theorem WF.get (w : WF ms) {c : Nat} (h : c < ms.length) : ∃ m, ms[c]? = some m ∧ ((c = 0 ∧ m.1 = none) ∨ ∃ j, m.1 = some j ∧ j < c) := ⟨ms[c], List.getElem?_eq_getElem h, w.2.2 c _ (List.getElem?_eq_getElem h)⟩
theorem eld_fuel (w : WF ms) : ∀ (f c : Nat), c < f → c < ms.length → eld ms f c = elds ms c := by
  intro f
  induction f using Nat.strongRecOn with
  | ind f ih =>
    intro c hf hc
    obtain ⟨m, hm, h⟩ := w.get hc
    cases f with
    | zero => omega
    | succ f =>
      unfold elds
      rw [eld, eld, hm]
      obtain ⟨e, ks⟩ := m
      rcases h with ⟨rfl, h⟩ | ⟨j, h, hj⟩
      · simp only at h; subst h; rfl
      · simp only at h; subst h
        simp only
        rw [ih f (Nat.lt_succ_self f) j (by omega) (by omega)]
        by_cases hcf : c < f
        · rw [ih (c) (by omega) j hj (by omega)]
        · have : c = f := by omega
          subst this
          rw [ih c (by omega) j hj (by omega)]
theorem elds_eq (w : WF ms) {c : Nat} (hc : c < ms.length) : elds ms c = c :: (match ms[c]? with | some (some j, _) => elds ms j | _ => []) := by
  obtain ⟨m, hm, h⟩ := w.get hc
  unfold elds
  rw [eld, hm]
  obtain ⟨e, ks⟩ := m
  rcases h with ⟨rfl, h⟩ | ⟨j, h, hj⟩
  · simp only at h; subst h; rfl
  · simp only at h; subst h
    simp only
    rw [eld_fuel w c j hj (by omega)]
    rfl
theorem elds_zero (w : WF ms) : ∀ c : Nat, c < ms.length → 0 ∈ elds ms c := by
  intro c
  induction c using Nat.strongRecOn with
  | ind c ih =>
    intro hc
    rw [elds_eq w hc]
    obtain ⟨m, hm, h⟩ := w.get hc
    rw [hm]
    obtain ⟨e, ks⟩ := m
    rcases h with ⟨rfl, h⟩ | ⟨j, h, hj⟩
    · exact List.mem_cons_self
    · simp only at h; subst h
      exact List.mem_cons_of_mem _ (ih j hj (by omega))
theorem elds_lt (w : WF ms) : ∀ c : Nat, c < ms.length → ∀ k ∈ elds ms c, k ≤ c := by
  intro c
  induction c using Nat.strongRecOn with
  | ind c ih =>
    intro hc k hk
    rw [elds_eq w hc] at hk
    obtain ⟨m, hm, h⟩ := w.get hc
    rw [hm] at hk
    obtain ⟨e, ks⟩ := m
    rcases List.mem_cons.mp hk with z | z
    · omega
    · rcases h with ⟨rfl, h⟩ | ⟨j, h, hj⟩
      · simp only at h; subst h; cases z
      · simp only at h; subst h
        have := ih j hj (by omega) k z
        omega
theorem mk_at (h : Nat) {m : Option Nat × List D} (hm : ms[h]? = some m) : atI (ms.map mkD) (h : Int) = some (.tup [elD m.1, .lst m.2]) := atI_mapN hm
theorem under_t1 (Γ : Cfg) (x y : Sl) (c : Int) : evT Γ ct0is_under ⟨[x, .val (.int c), y]⟩ = .ok true ⟨[x, .val (.int c), y]⟩ := by simp [runF, evSs, evS, evE, evT, evOs, evCs, evOc, evOcT, evIt, evAnd, evOr, evTAnd, evTOr, pkO, peek, take, tru, valAt, ownAt, augS, appS, popS, setS, retS, D.noL, noLs, D.noLq, unpS, asg, Tg.ix, Cs.hasPk, D.flat, allBl, allInt, powOk, LINE, ct0is_under]
theorem under_t2 (Γ : Cfg) (x y : Sl) : evT Γ ct0is_under ⟨[x, .val .non, y]⟩ = .ok false ⟨[x, .val .non, y]⟩ := by simp [runF, evSs, evS, evE, evT, evOs, evCs, evOc, evOcT, evIt, evAnd, evOr, evTAnd, evTOr, pkO, peek, take, tru, valAt, ownAt, augS, appS, popS, setS, retS, D.noL, noLs, D.noLq, unpS, asg, Tg.ix, Cs.hasPk, D.flat, allBl, allInt, powOk, LINE, ct0is_under]
theorem under_b1 (Γ : Cfg) (x : Sl) (o : Int) : evSs Γ cb1is_under ⟨[x, .val (.int o), .val (.int o)]⟩ = .rt (.bl true) false ⟨[x, .val (.int o), .val (.int o)]⟩ := by simp [runF, evSs, evS, evE, evT, evOs, evCs, evOc, evOcT, evIt, evAnd, evOr, evTAnd, evTOr, pkO, peek, take, tru, valAt, ownAt, augS, appS, popS, setS, retS, D.noL, noLs, D.noLq, unpS, asg, Tg.ix, Cs.hasPk, D.flat, allBl, allInt, powOk, LINE, cb1is_under]
theorem under_b2 (Γ : Cfg) (c : Nat) (o : Int) (h : ¬ (c : Int) = o) {m : Option Nat × List D} (hm : ms[c]? = some m) : evSs Γ cb1is_under ⟨[.val (msD ms), .val (.int (c : Int)), .val (.int o)]⟩ = .nx ⟨[.val (msD ms), .val (elD m.1), .val (.int o)]⟩ := by
  simp [runF, evSs, evS, evE, evT, evOs, evCs, evOc, evOcT, evIt, evAnd, evOr, evTAnd, evTOr, pkO, peek, take, tru, valAt, ownAt, augS, appS, popS, setS, retS, D.noL, noLs, D.noLq, unpS, asg, Tg.ix, Cs.hasPk, D.flat, allBl, allInt, powOk, LINE, cb1is_under, h, msD, mk_at c hm]
theorem under_whl (Γ : Cfg) (w : WF ms) (o : Int) : ∀ (c : Nat), c < ms.length → ((elds ms c).any (fun k => (k : Int) == o) = true → ∃ s', whl (evT Γ ct0is_under) (evSs Γ cb1is_under) ⟨[.val (msD ms), .val (.int (c : Int)), .val (.int o)]⟩ = .rt (.bl true) false s') ∧
    ((elds ms c).any (fun k => (k : Int) == o) = false → ∃ s', whl (evT Γ ct0is_under) (evSs Γ cb1is_under) ⟨[.val (msD ms), .val (.int (c : Int)), .val (.int o)]⟩ = .nx s') := by
  intro c
  induction c using Nat.strongRecOn with
  | ind c ih =>
    intro hc
    obtain ⟨m, hm, h⟩ := w.get hc
    rw [elds_eq w hc, hm, whl_eq, under_t1]
    simp only
    by_cases ho : (c : Int) = o
    · subst ho
      rw [under_b1]
      simp
    · rw [under_b2 Γ c o ho hm]
      obtain ⟨e, ks⟩ := m
      simp only [List.any_cons]
      rw [show ((c : Int) == o) = false by simpa using ho, Bool.false_or]
      rcases h with ⟨rfl, h⟩ | ⟨j, h, hj⟩
      · simp only at h; subst h
        simp only [elD]
        rw [whl_eq, under_t2]
        simp
      · simp only at h; subst h
        simp only [elD]
        exact ih j hj (by omega)
theorem v_under (hf : T.fn "is_under" = some cis_under) (n : Nat) (w : WF ms) {c : Nat} (hc : c < ms.length) (o : Int) : callF T (n + 1) "is_under" [msD ms, .int (c : Int), .int o] = .ok (.bl ((elds ms c).any fun k => (k : Int) == o)) false := by
  rw [callF_succ hf]
  obtain ⟨h1, h2⟩ := under_whl (T.cfg n) w o c hc
  cases q : (elds ms c).any fun k => (k : Int) == o with
  | true =>
    obtain ⟨s', e⟩ := h1 q
    simp [runF, evSs, evS, evE, evT, evOs, evCs, evOc, evOcT, evIt, evAnd, evOr, evTAnd, evTOr, pkO, peek, take, tru, valAt, ownAt, augS, appS, popS, setS, retS, D.noL, noLs, D.noLq, unpS, asg, Tg.ix, Cs.hasPk, D.flat, allBl, allInt, powOk, LINE, cis_under, e]
  | false =>
    obtain ⟨s', e⟩ := h2 q
    simp [runF, evSs, evS, evE, evT, evOs, evCs, evOc, evOcT, evIt, evAnd, evOr, evTAnd, evTOr, pkO, peek, take, tru, valAt, ownAt, augS, appS, popS, setS, retS, D.noL, noLs, D.noLq, unpS, asg, Tg.ix, Cs.hasPk, D.flat, allBl, allInt, powOk, LINE, cis_under, e]
theorem elders_t1 (Γ : Cfg) (x y : Sl) (c : Int) : evT Γ ct0_law_elders ⟨[x, .val (.int c), y]⟩ = .ok true ⟨[x, .val (.int c), y]⟩ := by simp [runF, evSs, evS, evE, evT, evOs, evCs, evOc, evOcT, evIt, evAnd, evOr, evTAnd, evTOr, pkO, peek, take, tru, valAt, ownAt, augS, appS, popS, setS, retS, D.noL, noLs, D.noLq, unpS, asg, Tg.ix, Cs.hasPk, D.flat, allBl, allInt, powOk, LINE, ct0_law_elders]
theorem elders_t2 (Γ : Cfg) (x y : Sl) : evT Γ ct0_law_elders ⟨[x, .val .non, y]⟩ = .ok false ⟨[x, .val .non, y]⟩ := by simp [runF, evSs, evS, evE, evT, evOs, evCs, evOc, evOcT, evIt, evAnd, evOr, evTAnd, evTOr, pkO, peek, take, tru, valAt, ownAt, augS, appS, popS, setS, retS, D.noL, noLs, D.noLq, unpS, asg, Tg.ix, Cs.hasPk, D.flat, allBl, allInt, powOk, LINE, ct0_law_elders]
theorem elders_b (Γ : Cfg) (c : Nat) (acc : List D) (ha : acc.length < LINE) {m : Option Nat × List D} (hm : ms[c]? = some m) : evSs Γ cb1_law_elders ⟨[.val (msD ms), .val (.int (c : Int)), .own (.lst acc)]⟩ = .nx ⟨[.val (msD ms), .val (elD m.1), .own (.lst (acc ++ [.int (c : Int)]))]⟩ := by
  simp [runF, evSs, evS, evE, evT, evOs, evCs, evOc, evOcT, evIt, evAnd, evOr, evTAnd, evTOr, pkO, peek, take, tru, valAt, ownAt, augS, appS, popS, setS, retS, D.noL, noLs, D.noLq, unpS, asg, Tg.ix, Cs.hasPk, D.flat, allBl, allInt, powOk, LINE, cb1_law_elders, msD, mk_at c hm, ha]
theorem elders_whl (Γ : Cfg) (w : WF ms) : ∀ (c : Nat), c < ms.length → ∀ acc : List D, acc.length + c < 1000000 → whl (evT Γ ct0_law_elders) (evSs Γ cb1_law_elders) ⟨[.val (msD ms), .val (.int (c : Int)), .own (.lst acc)]⟩ = .nx ⟨[.val (msD ms), .val .non, .own (.lst (acc ++ (elds ms c).map fun (k : Nat) => .int (k : Int)))]⟩ := by
  intro c
  induction c using Nat.strongRecOn with
  | ind c ih =>
    intro hc acc ha
    obtain ⟨m, hm, h⟩ := w.get hc
    rw [elds_eq w hc, hm, whl_eq, elders_t1]
    simp only
    rw [elders_b Γ c acc (by simp only [LINE]; omega) hm]
    obtain ⟨e, ks⟩ := m
    simp only
    rcases h with ⟨rfl, h⟩ | ⟨j, h, hj⟩
    · simp only at h; subst h
      simp only [elD]
      rw [whl_eq, elders_t2]
      simp
    · simp only at h; subst h
      simp only [elD]
      rw [ih j hj (by omega) _ (by simp; omega)]
      simp
theorem v_elders (hf : T.fn "_law_elders" = some c_law_elders) (n : Nat) (w : WF ms) {c : Nat} (hc : c < ms.length) : callF T (n + 1) "_law_elders" [msD ms, .int (c : Int)] = .ok (.lst ((elds ms c).map fun (k : Nat) => .int (k : Int))) true := by
  rw [callF_succ hf]
  have e := elders_whl (T.cfg n) w c hc [] (by have := w.2.1; simp; omega)
  simp [runF, evSs, evS, evE, evT, evOs, evCs, evOc, evOcT, evIt, evAnd, evOr, evTAnd, evTOr, pkO, peek, take, tru, valAt, ownAt, augS, appS, popS, setS, retS, D.noL, noLs, D.noLq, unpS, asg, Tg.ix, Cs.hasPk, D.flat, allBl, allInt, powOk, LINE, c_law_elders, e]
theorem v_copy (hf : T.fn "_law_copy" = some c_law_copy) (n : Nat) (hl : ms.length ≤ 1000) : callF T (n + 1) "_law_copy" [msD ms] = .ok (msD ms) true := by
  rw [callF_succ hf]
  have e := lc_map (f := lcStep (.tp [1, 2]) (evOcT (T.cfg n) .no) (evE (T.cfg n) ce0_law_copy)) mkD mkD ⟨[.val (msD ms), .un, .un]⟩ ms [] (fun m hm => by simp [runF, evSs, evS, evE, evT, evOs, evCs, evOc, evOcT, evIt, evAnd, evOr, evTAnd, evTOr, pkO, peek, take, tru, valAt, ownAt, augS, appS, popS, setS, retS, D.noL, noLs, D.noLq, unpS, asg, Tg.ix, Cs.hasPk, D.flat, allBl, allInt, powOk, LINE, lcStep, ce0_law_copy, mkD, LINE, wipeR])
  have hz : (ms.map mkD).length ≤ LINE := by simp [LINE]; omega
  simp only [msD] at e ⊢
  simp [runF, evSs, evS, evE, evT, evOs, evCs, evOc, evOcT, evIt, evAnd, evOr, evTAnd, evTOr, pkO, peek, take, tru, valAt, ownAt, augS, appS, popS, setS, retS, D.noL, noLs, D.noLq, unpS, asg, Tg.ix, Cs.hasPk, D.flat, allBl, allInt, powOk, LINE, c_law_copy, freeAt, It.sz, wipeR, backR, e]
/-- a drawn number -/
theorem v_draw (hf : T.fn "_law_draw" = some c_law_draw) (n : Nat) (ns : List Int) {k : Int} (h0 : 0 ≤ k) : ∃ z, callF T (n + 1) "_law_draw" [.lst (ns.map .int), .int k] = .ok (.int z) false ∧ 0 ≤ z ∧ z < 2305843009213693951 := by
  rw [callF_succ hf]
  have fin : ∀ x : Int, 0 ≤ x % 2305843009213693951 ∧ x % 2305843009213693951 < 2305843009213693951 := fun x => ⟨Int.emod_nonneg _ (by decide), Int.emod_lt_of_pos _ (by decide)⟩
  by_cases h : k < ns.length
  · obtain ⟨z, e⟩ := atI_ints (ns := ns) h0 h
    refine ⟨_, by simp [runF, evSs, evS, evE, evT, evOs, evCs, evOc, evOcT, evIt, evAnd, evOr, evTAnd, evTOr, pkO, peek, take, tru, valAt, ownAt, augS, appS, popS, setS, retS, D.noL, noLs, D.noLq, unpS, asg, Tg.ix, Cs.hasPk, D.flat, allBl, allInt, powOk, LINE, c_law_draw, h, e]; rfl, fin _⟩
  · by_cases h2 : 0 < ns.length
    · have q0 : (0 : Int) < ns.length := by omega
      obtain ⟨z1, e1⟩ := atI_ints (ns := ns) (Int.emod_nonneg (3 * k + 1) (by omega)) (Int.emod_lt_of_pos (3 * k + 1) q0)
      obtain ⟨z2, e2⟩ := atI_ints (ns := ns) (Int.emod_nonneg k (by omega)) (Int.emod_lt_of_pos k q0)
      refine ⟨_, by simp [runF, evSs, evS, evE, evT, evOs, evCs, evOc, evOcT, evIt, evAnd, evOr, evTAnd, evTOr, pkO, peek, take, tru, valAt, ownAt, augS, appS, popS, setS, retS, D.noL, noLs, D.noLq, unpS, asg, Tg.ix, Cs.hasPk, D.flat, allBl, allInt, powOk, LINE, c_law_draw, h, h2, e1, e2]; rfl, fin _⟩
    · refine ⟨_, by simp [runF, evSs, evS, evE, evT, evOs, evCs, evOc, evOcT, evIt, evAnd, evOr, evTAnd, evTOr, pkO, peek, take, tru, valAt, ownAt, augS, appS, popS, setS, retS, D.noL, noLs, D.noLq, unpS, asg, Tg.ix, Cs.hasPk, D.flat, allBl, allInt, powOk, LINE, c_law_draw, h, h2]; rfl, fin _⟩
theorem v_is (hf : T.fn "_law_is" = some c_law_is) (n : Nat) (b c : Bool) : callF T (n + 1) "_law_is" [.bl b, .bl c] = .ok (.bl (decide (b = c))) false := by
  rw [callF_succ hf]
  cases c <;> simp [runF, evSs, evS, evE, evT, evOs, evCs, evOc, evOcT, evIt, evAnd, evOr, evTAnd, evTOr, pkO, peek, take, tru, valAt, ownAt, augS, appS, popS, setS, retS, D.noL, noLs, D.noLq, unpS, asg, Tg.ix, Cs.hasPk, D.flat, allBl, allInt, powOk, LINE, c_law_is]
def ixs (sz : List Nat) : D := .lst (sz.map fun (k : Nat) => .int (k : Int))
def KindOk (sz : List Nat) (d : D) : Prop := d = .tup [.str "any"] ∨ d = .tup [.str "number"] ∨ (∃ c : Nat, c < sz.length ∧ d = .tup [.str "whole", .int (c : Int)]) ∨ ∃ c b s : Nat, sz[c]? = some s ∧ b < 2 ^ s ∧ d = .tup [.str "raw", .int (c : Int), .int (b : Int)]
theorem v_kind (hf : T.fn "_law_kind" = some c_law_kind) (n : Nat) {sz : List Nat} (h0 : 0 < sz.length) (hs : ∀ s ∈ sz, s ≤ 1000) (z : Int) : ∃ d, callF T (n + 1) "_law_kind" [.int z, ixs sz] = .ok d false ∧ KindOk sz d := by
  rw [callF_succ hf]
  have q0 : (0 : Int) < sz.length := by omega
  have c1 := Int.emod_nonneg (z / 4) (show (sz.length : Int) ≠ 0 by omega)
  have c2 := Int.emod_lt_of_pos (z / 4) q0
  obtain ⟨c, hc⟩ : ∃ c : Nat, z / 4 % sz.length = (c : Int) := ⟨(z / 4 % sz.length).toNat, by omega⟩
  have hcl : c < sz.length := by omega
  have e1 : atI (sz.map fun (k : Nat) => D.int (k : Int)) (c : Int) = some (.int (sz[c] : Int)) := atI_mapN (List.getElem?_eq_getElem hcl)
  by_cases h : z % 4 = 0
  · exact ⟨_, by simp [runF, evSs, evS, evE, evT, evOs, evCs, evOc, evOcT, evIt, evAnd, evOr, evTAnd, evTOr, pkO, peek, take, tru, valAt, ownAt, augS, appS, popS, setS, retS, D.noL, noLs, D.noLq, unpS, asg, Tg.ix, Cs.hasPk, D.flat, allBl, allInt, powOk, LINE, c_law_kind, ixs, h, h0, LINE], .inl rfl⟩
  · by_cases h1 : z % 4 = 1
    · exact ⟨_, by simp [runF, evSs, evS, evE, evT, evOs, evCs, evOc, evOcT, evIt, evAnd, evOr, evTAnd, evTOr, pkO, peek, take, tru, valAt, ownAt, augS, appS, popS, setS, retS, D.noL, noLs, D.noLq, unpS, asg, Tg.ix, Cs.hasPk, D.flat, allBl, allInt, powOk, LINE, c_law_kind, ixs, h, h1, h0, LINE], .inr (.inl rfl)⟩
    · by_cases h2 : z % 4 = 2
      · exact ⟨_, by simp [runF, evSs, evS, evE, evT, evOs, evCs, evOc, evOcT, evIt, evAnd, evOr, evTAnd, evTOr, pkO, peek, take, tru, valAt, ownAt, augS, appS, popS, setS, retS, D.noL, noLs, D.noLq, unpS, asg, Tg.ix, Cs.hasPk, D.flat, allBl, allInt, powOk, LINE, c_law_kind, ixs, h, h1, h2, h0, LINE, hc], .inr (.inr (.inl ⟨c, hcl, rfl⟩))⟩
      · have hp : (0 : Int) < 2 ^ sz[c] := by exact_mod_cast Nat.two_pow_pos _
        have m1 := Int.emod_nonneg (z / 32) (show (2 : Int) ^ sz[c] ≠ 0 by omega)
        have m2 := Int.emod_lt_of_pos (z / 32) hp
        have hs1 : sz[c] ≤ 1000 := hs _ (List.getElem_mem hcl)
        obtain ⟨b, hb⟩ : ∃ b : Nat, z / 32 % 2 ^ sz[c] = (b : Int) := ⟨(z / 32 % 2 ^ sz[c]).toNat, by omega⟩
        refine ⟨.tup [.str "raw", .int (c : Int), .int (b : Int)], ?_, .inr (.inr (.inr ⟨c, b, sz[c], List.getElem?_eq_getElem hcl, by rw [hb] at m2; exact_mod_cast m2, rfl⟩))⟩
        have hs2 : ((sz[c] : Nat) : Int) ≤ 1000000 := by omega
        simp [runF, evSs, evS, evE, evT, evOs, evCs, evOc, evOcT, evIt, evAnd, evOr, evTAnd, evTOr, pkO, peek, take, tru, valAt, ownAt, augS, appS, popS, setS, retS, D.noL, noLs, D.noLq, unpS, asg, Tg.ix, Cs.hasPk, D.flat, allBl, allInt, powOk, LINE, c_law_kind, ixs, h, h1, h2, h0, LINE, hc, e1, hs2, hp, hb]
def shD (e : Option Nat × Nat) : D := .tup [elD e.1, .int (e.2 : Int)]
/-- the shapes and the sizes that are drawn first -/
structure Shp (sh : List (Option Nat × Nat)) (sz : List Nat) : Prop where
  len : sz.length = sh.length
  up : ∀ (c : Nat) (e : Option Nat × Nat), sh[c]? = some e → (c = 0 ∧ e = (none, 0)) ∨ ∃ j a, e.1 = some j ∧ j < c ∧ sz[j]? = some a ∧ sz[c]? = some (a + e.2)
  le : ∀ s ∈ sz, s ≤ 6
  z0 : sz[0]? = some 0
theorem sh_at {sh : List (Option Nat × Nat)} (c : Nat) {e : Option Nat × Nat} (h : sh[c]? = some e) : atI (sh.map shD) (c : Int) = some (.tup [elD e.1, .int (e.2 : Int)]) := atI_mapN h
theorem ix_at {sz : List Nat} (c : Nat) {k : Nat} (h : sz[c]? = some k) : atI (sz.map fun (k : Nat) => D.int (k : Int)) (c : Int) = some (.int (k : Int)) := atI_mapN h
theorem makes_b0 (hf : T.fn "_law_draw" = some c_law_draw) (n : Nat) (ns : List Int) {at_ : Int} (h0 : 0 ≤ at_) {sh : List (Option Nat × Nat)} {sz : List Nat} (S : Shp sh sz) {i : Nat} (hi : i < 8) (hl : sh.length = i + 1) (x5 x6 x7 x8 x9 : Sl) :
    ∃ e k x6' x7', Shp (sh ++ [e]) (sz ++ [k]) ∧ evSs (T.cfg (n + 1)) cb0_law_makes ⟨[.val (.lst (ns.map .int)), .val (.int at_), .own (.lst (sh.map shD)), .own (ixs sz), .val (.int (1 + (i : Int))), x5, x6, x7, x8, x9]⟩ =
      .nx ⟨[.val (.lst (ns.map .int)), .val (.int at_), .own (.lst ((sh ++ [e]).map shD)), .own (ixs (sz ++ [k])), .val (.int (1 + (i : Int))), x5, x6', x7', x8, x9]⟩ := by
  obtain ⟨z, ez, z0, _⟩ := v_draw hf n ns (k := at_ + (1 + (i : Int))) (by omega)
  obtain ⟨u, eu, _, _⟩ := v_draw hf n ns (k := at_) h0
  have m1 := Int.emod_nonneg z (show (1 : Int) + (i : Int) ≠ 0 by omega)
  have m2 := Int.emod_lt_of_pos z (show (0 : Int) < 1 + (i : Int) by omega)
  -- the elder j, whichever way
  have key : ∀ j : Nat, j ≤ i → ∃ e k, Shp (sh ++ [e]) (sz ++ [k]) ∧ ∃ a b : Nat, sz[j]? = some a ∧ a ≤ 6 ∧ z / 8 % (7 - (a : Int)) = (b : Int) ∧ e = (some j, b) ∧ k = a + b := by
    intro j hj
    have hjl : j < sz.length := by rw [S.len, hl]; omega
    have ha : sz[j]? = some sz[j] := List.getElem?_eq_getElem hjl
    have hle := S.le _ (List.getElem_mem hjl)
    have p1 := Int.emod_nonneg (z / 8) (show (7 : Int) - (sz[j] : Int) ≠ 0 by omega)
    have p2 := Int.emod_lt_of_pos (z / 8) (show (0 : Int) < 7 - (sz[j] : Int) by omega)
    obtain ⟨b, hb⟩ : ∃ b : Nat, z / 8 % (7 - (sz[j] : Int)) = (b : Int) := ⟨(z / 8 % (7 - (sz[j] : Int))).toNat, by omega⟩
    refine ⟨(some j, b), sz[j] + b, ⟨by simp [S.len], fun c e he => ?_, fun s hs => ?_, ?_⟩, sz[j], b, ha, hle, hb, rfl, rfl⟩
    · by_cases hc : c < sh.length
      · rw [List.getElem?_append_left hc] at he
        rcases S.up c e he with q | ⟨j2, a2, q1, q2, q3, q4⟩
        · exact .inl q
        · refine .inr ⟨j2, a2, q1, q2, ?_, ?_⟩
          · rw [List.getElem?_append_left (List.getElem?_eq_some_iff.mp q3).1]; exact q3
          · rw [List.getElem?_append_left (List.getElem?_eq_some_iff.mp q4).1]; exact q4
      · have hcl := (List.getElem?_eq_some_iff.mp he).1
        simp only [List.length_append, List.length_cons, List.length_nil] at hcl
        have hc2 : c = sh.length := by omega
        subst hc2
        rw [List.getElem?_append_right (Nat.le_refl _)] at he
        simp at he
        subst he
        refine .inr ⟨j, sz[j], rfl, by omega, ?_, ?_⟩
        · rw [List.getElem?_append_left hjl]; exact ha
        · rw [← S.len, List.getElem?_append_right (Nat.le_refl _)]; simp
    · rcases List.mem_append.mp hs with q | q
      · exact S.le s q
      · simp at q; omega
    · rw [List.getElem?_append_left (by rw [S.len, hl]; omega)]; exact S.z0
  have hpos : (0 : Int) < 1 + (i : Int) := by omega
  have hlenA : sh.length < 16777216 := by omega
  have hlenB : sz.length < 16777216 := by rw [S.len]; omega
  have hget : ∀ e, (sh ++ [e])[i + 1]? = some e := fun e => by rw [List.getElem?_append_right (by omega), hl]; simp
  have e1 : (1 : Int) + (i : Int) = ((i + 1 : Nat) : Int) := by omega
  by_cases hb : u / 8 % 3 = 1
  · obtain ⟨e, k, S', a, b, ha, hle, hb2, rfl, rfl⟩ := key i (Nat.le_refl _)
    have ea := ix_at i ha
    have hp : (a : Int) < 7 := by omega
    have ec : atI ((sh ++ [(some i, b)]).map shD) (1 + (i : Int)) = some (.tup [elD (some i), .int (b : Int)]) := by
      rw [e1]; exact sh_at (i + 1) (hget _)
    have hel : (1 : Int) + (i : Int) - 1 = (i : Int) := by omega
    refine ⟨_, _, .val (.int z), .val (.int (i : Int)), S', ?_⟩
    simp only [List.map_append, List.map_cons, List.map_nil] at ec
    simp [runF, evSs, evS, evE, evT, evOs, evCs, evOc, evOcT, evIt, evAnd, evOr, evTAnd, evTOr, pkO, peek, take, tru, valAt, ownAt, augS, appS, popS, setS, retS, D.noL, noLs, D.noLq, unpS, asg, Tg.ix, Cs.hasPk, D.flat, allBl, allInt, powOk, LINE, cb0_law_makes, ez, eu, hb, hel, ixs, ea, hp, hb2, shD, elD, hlenA, hlenB, hpos] at ec ⊢
    simp [runF, evSs, evS, evE, evT, evOs, evCs, evOc, evOcT, evIt, evAnd, evOr, evTAnd, evTOr, pkO, peek, take, tru, valAt, ownAt, augS, appS, popS, setS, retS, D.noL, noLs, D.noLq, unpS, asg, Tg.ix, Cs.hasPk, D.flat, allBl, allInt, powOk, LINE, ec, hlenB]
  · obtain ⟨j, hj⟩ : ∃ j : Nat, z % (1 + (i : Int)) = (j : Int) := ⟨(z % (1 + (i : Int))).toNat, by omega⟩
    obtain ⟨e, k, S', a, b, ha, hle, hb2, rfl, rfl⟩ := key j (by omega)
    have ea := ix_at j ha
    have hp : (a : Int) < 7 := by omega
    have ec : atI ((sh ++ [(some j, b)]).map shD) (1 + (i : Int)) = some (.tup [elD (some j), .int (b : Int)]) := by
      rw [e1]; exact sh_at (i + 1) (hget _)
    refine ⟨_, _, .val (.int z), .val (.int (j : Int)), S', ?_⟩
    simp only [List.map_append, List.map_cons, List.map_nil] at ec
    simp [runF, evSs, evS, evE, evT, evOs, evCs, evOc, evOcT, evIt, evAnd, evOr, evTAnd, evTOr, pkO, peek, take, tru, valAt, ownAt, augS, appS, popS, setS, retS, D.noL, noLs, D.noLq, unpS, asg, Tg.ix, Cs.hasPk, D.flat, allBl, allInt, powOk, LINE, cb0_law_makes, ez, eu, hb, hj, ixs, ea, hp, hb2, shD, elD, hlenA, hlenB, hpos] at ec ⊢
    simp [runF, evSs, evS, evE, evT, evOs, evCs, evOc, evOcT, evIt, evAnd, evOr, evTAnd, evTOr, pkO, peek, take, tru, valAt, ownAt, augS, appS, popS, setS, retS, D.noL, noLs, D.noLq, unpS, asg, Tg.ix, Cs.hasPk, D.flat, allBl, allInt, powOk, LINE, ec, hlenB]
theorem kind_noL {sz : List Nat} {d : D} (h : KindOk sz d) : d.noLq false = true := by
  rcases h with rfl | rfl | ⟨c, _, rfl⟩ | ⟨c, b, s, _, _, rfl⟩ <;> simp [D.noLq, D.noL, noLs]
theorem makes_b2 (hf : T.fn "_law_draw" = some c_law_draw) (hk : T.fn "_law_kind" = some c_law_kind) (n : Nat) (ns : List Int) {at_ : Int} (h0 : 0 ≤ at_) {sh : List (Option Nat × Nat)} {sz : List Nat} (S : Shp sh sz) {c : Nat} {e : Option Nat × Nat} (he : sh[c]? = some e) (hb : e.2 ≤ 1000) {ms : Mks} (hm : ms.length < 1000) (x6 x7 x8 : Sl) :
    ∃ ks : List D, ks.length = e.2 ∧ (∀ d ∈ ks, KindOk sz d) ∧ evSs (T.cfg (n + 1)) cb2_law_makes ⟨[.val (.lst (ns.map .int)), .val (.int at_), .own (.lst (sh.map shD)), .own (ixs sz), .val (.int (c : Int)), .own (.lst (ms.map mkD)), x6, x7, x8, .un]⟩ =
      .nx ⟨[.val (.lst (ns.map .int)), .val (.int at_), .own (.lst (sh.map shD)), .own (ixs sz), .val (.int (c : Int)), .own (.lst ((ms ++ [(e.1, ks)]).map mkD)), x6, x7, .val (.lst ks), .un]⟩ := by
  have hzl : 0 < sz.length := by
    have := (List.getElem?_eq_some_iff.mp he).1
    rw [S.len]; omega
  have ec := sh_at c he
  obtain ⟨ks, e1, l1, p1⟩ := lc_ex (f := lcStep (.nm 9) (evOcT (T.cfg (n + 1)) .no) (evE (T.cfg (n + 1)) ce1_law_makes)) (fun (k : Nat) => .int (k : Int)) (KindOk sz) ⟨[.val (.lst (ns.map .int)), .val (.int at_), .own (.lst (sh.map shD)), .own (ixs sz), .val (.int (c : Int)), .own (.lst (ms.map mkD)), x6, x7, x8, .un]⟩ (List.range e.2) [] (fun k _ => by
    obtain ⟨z, ez, _, _⟩ := v_draw hf n ns (k := at_ + 8 + 6 * (c : Int) + (k : Int)) (by omega)
    obtain ⟨d, ed, pd⟩ := v_kind hk n hzl (fun s hs => Nat.le_trans (S.le s hs) (by omega)) z
    have nl := kind_noL pd
    refine ⟨d, ?_, pd⟩
    simp only [lcStep]
    simp [runF, evSs, evS, evE, evT, evOs, evCs, evOc, evOcT, evIt, evAnd, evOr, evTAnd, evTOr, pkO, peek, take, tru, valAt, ownAt, augS, appS, popS, setS, retS, D.noL, noLs, D.noLq, unpS, asg, Tg.ix, Cs.hasPk, D.flat, allBl, allInt, powOk, LINE, ce1_law_makes, ez, ed, wipeR] at nl ⊢
    simp [nl, wipeR])
  refine ⟨ks, by simpa using l1, p1, ?_⟩
  have hr : rngD [.int (e.2 : Int)] = some ((List.range e.2).map fun (k : Nat) => .int (k : Int)) := rng_lit e.2 (by simp only [LINE]; omega)
  have hm2 : ms.length < 16777216 := by omega
  simp [runF, evSs, evS, evE, evT, evOs, evCs, evOc, evOcT, evIt, evAnd, evOr, evTAnd, evTOr, pkO, peek, take, tru, valAt, ownAt, augS, appS, popS, setS, retS, D.noL, noLs, D.noLq, unpS, asg, Tg.ix, Cs.hasPk, D.flat, allBl, allInt, powOk, LINE, cb2_law_makes, ec, hr, freeAt, It.sz, wipeR, backR, e1, hm2, mkD]
/-- makes as they are drawn: sz the fields of each, its elders' among them -/
structure Good (ms : Mks) (sz : List Nat) : Prop where
  wf : WF ms
  len : sz.length = ms.length
  kd : ∀ (c : Nat) (m : Option Nat × List D), ms[c]? = some m → ∀ d ∈ m.2, KindOk sz d
  up : ∀ (c : Nat) (m : Option Nat × List D), ms[c]? = some m → (c = 0 ∧ m.2 = []) ∨ ∃ j a, m.1 = some j ∧ j < c ∧ sz[j]? = some a ∧ sz[c]? = some (a + m.2.length)
  le : ∀ s ∈ sz, s ≤ 6
  z0 : sz[0]? = some 0
theorem shp_one : Shp [(none, 0)] [0] := ⟨rfl, fun c e he => by
    cases c with
    | zero => simp at he; exact .inl ⟨rfl, he.symm⟩
    | succ c => simp at he, by simp, rfl⟩
theorem makes_l1 (hf : T.fn "_law_draw" = some c_law_draw) (n : Nat) (ns : List Int) {at_ : Int} (h0 : 0 ≤ at_) (M : Nat) (hM8 : M < 8) : ∃ sh sz x4 x6 x7, Shp sh sz ∧ sh.length = M + 1 ∧
    forL (forStep (.nm 4) (evSs (T.cfg (n + 1)) cb0_law_makes)) ((List.range M).map fun (k : Nat) => .int (1 + (k : Int))) ⟨[.val (.lst (ns.map .int)), .val (.int at_), .own (.lst [.tup [.non, .int 0]]), .own (.lst [.int 0]), .un, .un, .un, .un, .un, .un]⟩ =
    .nx ⟨[.val (.lst (ns.map .int)), .val (.int at_), .own (.lst (sh.map shD)), .own (ixs sz), x4, .un, x6, x7, .un, .un]⟩ := by
  obtain ⟨s1, e1, sh, sz, x4, x6, x7, S, hl, hs⟩ := for_range (f := forStep (.nm 4) (evSs (T.cfg (n + 1)) cb0_law_makes)) (fun i s => ∃ sh sz x4 x6 x7, Shp sh sz ∧ sh.length = i + 1 ∧ s = RS.mk [.val (.lst (ns.map .int)), .val (.int at_), .own (.lst (sh.map shD)), .own (ixs sz), x4, .un, x6, x7, .un, .un]) 1 M
    ⟨[.val (.lst (ns.map .int)), .val (.int at_), .own (.lst [.tup [.non, .int 0]]), .own (.lst [.int 0]), .un, .un, .un, .un, .un, .un]⟩
    ⟨[(none, 0)], [0], .un, .un, .un, shp_one, rfl, by simp [shD, elD, ixs]⟩
    (fun i s hi ⟨sh, sz, x4, x6, x7, S, hl, hs⟩ => by
      obtain ⟨e, k, x6', x7', S', ev⟩ := makes_b0 hf n ns h0 S (by omega : i < 8) hl .un x6 x7 .un .un
      refine ⟨_, ?_, sh ++ [e], sz ++ [k], .val (.int (1 + (i : Int))), x6', x7', S', by simp [hl], rfl⟩
      subst hs
      simp only [forStep, asg, List.set]
      exact ev)
  exact ⟨sh, sz, x4, x6, x7, S, hl, by rw [e1, hs]⟩
theorem makes_l2 (hf : T.fn "_law_draw" = some c_law_draw) (hk : T.fn "_law_kind" = some c_law_kind) (n : Nat) (ns : List Int) {at_ : Int} (h0 : 0 ≤ at_) {sh : List (Option Nat × Nat)} {sz : List Nat} (S : Shp sh sz) (hl : sh.length ≤ 8) (x4 x6 x7 : Sl) : ∃ (ms : Mks) (y4 y6 y7 y8 : Sl), ms.length = sh.length ∧ (∀ (c : Nat) (m : Option Nat × List D), ms[c]? = some m → ∃ e : Option Nat × Nat, sh[c]? = some e ∧ m.1 = e.1 ∧ m.2.length = e.2 ∧ ∀ d ∈ m.2, KindOk sz d) ∧
    forL (forStep (.nm 4) (evSs (T.cfg (n + 1)) cb2_law_makes)) ((List.range sh.length).map fun (k : Nat) => .int (k : Int)) ⟨[.val (.lst (ns.map .int)), .val (.int at_), .own (.lst (sh.map shD)), .own (ixs sz), x4, .own (.lst []), x6, x7, .un, .un]⟩ =
    .nx ⟨[.val (.lst (ns.map .int)), .val (.int at_), .own (.lst (sh.map shD)), .own (ixs sz), y4, .own (.lst (ms.map mkD)), y6, y7, y8, .un]⟩ := by
  obtain ⟨s2, e2, ms, y4, y6, y7, y8, hml, hmg, hs2⟩ := for_upto (f := forStep (.nm 4) (evSs (T.cfg (n + 1)) cb2_law_makes)) (fun i s => ∃ (ms : Mks) (x4 x6 x7 x8 : Sl), ms.length = i ∧ (∀ (c : Nat) (m : Option Nat × List D), ms[c]? = some m → ∃ e : Option Nat × Nat, sh[c]? = some e ∧ m.1 = e.1 ∧ m.2.length = e.2 ∧ ∀ d ∈ m.2, KindOk sz d) ∧ s = RS.mk [.val (.lst (ns.map .int)), .val (.int at_), .own (.lst (sh.map shD)), .own (ixs sz), x4, .own (.lst (ms.map mkD)), x6, x7, x8, .un]) sh.length
    ⟨[.val (.lst (ns.map .int)), .val (.int at_), .own (.lst (sh.map shD)), .own (ixs sz), x4, .own (.lst []), x6, x7, .un, .un]⟩
    ⟨[], x4, x6, x7, .un, rfl, fun c m h => by simp at h, rfl⟩
    (fun i s hi ⟨ms, x4, x6, x7, x8, hml, hmg, hs⟩ => by
      have he : sh[i]? = some sh[i] := List.getElem?_eq_getElem hi
      have hb : (sh[i]).2 ≤ 1000 := by
        rcases S.up i _ he with ⟨_, q⟩ | ⟨j, a, _, _, _, q⟩
        · rw [q]; exact Nat.zero_le _
        · have := S.le _ (List.mem_of_getElem? q); omega
      obtain ⟨ks, k1, k2, ev⟩ := makes_b2 hf hk n ns h0 S he hb (ms := ms) (by omega) x6 x7 x8
      refine ⟨_, ?_, ms ++ [((sh[i]).1, ks)], .val (.int (i : Int)), x6, x7, .val (.lst ks), by simp [hml], fun c m hc => ?_, rfl⟩
      · subst hs
        simp only [forStep, asg, List.set]
        exact ev
      · by_cases hcl : c < ms.length
        · rw [List.getElem?_append_left hcl] at hc
          exact hmg c m hc
        · have := (List.getElem?_eq_some_iff.mp hc).1
          simp only [List.length_append, List.length_cons, List.length_nil] at this
          have hc2 : c = ms.length := by omega
          subst hc2
          rw [List.getElem?_append_right (Nat.le_refl _)] at hc
          simp at hc
          subst hc
          exact ⟨sh[i], by rw [hml]; exact he, rfl, k1, k2⟩)
  exact ⟨ms, y4, y6, y7, y8, hml, hmg, by rw [e2, hs2]⟩
theorem v_makes (hf : T.fn "_law_draw" = some c_law_draw) (hk : T.fn "_law_kind" = some c_law_kind) (hm : T.fn "_law_makes" = some c_law_makes) (n : Nat) (ns : List Int) {at_ : Int} (h0 : 0 ≤ at_) : ∃ ms sz, callF T (n + 2) "_law_makes" [.lst (ns.map .int), .int at_] = .ok (msD ms) true ∧ Good ms sz := by
  rw [callF_succ hm]
  obtain ⟨u, eu, _, _⟩ := v_draw hf n ns (k := at_) h0
  have m1 := Int.emod_nonneg u (show (8 : Int) ≠ 0 by decide)
  have m2 := Int.emod_lt_of_pos u (show (0 : Int) < 8 by decide)
  obtain ⟨M, hM⟩ : ∃ M : Nat, u % 8 = (M : Int) := ⟨(u % 8).toNat, by omega⟩
  have hM8 : M < 8 := by omega
  have r1 : rngD [.int 1, .int (1 + (M : Int))] = some ((List.range M).map fun (k : Nat) => .int (1 + (k : Int))) := by
    rw [rng_up (by omega) (by omega) (by omega) (by omega) (by omega), show (1 + (M : Int) - 1).toNat = M by omega]
  obtain ⟨sh, sz, x4, x6, x7, S, hl, e1⟩ := makes_l1 hf n ns h0 M hM8
  have r2 : rngD [.int (sh.length : Int)] = some ((List.range sh.length).map fun (k : Nat) => .int (k : Int)) := rng_lit sh.length (by simp only [LINE]; omega)
  obtain ⟨ms, y4, y6, y7, y8, hml, hmg, e2⟩ := makes_l2 hf hk n ns h0 S (by omega) x4 x6 x7
  refine ⟨ms, sz, ?_, ⟨⟨by omega, by omega, fun c m hc => ?_⟩, by rw [S.len, hml], fun c m hc => ?_, fun c m hc => ?_, S.le, S.z0⟩⟩
  · simp [runF, evSs, evS, evE, evT, evOs, evCs, evOc, evOcT, evIt, evAnd, evOr, evTAnd, evTOr, pkO, peek, take, tru, valAt, ownAt, augS, appS, popS, setS, retS, D.noL, noLs, D.noLq, unpS, asg, Tg.ix, Cs.hasPk, D.flat, allBl, allInt, powOk, LINE, c_law_makes, eu]
    rw [hM, r1, io1, ol3, e1, st1]
    simp only [List.getElem?_cons_succ, List.getElem?_cons_zero, List.set, ob3, ol1, ol2, bi1, pu1, List.length_map]
    rw [r2, io1, ol3, e2, st1]
    simp [msD]
  · obtain ⟨e, q1, q2, q3, q4⟩ := hmg c m hc
    rcases S.up c e q1 with ⟨z1, z2⟩ | ⟨j, a, z1, z2, _⟩
    · exact .inl ⟨z1, by rw [q2, z2]⟩
    · exact .inr ⟨j, by rw [q2, z1], z2⟩
  · obtain ⟨e, q1, q2, q3, q4⟩ := hmg c m hc
    exact q4
  · obtain ⟨e, q1, q2, q3, q4⟩ := hmg c m hc
    rcases S.up c e q1 with ⟨z1, z2⟩ | ⟨j, a, z1, z2, z3, z4⟩
    · exact .inl ⟨z1, List.eq_nil_of_length_eq_zero (by rw [q3, z2])⟩
    · exact .inr ⟨j, a, by rw [q2, z1], z2, z3, by rw [q3]; exact z4⟩
/-- what == sees of makes -/
theorem kind_ok {sz : List Nat} {d : D} (h : KindOk sz d) : okD 2 d = true := by
  have a : PyData.strOk ("any" : Str) = true := by decide +kernel
  have b : PyData.strOk ("number" : Str) = true := by decide +kernel
  have c : PyData.strOk ("whole" : Str) = true := by decide +kernel
  have d : PyData.strOk ("raw" : Str) = true := by decide +kernel
  rcases h with rfl | rfl | ⟨_, _, rfl⟩ | ⟨_, _, _, _, _, rfl⟩ <;> simp [okD, okDs, a, b, c, d]
theorem mks_ok {n : Nat} (h : ∀ m ∈ ms, ∀ d ∈ m.2, okD n d = true) : okDs (n + 2) (ms.map mkD) = true := by
  refine okDs_all fun x hx => ?_
  obtain ⟨m, hm, rfl⟩ := List.mem_map.mp hx
  obtain ⟨e, ks⟩ := m
  have q := okDs_all (h _ hm)
  cases e <;> simp [mkD, elD, okD, okDs] <;> exact q
theorem mks_eq {n : Nat} (hn : n + 2 < 64) (h : ∀ m ∈ ms, ∀ d ∈ m.2, okD n d = true) : eqD (msD ms) (msD ms) = some true := eqL_self hn (mks_ok h)
theorem Good.ok {sz : List Nat} (g : Good ms sz) : ∀ m ∈ ms, ∀ d ∈ m.2, okD 2 d = true := by
  intro m hm d hd
  obtain ⟨c, hc⟩ := List.getElem?_of_mem hm
  exact kind_ok (g.kd c m hc d hd)
end
end RR

namespace RR
open PySem L2
def cbeneath : Fn := ⟨3, ["makes", "kind", "other"],
  (.cons (.ite (.cmp .Eq (.idx (.pk 2) (.int 0)) (.str "any")) (.cons (.ret (.bl true)) .nil) .nil) (.cons (.ite (.cmp .NotEq (.idx (.pk 1) (.int 0)) (.idx (.pk 2) (.int 0))) (.cons (.ret (.bl false)) .nil) .nil) (.cons (.ite (.cmp .Eq (.idx (.pk 1) (.int 0)) (.str "whole")) (.cons (.ret (.call "is_under" (.cons (.var 0) (.cons (.idx (.pk 1) (.int 1)) (.cons (.idx (.pk 2) (.int 1)) .nil))))) .nil) .nil) (.cons (.ite (.cmp .Eq (.idx (.pk 1) (.int 0)) (.str "raw")) (.cons (.ret (.and (.cons (.cmp .Eq (.idx (.pk 1) (.int 1)) (.idx (.pk 2) (.int 1))) (.cons (.cmp .Eq (.bin .BitAnd (.idx (.pk 1) (.int 2)) (.idx (.pk 2) (.int 2))) (.idx (.pk 2) (.int 2))) .nil)))) .nil) .nil) (.cons (.ret (.bl true)) .nil)))))⟩
def cb0_law_fields : Ss := (.cons (.set 2 (.bin .Add (.pk 2) (.idx (.idx (.pk 0) (.var 3)) (.int 1)))) .nil)
def c_law_fields : Fn := ⟨2, ["_law_makes_here", "_law_c", "_law_found", "_law_one"],
  (.cons (.set 2 (.lst .nil)) (.cons (.for (.nm 3) (.rev (.call "_law_elders" (.cons (.var 0) (.cons (.var 1) .nil)))) cb0_law_fields) (.cons (.retv 2) .nil)))⟩
def c_law_below : Fn := ⟨3, ["_law_makes_here", "_law_kind_here", "_law_other"],
  (.cons (.ite (.cmp .Eq (.pk 2) (.tup (.cons (.str "any") .nil))) (.cons (.ret (.bl true)) .nil) .nil) (.cons (.ite (.cmp .NotEq (.idx (.pk 1) (.int 0)) (.idx (.pk 2) (.int 0))) (.cons (.ret (.bl false)) .nil) .nil) (.cons (.ite (.cmp .Eq (.idx (.pk 1) (.int 0)) (.str "whole")) (.cons (.ret (.cmp .In (.idx (.pk 2) (.int 1)) (.call "_law_elders" (.cons (.var 0) (.cons (.idx (.pk 1) (.int 1)) .nil))))) .nil) .nil) (.cons (.ite (.cmp .Eq (.idx (.pk 1) (.int 0)) (.str "raw")) (.cons (.ret (.and (.cons (.cmp .Eq (.idx (.pk 1) (.int 1)) (.idx (.pk 2) (.int 1))) (.cons (.cmp .Eq (.bin .BitAnd (.idx (.pk 1) (.int 2)) (.idx (.pk 2) (.int 2))) (.idx (.pk 2) (.int 2))) .nil)))) .nil) .nil) (.cons (.ret (.bl true)) .nil)))))⟩
def c_law_above : Fn := ⟨3, ["_law_makes_here", "_law_kind_here", "_law_cell", "_law_some"],
  (.cons (.ite (.cmp .Eq (.idx (.pk 1) (.int 0)) (.str "whole")) (.cons (.set 3 (.call "_law_elders" (.cons (.var 0) (.cons (.idx (.pk 1) (.int 1)) .nil)))) (.cons (.ret (.tup (.cons (.str "whole") (.cons (.idx (.pk 3) (.bin .Mod (.pk 2) (.bi "len" (.cons (.pk 3) .nil)))) .nil)))) .nil)) .nil) (.cons (.ite (.cmp .Eq (.idx (.pk 1) (.int 0)) (.str "raw")) (.cons (.ret (.tup (.cons (.str "raw") (.cons (.idx (.pk 1) (.int 1)) (.cons (.bin .BitAnd (.idx (.pk 1) (.int 2)) (.bin .Mod (.pk 2) (.int 64))) .nil))))) .nil) .nil) (.cons (.retv 1) .nil)))⟩
inductive KK where
  | any | num | whole (c : Nat) | raw (c : Nat) (b : Int)
def KK.d : KK → D
  | .any => .tup [.str "any"] | .num => .tup [.str "number"]
  | .whole c => .tup [.str "whole", .int (c : Int)] | .raw c b => .tup [.str "raw", .int (c : Int), .int b]
/-- a kind speaks of a make that there is -/
def KK.ok (m : Nat) : KK → Prop
  | .whole c => c < m | .raw c _ => c < m | _ => True
def bel (ms : Mks) (k o : KK) : Bool := match k, o with
  | _, .any => true
  | .num, .num => true
  | .whole c, .whole e => (elds ms c).any fun k => (k : Int) == (e : Int)
  | .raw c b, .raw e f => decide ((c : Int) = (e : Int)) && decide (Builtin.bitAnd b f = f)
  | _, _ => false
theorem sne1 : ¬ ("number" : Str) = "any" := nei (by decide +kernel)
theorem sne2 : ¬ ("whole" : Str) = "any" := nei (by decide +kernel)
theorem sne3 : ¬ ("raw" : Str) = "any" := nei (by decide +kernel)
theorem sne4 : ¬ ("any" : Str) = "number" := nei (by decide +kernel)
theorem sne5 : ¬ ("any" : Str) = "whole" := nei (by decide +kernel)
theorem sne6 : ¬ ("any" : Str) = "raw" := nei (by decide +kernel)
theorem sne7 : ¬ ("number" : Str) = "whole" := nei (by decide +kernel)
theorem sne8 : ¬ ("number" : Str) = "raw" := nei (by decide +kernel)
theorem sne9 : ¬ ("whole" : Str) = "number" := nei (by decide +kernel)
theorem sne10 : ¬ ("whole" : Str) = "raw" := nei (by decide +kernel)
theorem sne11 : ¬ ("raw" : Str) = "number" := nei (by decide +kernel)
theorem sne12 : ¬ ("raw" : Str) = "whole" := nei (by decide +kernel)
theorem KK.okD (k : KK) : RR.okD 1 k.d = true := by
  have a : PyData.strOk ("any" : Str) = true := by decide +kernel
  have b : PyData.strOk ("number" : Str) = true := by decide +kernel
  have c : PyData.strOk ("whole" : Str) = true := by decide +kernel
  have d : PyData.strOk ("raw" : Str) = true := by decide +kernel
  cases k <;> simp [KK.d, RR.okD, okDs, a, b, c, d]
theorem eq_any (k : KK) : eqD k.d (.tup [.str "any"]) = some (match k with | .any => true | _ => false) := by
  have h1 := okD_shaped (by decide) k.okD
  have h2 := okD_shaped (by decide) (KK.okD .any)
  have : eqD k.d (.tup [.str "any"]) = (if SeqAt.shaped k.d.pd && SeqAt.shaped (KK.any).d.pd then some (PyData.eqv k.d.pd (KK.any).d.pd) else none) := by cases k <;> rfl
  rw [this, h1, h2]
  cases k <;> simp [KK.d, D.pd, pds, PyData.eqv, PyData.eqvAll, sne1, sne2, sne3]
section
variable {T : Tb} {ms : Mks}
theorem v_beneath (hu : T.fn "is_under" = some cis_under) (hf : T.fn "beneath" = some cbeneath) (n : Nat) (w : WF ms) {k : KK} (hk : k.ok ms.length) (o : KK) : callF T (n + 2) "beneath" [msD ms, k.d, o.d] = .ok (.bl (bel ms k o)) false := by
  rw [callF_succ hf]
  cases o <;> cases k <;> first
    | (simp [runF, evSs, evS, evE, evT, evOs, evCs, evOc, evOcT, evIt, evAnd, evOr, evTAnd, evTOr, pkO, peek, take, tru, valAt, ownAt, augS, appS, popS, setS, retS, D.noL, noLs, D.noLq, unpS, asg, Tg.ix, Cs.hasPk, D.flat, allBl, allInt, powOk, LINE, cbeneath, KK.d, bel, sne1, sne2, sne3, sne4, sne5, sne6, sne7, sne8, sne9, sne10, sne11, sne12]; done)
    | skip
  · rename_i e c
    have e1 := v_under hu n w hk (e : Int)
    simp [runF, evSs, evS, evE, evT, evOs, evCs, evOc, evOcT, evIt, evAnd, evOr, evTAnd, evTOr, pkO, peek, take, tru, valAt, ownAt, augS, appS, popS, setS, retS, D.noL, noLs, D.noLq, unpS, asg, Tg.ix, Cs.hasPk, D.flat, allBl, allInt, powOk, LINE, cbeneath, KK.d, bel, sne2, e1]
  · rename_i e f c b
    by_cases h : (c : Int) = (e : Int) <;> simp [runF, evSs, evS, evE, evT, evOs, evCs, evOc, evOcT, evIt, evAnd, evOr, evTAnd, evTOr, pkO, peek, take, tru, valAt, ownAt, augS, appS, popS, setS, retS, D.noL, noLs, D.noLq, unpS, asg, Tg.ix, Cs.hasPk, D.flat, allBl, allInt, powOk, LINE, cbeneath, KK.d, bel, sne3, sne12, h]
theorem v_below (hu : T.fn "_law_elders" = some c_law_elders) (hf : T.fn "_law_below" = some c_law_below) (n : Nat) (w : WF ms) {k : KK} (hk : k.ok ms.length) (o : KK) : callF T (n + 2) "_law_below" [msD ms, k.d, o.d] = .ok (.bl (bel ms k o)) false := by
  rw [callF_succ hf]
  have q := eq_any o
  cases o <;> cases k <;> first
    | (simp only [KK.d] at q; simp [runF, evSs, evS, evE, evT, evOs, evCs, evOc, evOcT, evIt, evAnd, evOr, evTAnd, evTOr, pkO, peek, take, tru, valAt, ownAt, augS, appS, popS, setS, retS, D.noL, noLs, D.noLq, unpS, asg, Tg.ix, Cs.hasPk, D.flat, allBl, allInt, powOk, LINE, c_law_below, KK.d, bel, q, sne1, sne2, sne3, sne4, sne5, sne6, sne7, sne8, sne9, sne10, sne11, sne12]; done)
    | skip
  · rename_i e c
    have e1 := v_elders hu n w hk
    have e2 := in_ints (e : Int) (elds ms c)
    simp only [KK.d] at q
    simp [runF, evSs, evS, evE, evT, evOs, evCs, evOc, evOcT, evIt, evAnd, evOr, evTAnd, evTOr, pkO, peek, take, tru, valAt, ownAt, augS, appS, popS, setS, retS, D.noL, noLs, D.noLq, unpS, asg, Tg.ix, Cs.hasPk, D.flat, allBl, allInt, powOk, LINE, c_law_below, KK.d, bel, sne2, e1, q]
    simp [e2]
  · rename_i e f c b
    simp only [KK.d] at q
    by_cases h : (c : Int) = (e : Int) <;> simp [runF, evSs, evS, evE, evT, evOs, evCs, evOc, evOcT, evIt, evAnd, evOr, evTAnd, evTOr, pkO, peek, take, tru, valAt, ownAt, augS, appS, popS, setS, retS, D.noL, noLs, D.noLq, unpS, asg, Tg.ix, Cs.hasPk, D.flat, allBl, allInt, powOk, LINE, c_law_below, KK.d, bel, sne3, sne12, h, q]
/-- all fields of a make, the eldest's first -/
def flds (ms : Mks) (c : Nat) : List D := (elds ms c).reverse.flatMap fun k => (ms.getD k (none, [])).2
theorem fields_loop (Γ : Cfg) (x1 : Sl) : ∀ (ks : List Nat), (∀ k ∈ ks, k < ms.length) → ∀ (acc : List D) (b : Nat), (∀ m ∈ ms, m.2.length ≤ 10) → acc.length + 10 * ks.length ≤ 1000 → ∀ (o : Sl) (x3 : Sl), o = .val (.lst acc) ∨ o = .own (.lst acc) → ∃ o' y3, (o' = .val (.lst (acc ++ ks.flatMap fun k => (ms.getD k (none, [])).2)) ∨ o' = .own (.lst (acc ++ ks.flatMap fun k => (ms.getD k (none, [])).2))) ∧
    forL (forStep (.nm 3) (evSs Γ cb0_law_fields)) (ks.map fun (k : Nat) => .int (k : Int)) ⟨[.val (msD ms), x1, o, x3]⟩ = .nx ⟨[.val (msD ms), x1, o', y3]⟩
  | [], _, acc, b, _, _, o, x3, ho => ⟨o, x3, by simpa using ho, rfl⟩
  | k :: ks, hk, acc, b, hm, hl, o, x3, ho => by
    have hkl := hk k List.mem_cons_self
    have hget : ms[k]? = some ms[k] := List.getElem?_eq_getElem hkl
    have hgd : ms.getD k (none, []) = ms[k] := by simp [List.getD_eq_getElem?_getD, hget]
    have hm1 := hm _ (List.getElem_mem hkl)
    simp only [List.length_cons] at hl
    have hb : acc.length + (ms[k]).2.length ≤ 16777216 := by omega
    obtain ⟨o', y3, h1, h2⟩ := fields_loop Γ x1 ks (fun j hj => hk j (List.mem_cons_of_mem _ hj)) (acc ++ (ms[k]).2) b hm (by simp; omega) (.own (.lst (acc ++ (ms[k]).2))) (.val (.int (k : Int))) (.inr rfl)
    refine ⟨o', y3, by rw [List.flatMap_cons, hgd, ← List.append_assoc]; exact h1, ?_⟩
    have e : evSs Γ cb0_law_fields ⟨[.val (msD ms), x1, o, .val (.int (k : Int))]⟩ = .nx ⟨[.val (msD ms), x1, .own (.lst (acc ++ (ms[k]).2)), .val (.int (k : Int))]⟩ := by
      have ea := mk_at k hget
      rcases ho with rfl | rfl <;> simp [runF, evSs, evS, evE, evT, evOs, evCs, evOc, evOcT, evIt, evAnd, evOr, evTAnd, evTOr, pkO, peek, take, tru, valAt, ownAt, augS, appS, popS, setS, retS, D.noL, noLs, D.noLq, unpS, asg, Tg.ix, Cs.hasPk, D.flat, allBl, allInt, powOk, LINE, cb0_law_fields, msD, ea, hb]
    rw [List.map_cons, forL]
    simp only [forStep, asg, List.set, e]
    exact h2
theorem v_fields (he : T.fn "_law_elders" = some c_law_elders) (hf : T.fn "_law_fields" = some c_law_fields) (n : Nat) (w : WF ms) (hm : ∀ m ∈ ms, m.2.length ≤ 10) {c : Nat} (hc : c < ms.length) (hl : (elds ms c).length ≤ 90) : ∃ fr, callF T (n + 2) "_law_fields" [msD ms, .int (c : Int)] = .ok (.lst (flds ms c)) fr := by
  rw [callF_succ hf]
  have e1 := v_elders he n w hc
  obtain ⟨o', y3, h1, h2⟩ := fields_loop (ms := ms) (T.cfg (n + 1)) (.val (.int (c : Int))) (elds ms c).reverse (fun k hk => by
    have := elds_lt w c hc k (List.mem_reverse.mp hk); omega) [] 0 hm (by simp; omega) (.own (.lst [])) .un (.inr rfl)
  have e2 : revDD (.lst ((elds ms c).map fun (k : Nat) => D.int (k : Int))) = some ((elds ms c).reverse.map fun (k : Nat) => .int (k : Int)) := by simp [revDD]
  rcases h1 with rfl | rfl
  · refine ⟨false, ?_⟩
    simp [runF, evSs, evS, evE, evT, evOs, evCs, evOc, evOcT, evIt, evAnd, evOr, evTAnd, evTOr, pkO, peek, take, tru, valAt, ownAt, augS, appS, popS, setS, retS, D.noL, noLs, D.noLq, unpS, asg, Tg.ix, Cs.hasPk, D.flat, allBl, allInt, powOk, LINE, c_law_fields, e1]
    rw [e2, io1, ol3, h2]
    simp [flds]
  · refine ⟨true, ?_⟩
    simp [runF, evSs, evS, evE, evT, evOs, evCs, evOc, evOcT, evIt, evAnd, evOr, evTAnd, evTOr, pkO, peek, take, tru, valAt, ownAt, augS, appS, popS, setS, retS, D.noL, noLs, D.noLq, unpS, asg, Tg.ix, Cs.hasPk, D.flat, allBl, allInt, powOk, LINE, c_law_fields, e1]
    rw [e2, io1, ol3, h2]
    simp [flds]
theorem elds_len (w : WF ms) : ∀ c : Nat, c < ms.length → (elds ms c).length ≤ c + 1 := by
  intro c
  induction c using Nat.strongRecOn with
  | ind c ih =>
    intro hc
    rw [elds_eq w hc]
    obtain ⟨m, hm, h⟩ := w.get hc
    rw [hm]
    obtain ⟨e, ks⟩ := m
    rcases h with ⟨rfl, h⟩ | ⟨j, h, hj⟩
    · simp only at h; subst h; simp
    · simp only at h; subst h
      have := ih j hj (by omega)
      simp; omega
theorem v_above (he : T.fn "_law_elders" = some c_law_elders) (hf : T.fn "_law_above" = some c_law_above) (n : Nat) (w : WF ms) {k : KK} (hk : k.ok ms.length) (z : Int) : ∃ o : KK, callF T (n + 2) "_law_above" [msD ms, k.d, .int z] = .ok o.d false ∧ o.ok ms.length := by
  rw [callF_succ hf]
  cases k with
  | any => exact ⟨.any, by simp [runF, evSs, evS, evE, evT, evOs, evCs, evOc, evOcT, evIt, evAnd, evOr, evTAnd, evTOr, pkO, peek, take, tru, valAt, ownAt, augS, appS, popS, setS, retS, D.noL, noLs, D.noLq, unpS, asg, Tg.ix, Cs.hasPk, D.flat, allBl, allInt, powOk, LINE, c_law_above, KK.d, sne5, sne6], trivial⟩
  | num => exact ⟨.num, by simp [runF, evSs, evS, evE, evT, evOs, evCs, evOc, evOcT, evIt, evAnd, evOr, evTAnd, evTOr, pkO, peek, take, tru, valAt, ownAt, augS, appS, popS, setS, retS, D.noL, noLs, D.noLq, unpS, asg, Tg.ix, Cs.hasPk, D.flat, allBl, allInt, powOk, LINE, c_law_above, KK.d, sne7, sne8], trivial⟩
  | whole c =>
    have e1 := v_elders he n w hk
    have hp : 0 < (elds ms c).length := by rw [elds_eq w hk]; simp
    have m1 := Int.emod_nonneg z (show ((elds ms c).length : Int) ≠ 0 by omega)
    have m2 := Int.emod_lt_of_pos z (show (0 : Int) < (elds ms c).length by omega)
    obtain ⟨j, hj⟩ : ∃ j : Nat, z % ((elds ms c).length : Int) = (j : Int) := ⟨(z % ((elds ms c).length : Int)).toNat, by omega⟩
    have hjl : j < (elds ms c).length := by omega
    have ea : atI ((elds ms c).map fun (k : Nat) => D.int (k : Int)) (j : Int) = some (.int (((elds ms c)[j] : Nat) : Int)) := atI_mapN (List.getElem?_eq_getElem hjl)
    refine ⟨.whole (elds ms c)[j], ?_, by have := elds_lt w c hk _ (List.getElem_mem hjl); exact Nat.lt_of_le_of_lt this hk⟩
    simp [runF, evSs, evS, evE, evT, evOs, evCs, evOc, evOcT, evIt, evAnd, evOr, evTAnd, evTOr, pkO, peek, take, tru, valAt, ownAt, augS, appS, popS, setS, retS, D.noL, noLs, D.noLq, unpS, asg, Tg.ix, Cs.hasPk, D.flat, allBl, allInt, powOk, LINE, c_law_above, KK.d, e1, hp, hj, ea]
  | raw c b => exact ⟨.raw c (Builtin.bitAnd b (z % 64)), by simp [runF, evSs, evS, evE, evT, evOs, evCs, evOc, evOcT, evIt, evAnd, evOr, evTAnd, evTOr, pkO, peek, take, tru, valAt, ownAt, augS, appS, popS, setS, retS, D.noL, noLs, D.noLq, unpS, asg, Tg.ix, Cs.hasPk, D.flat, allBl, allInt, powOk, LINE, c_law_above, KK.d, sne12], hk⟩
end
end RR

namespace RR
open PySem L2
def bodyAt (i : Nat) : Stmt := PySem.Challenge.pw_stackwarden_k22_what_is_beneath.main.body.getD i (.Pass ⟨0, 0, 0, 0⟩)
def t0is_under : C := (.cmp .IsNot (.pk 1) .non)
def b1is_under : Ss := (.cons (.ite (.cmp .Eq (.pk 1) (.pk 2)) (.cons (.ret (.bl true)) .nil) .nil) (.cons (.set 1 (.idx (.idx (.pk 0) (.var 1)) (.int 0))) .nil))
def fis_under : Fn := ⟨3, ["makes", "c", "other"],
  (.cons (.whl t0is_under b1is_under) (.cons (.ret (.bl false)) .nil))⟩
def fbeneath : Fn := ⟨3, ["makes", "kind", "other"],
  (.cons (.ite (.cmp .Eq (.idx (.pk 2) (.int 0)) (.str "any")) (.cons (.ret (.bl true)) .nil) .nil) (.cons (.ite (.cmp .NotEq (.idx (.pk 1) (.int 0)) (.idx (.pk 2) (.int 0))) (.cons (.ret (.bl false)) .nil) .nil) (.cons (.ite (.cmp .Eq (.idx (.pk 1) (.int 0)) (.str "whole")) (.cons (.ret (.call "is_under" (.cons (.var 0) (.cons (.idx (.pk 1) (.int 1)) (.cons (.idx (.pk 2) (.int 1)) .nil))))) .nil) .nil) (.cons (.ite (.cmp .Eq (.idx (.pk 1) (.int 0)) (.str "raw")) (.cons (.ret (.and (.cons (.cmp .Eq (.idx (.pk 1) (.int 1)) (.idx (.pk 2) (.int 1))) (.cons (.cmp .Eq (.bin .BitAnd (.idx (.pk 1) (.int 2)) (.idx (.pk 2) (.int 2))) (.idx (.pk 2) (.int 2))) .nil)))) .nil) .nil) (.cons (.ret (.bl true)) .nil)))))⟩
def f_law_draw : Fn := ⟨2, ["_law_script", "_law_k", "_law_cell", "_law_other"],
  (.cons (.set 2 (.bin .Mult (.int 40503) (.pk 1))) (.cons (.ite (.cmp .Lt (.pk 1) (.bi "len" (.cons (.pk 0) .nil))) (.cons (.set 2 (.idx (.pk 0) (.var 1))) .nil) (.cons (.ite (.cmp .Gt (.bi "len" (.cons (.pk 0) .nil)) (.int 0)) (.cons (.set 3 (.idx (.pk 0) (.bin .Mod (.bin .Add (.bin .Mult (.int 3) (.pk 1)) (.int 1)) (.bi "len" (.cons (.pk 0) .nil))))) (.cons (.set 2 (.bin .Add (.bin .Add (.pk 2) (.idx (.pk 0) (.bin .Mod (.pk 1) (.bi "len" (.cons (.pk 0) .nil))))) (.bin .Mult (.int 31) (.bin .Mod (.pk 3) (.int 1000033))))) .nil)) .nil) .nil)) (.cons (.ret (.bin .Mod (.bin .Add (.bin .Mult (.pk 2) (.int 6364136223846793005)) (.bin .Mult (.int 1442695040888963407) (.pk 1))) (.int 2305843009213693951))) .nil)))⟩
def f_law_kind : Fn := ⟨2, ["_law_cell", "_law_sizes", "_law_c"],
  (.cons (.set 2 (.bin .Mod (.bin .FloorDiv (.pk 0) (.int 4)) (.bi "len" (.cons (.pk 1) .nil)))) (.cons (.ite (.cmp .Eq (.bin .Mod (.pk 0) (.int 4)) (.int 0)) (.cons (.ret (.tup (.cons (.str "any") .nil))) .nil) .nil) (.cons (.ite (.cmp .Eq (.bin .Mod (.pk 0) (.int 4)) (.int 1)) (.cons (.ret (.tup (.cons (.str "number") .nil))) .nil) .nil) (.cons (.ite (.cmp .Eq (.bin .Mod (.pk 0) (.int 4)) (.int 2)) (.cons (.ret (.tup (.cons (.str "whole") (.cons (.var 2) .nil)))) .nil) .nil) (.cons (.ret (.tup (.cons (.str "raw") (.cons (.var 2) (.cons (.bin .Mod (.bin .FloorDiv (.pk 0) (.int 32)) (.bin .LShift (.int 1) (.idx (.pk 1) (.var 2)))) .nil))))) .nil)))))⟩
def b0_law_makes : Ss := (.cons (.set 6 (.call "_law_draw" (.cons (.var 0) (.cons (.bin .Add (.pk 1) (.pk 4)) .nil)))) (.cons (.set 7 (.bin .Mod (.pk 6) (.pk 4))) (.cons (.ite (.cmp .Eq (.bin .Mod (.bin .FloorDiv (.call "_law_draw" (.cons (.var 0) (.cons (.var 1) .nil))) (.int 8)) (.int 3)) (.int 1)) (.cons (.set 7 (.bin .Sub (.pk 4) (.int 1))) .nil) .nil) (.cons (.app 2 (.tup (.cons (.var 7) (.cons (.bin .Mod (.bin .FloorDiv (.pk 6) (.int 8)) (.bin .Sub (.int 7) (.idx (.pk 3) (.var 7)))) .nil)))) (.cons (.app 3 (.bin .Add (.idx (.pk 3) (.var 7)) (.idx (.idx (.pk 2) (.var 4)) (.int 1)))) .nil)))))
def e1_law_makes : C := (.call "_law_kind" (.cons (.call "_law_draw" (.cons (.var 0) (.cons (.bin .Add (.bin .Add (.bin .Add (.pk 1) (.int 8)) (.bin .Mult (.int 6) (.pk 4))) (.pk 9)) .nil))) (.cons (.pk 3) .nil)))
def b2_law_makes : Ss := (.cons (.set 8 (.lc e1_law_makes (.nm 9) (.rng (.cons (.idx (.idx (.pk 2) (.var 4)) (.int 1)) .nil)) .no)) (.cons (.app 5 (.tup (.cons (.idx (.idx (.pk 2) (.var 4)) (.int 0)) (.cons (.var 8) .nil)))) .nil))
def f_law_makes : Fn := ⟨2, ["_law_script", "_law_at", "_law_shapes", "_law_sizes", "_law_c", "_law_makes_here", "_law_cell", "_law_elder", "_law_own", "_law_k"],
  (.cons (.set 2 (.lst (.cons (.tup (.cons .non (.cons (.int 0) .nil))) .nil))) (.cons (.set 3 (.lst (.cons (.int 0) .nil))) (.cons (.for (.nm 4) (.rng (.cons (.int 1) (.cons (.bin .Add (.int 1) (.bin .Mod (.call "_law_draw" (.cons (.var 0) (.cons (.var 1) .nil))) (.int 8))) .nil))) b0_law_makes) (.cons (.set 5 (.lst .nil)) (.cons (.for (.nm 4) (.rng (.cons (.bi "len" (.cons (.pk 2) .nil)) .nil)) b2_law_makes) (.cons (.retv 5) .nil))))))⟩
def t0_law_elders : C := (.cmp .IsNot (.pk 1) .non)
def b1_law_elders : Ss := (.cons (.app 2 (.var 1)) (.cons (.set 1 (.idx (.idx (.pk 0) (.var 1)) (.int 0))) .nil))
def f_law_elders : Fn := ⟨2, ["_law_makes_here", "_law_c", "_law_found"],
  (.cons (.set 2 (.lst .nil)) (.cons (.whl t0_law_elders b1_law_elders) (.cons (.retv 2) .nil)))⟩
def b0_law_fields : Ss := (.cons (.set 2 (.bin .Add (.pk 2) (.idx (.idx (.pk 0) (.var 3)) (.int 1)))) .nil)
def f_law_fields : Fn := ⟨2, ["_law_makes_here", "_law_c", "_law_found", "_law_one"],
  (.cons (.set 2 (.lst .nil)) (.cons (.for (.nm 3) (.rev (.call "_law_elders" (.cons (.var 0) (.cons (.var 1) .nil)))) b0_law_fields) (.cons (.retv 2) .nil)))⟩
def e0_law_copy : C := (.tup (.cons (.var 1) (.cons (.bi "list" (.cons (.pk 2) .nil)) .nil)))
def f_law_copy : Fn := ⟨1, ["_law_makes_here", "_law_elder", "_law_own"],
  (.cons (.ret (.lc e0_law_copy (.tp [1, 2]) (.seq (.var 0)) .no)) .nil)⟩
def f_law_below : Fn := ⟨3, ["_law_makes_here", "_law_kind_here", "_law_other"],
  (.cons (.ite (.cmp .Eq (.pk 2) (.tup (.cons (.str "any") .nil))) (.cons (.ret (.bl true)) .nil) .nil) (.cons (.ite (.cmp .NotEq (.idx (.pk 1) (.int 0)) (.idx (.pk 2) (.int 0))) (.cons (.ret (.bl false)) .nil) .nil) (.cons (.ite (.cmp .Eq (.idx (.pk 1) (.int 0)) (.str "whole")) (.cons (.ret (.cmp .In (.idx (.pk 2) (.int 1)) (.call "_law_elders" (.cons (.var 0) (.cons (.idx (.pk 1) (.int 1)) .nil))))) .nil) .nil) (.cons (.ite (.cmp .Eq (.idx (.pk 1) (.int 0)) (.str "raw")) (.cons (.ret (.and (.cons (.cmp .Eq (.idx (.pk 1) (.int 1)) (.idx (.pk 2) (.int 1))) (.cons (.cmp .Eq (.bin .BitAnd (.idx (.pk 1) (.int 2)) (.idx (.pk 2) (.int 2))) (.idx (.pk 2) (.int 2))) .nil)))) .nil) .nil) (.cons (.ret (.bl true)) .nil)))))⟩
def f_law_above : Fn := ⟨3, ["_law_makes_here", "_law_kind_here", "_law_cell", "_law_some"],
  (.cons (.ite (.cmp .Eq (.idx (.pk 1) (.int 0)) (.str "whole")) (.cons (.set 3 (.call "_law_elders" (.cons (.var 0) (.cons (.idx (.pk 1) (.int 1)) .nil)))) (.cons (.ret (.tup (.cons (.str "whole") (.cons (.idx (.pk 3) (.bin .Mod (.pk 2) (.bi "len" (.cons (.pk 3) .nil)))) .nil)))) .nil)) .nil) (.cons (.ite (.cmp .Eq (.idx (.pk 1) (.int 0)) (.str "raw")) (.cons (.ret (.tup (.cons (.str "raw") (.cons (.idx (.pk 1) (.int 1)) (.cons (.bin .BitAnd (.idx (.pk 1) (.int 2)) (.bin .Mod (.pk 2) (.int 64))) .nil))))) .nil) .nil) (.cons (.retv 1) .nil)))⟩
def f_law_is : Fn := ⟨2, ["_law_found", "_law_due"],
  (.cons (.ite (.pk 1) (.cons (.ret (.cmp .Is (.pk 0) (.bl true))) .nil) .nil) (.cons (.ret (.cmp .Is (.pk 0) (.bl false))) .nil))⟩
def e0_law_kinds : C := (.bi "len" (.cons (.call "_law_fields" (.cons (.var 2) (.cons (.var 6) .nil))) .nil))
def e1_law_kinds : C := (.call "_law_kind" (.cons (.call "_law_draw" (.cons (.var 0) (.cons (.bin .Add (.pk 1) (.pk 7)) .nil))) (.cons (.var 3) .nil)))
def e2_law_kinds : C := (.call "_law_above" (.cons (.var 2) (.cons (.idx (.pk 4) (.var 7)) (.cons (.call "_law_draw" (.cons (.var 0) (.cons (.bin .Add (.bin .Add (.pk 1) (.int 5)) (.pk 7)) .nil))) .nil))))
def f_law_kinds : Fn := ⟨3, ["_law_script", "_law_at", "_law_makes_here", "_law_sizes", "_law_kinds_here", "_law_near", "_law_c", "_law_k"],
  (.cons (.set 3 (.lc e0_law_kinds (.nm 6) (.rng (.cons (.bi "len" (.cons (.pk 2) .nil)) .nil)) .no)) (.cons (.set 4 (.lc e1_law_kinds (.nm 7) (.rng (.cons (.int 5) .nil)) .no)) (.cons (.sidx 4 (.int 1) (.tup (.cons (.str "whole") (.cons (.bin .Mod (.call "_law_draw" (.cons (.var 0) (.cons (.bin .Add (.pk 1) (.int 1)) .nil))) (.bi "len" (.cons (.pk 2) .nil))) .nil)))) (.cons (.set 5 (.lc e2_law_kinds (.nm 7) (.rng (.cons (.int 4) .nil)) .no)) (.cons (.ret (.bin .Add (.bin .Add (.pk 4) (.pk 5)) (.lst (.cons (.tup (.cons (.str "any") .nil)) (.cons (.tup (.cons (.str "number") .nil)) .nil))))) .nil)))))⟩
def b0_law_told : Ss := (.cons (.ite (.not (.call "_law_is" (.cons (.call "beneath" (.cons (.var 2) (.cons (.var 3) (.cons (.var 4) .nil)))) (.cons (.call "_law_below" (.cons (.var 0) (.cons (.var 3) (.cons (.var 4) .nil)))) .nil)))) (.cons (.ret (.bl false)) .nil) .nil) .nil)
def b1_law_told : Ss := (.cons (.for (.nm 4) (.seq (.var 1)) b0_law_told) .nil)
def f_law_told : Fn := ⟨2, ["_law_makes_here", "_law_kinds_here", "_law_handed", "_law_kind_here", "_law_other"],
  (.cons (.set 2 (.call "_law_copy" (.cons (.var 0) .nil))) (.cons (.for (.nm 3) (.seq (.var 1)) b1_law_told) (.cons (.ret (.cmp .Eq (.pk 2) (.pk 0))) .nil)))⟩
def flaw : Fn := ⟨1, ["_law_script", "_law_makes_here", "_law_other", "_law_kinds_here"],
  (.cons (.set 1 (.call "_law_makes" (.cons (.var 0) (.cons (.int 20) .nil)))) (.cons (.set 2 (.call "_law_makes" (.cons (.var 0) (.cons (.int 38) .nil)))) (.cons (.set 3 (.call "_law_kinds" (.cons (.var 0) (.cons (.int 0) (.cons (.var 1) .nil))))) (.cons (.ite (.or (.cons (.not (.call "_law_told" (.cons (.var 1) (.cons (.var 3) .nil)))) (.cons (.not (.call "_law_told" (.cons (.var 2) (.cons (.call "_law_kinds" (.cons (.var 0) (.cons (.int 10) (.cons (.var 2) .nil)))) .nil)))) .nil))) (.cons (.ret (.bl false)) .nil) .nil) (.cons (.ret (.call "_law_told" (.cons (.var 1) (.cons (.var 3) .nil)))) .nil)))))⟩
def tb : Tb := ⟨fun x => if x = "is_under" then some fis_under else if x = "beneath" then some fbeneath else if x = "_law_draw" then some f_law_draw else if x = "_law_kind" then some f_law_kind else if x = "_law_makes" then some f_law_makes else if x = "_law_elders" then some f_law_elders else if x = "_law_fields" then some f_law_fields else if x = "_law_copy" then some f_law_copy else if x = "_law_below" then some f_law_below else if x = "_law_above" then some f_law_above else if x = "_law_is" then some f_law_is else if x = "_law_kinds" then some f_law_kinds else if x = "_law_told" then some f_law_told else if x = "law" then some flaw else none, fun x => none⟩
theorem tb_is_under : tb.fn "is_under" = some fis_under := by
  unfold tb; simp only
  rw [if_pos trivial]
theorem tb_beneath : tb.fn "beneath" = some fbeneath := by
  unfold tb; simp only
  rw [if_neg (by decide +kernel), if_pos trivial]
theorem tb__law_draw : tb.fn "_law_draw" = some f_law_draw := by
  unfold tb; simp only
  rw [if_neg (by decide +kernel), if_neg (by decide +kernel), if_pos trivial]
theorem tb__law_kind : tb.fn "_law_kind" = some f_law_kind := by
  unfold tb; simp only
  rw [if_neg (by decide +kernel), if_neg (by decide +kernel), if_neg (by decide +kernel), if_pos trivial]
theorem tb__law_makes : tb.fn "_law_makes" = some f_law_makes := by
  unfold tb; simp only
  rw [if_neg (by decide +kernel), if_neg (by decide +kernel), if_neg (by decide +kernel), if_neg (by decide +kernel), if_pos trivial]
theorem tb__law_elders : tb.fn "_law_elders" = some f_law_elders := by
  unfold tb; simp only
  rw [if_neg (by decide +kernel), if_neg (by decide +kernel), if_neg (by decide +kernel), if_neg (by decide +kernel), if_neg (by decide +kernel), if_pos trivial]
theorem tb__law_fields : tb.fn "_law_fields" = some f_law_fields := by
  unfold tb; simp only
  rw [if_neg (by decide +kernel), if_neg (by decide +kernel), if_neg (by decide +kernel), if_neg (by decide +kernel), if_neg (by decide +kernel), if_neg (by decide +kernel), if_pos trivial]
theorem tb__law_copy : tb.fn "_law_copy" = some f_law_copy := by
  unfold tb; simp only
  rw [if_neg (by decide +kernel), if_neg (by decide +kernel), if_neg (by decide +kernel), if_neg (by decide +kernel), if_neg (by decide +kernel), if_neg (by decide +kernel), if_neg (by decide +kernel), if_pos trivial]
theorem tb__law_below : tb.fn "_law_below" = some f_law_below := by
  unfold tb; simp only
  rw [if_neg (by decide +kernel), if_neg (by decide +kernel), if_neg (by decide +kernel), if_neg (by decide +kernel), if_neg (by decide +kernel), if_neg (by decide +kernel), if_neg (by decide +kernel), if_neg (by decide +kernel), if_pos trivial]
theorem tb__law_above : tb.fn "_law_above" = some f_law_above := by
  unfold tb; simp only
  rw [if_neg (by decide +kernel), if_neg (by decide +kernel), if_neg (by decide +kernel), if_neg (by decide +kernel), if_neg (by decide +kernel), if_neg (by decide +kernel), if_neg (by decide +kernel), if_neg (by decide +kernel), if_neg (by decide +kernel), if_pos trivial]
theorem tb__law_is : tb.fn "_law_is" = some f_law_is := by
  unfold tb; simp only
  rw [if_neg (by decide +kernel), if_neg (by decide +kernel), if_neg (by decide +kernel), if_neg (by decide +kernel), if_neg (by decide +kernel), if_neg (by decide +kernel), if_neg (by decide +kernel), if_neg (by decide +kernel), if_neg (by decide +kernel), if_neg (by decide +kernel), if_pos trivial]
theorem tb__law_kinds : tb.fn "_law_kinds" = some f_law_kinds := by
  unfold tb; simp only
  rw [if_neg (by decide +kernel), if_neg (by decide +kernel), if_neg (by decide +kernel), if_neg (by decide +kernel), if_neg (by decide +kernel), if_neg (by decide +kernel), if_neg (by decide +kernel), if_neg (by decide +kernel), if_neg (by decide +kernel), if_neg (by decide +kernel), if_neg (by decide +kernel), if_pos trivial]
theorem tb__law_told : tb.fn "_law_told" = some f_law_told := by
  unfold tb; simp only
  rw [if_neg (by decide +kernel), if_neg (by decide +kernel), if_neg (by decide +kernel), if_neg (by decide +kernel), if_neg (by decide +kernel), if_neg (by decide +kernel), if_neg (by decide +kernel), if_neg (by decide +kernel), if_neg (by decide +kernel), if_neg (by decide +kernel), if_neg (by decide +kernel), if_neg (by decide +kernel), if_pos trivial]
theorem tb_law : tb.fn "law" = some flaw := by
  unfold tb; simp only
  rw [if_neg (by decide +kernel), if_neg (by decide +kernel), if_neg (by decide +kernel), if_neg (by decide +kernel), if_neg (by decide +kernel), if_neg (by decide +kernel), if_neg (by decide +kernel), if_neg (by decide +kernel), if_neg (by decide +kernel), if_neg (by decide +kernel), if_neg (by decide +kernel), if_neg (by decide +kernel), if_neg (by decide +kernel), if_pos trivial]
theorem ck_is_under : chkF fis_under ["makes", "c", "other"] (bodyAt 1) = true := by decide +kernel
theorem ck_beneath : chkF fbeneath ["makes", "kind", "other"] (bodyAt 2) = true := by decide +kernel
theorem ck__law_draw : chkF f_law_draw ["_law_script", "_law_k"] (bodyAt 4) = true := by decide +kernel
theorem ck__law_kind : chkF f_law_kind ["_law_cell", "_law_sizes"] (bodyAt 5) = true := by decide +kernel
theorem ck__law_makes : chkF f_law_makes ["_law_script", "_law_at"] (bodyAt 6) = true := by decide +kernel
theorem ck__law_elders : chkF f_law_elders ["_law_makes_here", "_law_c"] (bodyAt 7) = true := by decide +kernel
theorem ck__law_fields : chkF f_law_fields ["_law_makes_here", "_law_c"] (bodyAt 8) = true := by decide +kernel
theorem ck__law_copy : chkF f_law_copy ["_law_makes_here"] (bodyAt 9) = true := by decide +kernel
theorem ck__law_below : chkF f_law_below ["_law_makes_here", "_law_kind_here", "_law_other"] (bodyAt 10) = true := by decide +kernel
theorem ck__law_above : chkF f_law_above ["_law_makes_here", "_law_kind_here", "_law_cell"] (bodyAt 11) = true := by decide +kernel
theorem ck__law_is : chkF f_law_is ["_law_found", "_law_due"] (bodyAt 12) = true := by decide +kernel
theorem ck__law_kinds : chkF f_law_kinds ["_law_script", "_law_at", "_law_makes_here"] (bodyAt 13) = true := by decide +kernel
theorem ck__law_told : chkF f_law_told ["_law_makes_here", "_law_kinds_here"] (bodyAt 14) = true := by decide +kernel
theorem ck_law : chkF flaw ["_law_script"] (bodyAt 15) = true := by decide +kernel
end RR

namespace RR
open PySem L2
abbrev LEVEL : Nat := 9
section
variable {ms : Mks}
theorem kk_of {sz : List Nat} {d : D} (h : KindOk sz d) : ∃ k : KK, d = k.d ∧ k.ok sz.length := by
  rcases h with rfl | rfl | ⟨c, hc, rfl⟩ | ⟨c, b, s, hs, _, rfl⟩
  · exact ⟨.any, rfl, trivial⟩
  · exact ⟨.num, rfl, trivial⟩
  · exact ⟨.whole c, rfl, hc⟩
  · exact ⟨.raw c b, rfl, (List.getElem?_eq_some_iff.mp hs).1⟩
theorem kks_of {m : Nat} : ∀ (ds : List D), (∀ d ∈ ds, ∃ k : KK, d = k.d ∧ k.ok m) → ∃ ks : List KK, ds = ks.map KK.d ∧ ∀ k ∈ ks, k.ok m
  | [], _ => ⟨[], rfl, fun k h => by cases h⟩
  | d :: ds, h => by
    obtain ⟨k, rfl, hk⟩ := h d List.mem_cons_self
    obtain ⟨ks, rfl, hks⟩ := kks_of ds fun d' hd => h d' (List.mem_cons_of_mem _ hd)
    refine ⟨k :: ks, rfl, fun x hx => ?_⟩
    rcases List.mem_cons.mp hx with z | z
    · rw [z]; exact hk
    · exact hks x z
theorem flds_len {sz : List Nat} (g : Good ms sz) {c : Nat} (hc : c < ms.length) : (∀ m ∈ ms, m.2.length ≤ 10) ∧ (elds ms c).length ≤ 90 ∧ (flds ms c).length ≤ 1000 := by
  have h1 : ∀ m ∈ ms, m.2.length ≤ 10 := by
    intro m hm
    obtain ⟨i, hi⟩ := List.getElem?_of_mem hm
    rcases g.up i m hi with ⟨_, q⟩ | ⟨j, a, _, _, _, q⟩
    · rw [q]; simp
    · have := g.le _ (List.mem_of_getElem? q); omega
  have h2 := elds_len g.wf c hc
  have h3 := g.wf.2.1
  refine ⟨h1, by omega, ?_⟩
  have : ∀ ks : List Nat, (∀ k ∈ ks, k < ms.length) → (ks.flatMap fun k => (ms.getD k (none, [])).2).length ≤ 10 * ks.length := by
    intro ks
    induction ks with
    | nil => intro _; simp
    | cons k ks ih =>
      intro hk
      have a := ih fun j hj => hk j (List.mem_cons_of_mem _ hj)
      have hkl := hk k List.mem_cons_self
      have b := h1 _ (List.getElem_mem hkl)
      have hgd : ms.getD k (none, []) = ms[k] := by simp [List.getD_eq_getElem?_getD, List.getElem?_eq_getElem hkl]
      rw [List.flatMap_cons, List.length_append, List.length_cons, hgd]
      omega
  have q := this (elds ms c).reverse fun k hk => by
    have := elds_lt g.wf c hc k (List.mem_reverse.mp hk); omega
  rw [List.length_reverse] at q
  unfold flds
  omega
theorem v_kinds (n : Nat) (ns : List Int) {at_ : Int} (h0 : 0 ≤ at_) {sz : List Nat} (g : Good ms sz) : ∃ ks : List KK, callF tb (n + 3) "_law_kinds" [.lst (ns.map .int), .int at_, msD ms] = .ok (.lst (ks.map KK.d)) true ∧ ∀ k ∈ ks, k.ok ms.length := by
  rw [callF_succ tb__law_kinds]
  have hl8 := g.wf.2.1
  have hl0 := g.wf.1
  obtain ⟨szs, hszs⟩ : ∃ szs : List Nat, szs = (List.range ms.length).map fun k => (flds ms k).length := ⟨_, rfl⟩
  have hsl : szs.length = ms.length := by rw [hszs]; simp
  have a1 : ∀ (x0 x1 x3 x4 x5 x7 : Sl), lcL (lcStep (.nm 6) (evOcT (tb.cfg (n + 2)) .no) (evE (tb.cfg (n + 2)) e0_law_kinds)) ((List.range ms.length).map fun (k : Nat) => .int (k : Int)) [] ⟨[x0, x1, .val (msD ms), x3, x4, x5, .un, x7]⟩ = .ok (szs.map fun (k : Nat) => .int (k : Int)) ⟨[x0, x1, .val (msD ms), x3, x4, x5, .un, x7]⟩ := by
    intro x0 x1 x3 x4 x5 x7
    have q := lc_map (f := lcStep (.nm 6) (evOcT (tb.cfg (n + 2)) .no) (evE (tb.cfg (n + 2)) e0_law_kinds)) (fun (k : Nat) => .int (k : Int)) (fun (k : Nat) => .int ((flds ms k).length : Int)) ⟨[x0, x1, .val (msD ms), x3, x4, x5, .un, x7]⟩ (List.range ms.length) [] (fun k hk => by
      have hk := List.mem_range.mp hk
      obtain ⟨b1, b2, b3⟩ := flds_len g hk
      obtain ⟨fr, e⟩ := v_fields (T := tb) tb__law_elders tb__law_fields n g.wf b1 hk b2
      simp only [lcStep]
      cases fr <;> simp [runF, evSs, evS, evE, evT, evOs, evCs, evOc, evOcT, evIt, evAnd, evOr, evTAnd, evTOr, pkO, peek, take, tru, valAt, ownAt, augS, appS, popS, setS, retS, D.noL, noLs, D.noLq, unpS, asg, Tg.ix, Cs.hasPk, D.flat, allBl, allInt, powOk, LINE, e0_law_kinds, e, wipeR])
    rw [q, hszs]
    simp
  have hsz1 : ∀ s ∈ szs, s ≤ 1000 := by
    intro s hs
    rw [hszs] at hs
    obtain ⟨k, hk, rfl⟩ := List.mem_map.mp hs
    exact (flds_len g (List.mem_range.mp hk)).2.2
  have step2 : ∀ (k : Nat) (x3 : Sl), (x3 = .own (ixs szs) ∨ x3 = .val (ixs szs)) → ∃ v, lcStep (.nm 7) (evOcT (tb.cfg (n + 2)) .no) (evE (tb.cfg (n + 2)) e1_law_kinds) (.int (k : Int)) ⟨[.val (.lst (ns.map .int)), .val (.int at_), .val (msD ms), x3, .un, .un, .un, .un]⟩ = .ok (some v) ⟨[.val (.lst (ns.map .int)), .val (.int at_), .val (msD ms), .val (ixs szs), .un, .un, .un, .un]⟩ ∧ ∃ k : KK, v = k.d ∧ k.ok ms.length := by
    intro k x3 h3
    obtain ⟨z, ez, _, _⟩ := v_draw (T := tb) tb__law_draw (n + 1) ns (k := at_ + (k : Int)) (by omega)
    obtain ⟨d, ed, pd⟩ := v_kind (T := tb) tb__law_kind (n + 1) (sz := szs) (by omega) hsz1 z
    refine ⟨d, ?_, by have := kk_of pd; rw [hsl] at this; exact this⟩
    simp only [lcStep]
    rcases h3 with rfl | rfl <;> simp [runF, evSs, evS, evE, evT, evOs, evCs, evOc, evOcT, evIt, evAnd, evOr, evTAnd, evTOr, pkO, peek, take, tru, valAt, ownAt, augS, appS, popS, setS, retS, D.noL, noLs, D.noLq, unpS, asg, Tg.ix, Cs.hasPk, D.flat, allBl, allInt, powOk, LINE, e1_law_kinds, ez, ed, wipeR]
  obtain ⟨d1, a2, l1, p1⟩ : ∃ d1 : List D, lcL (lcStep (.nm 7) (evOcT (tb.cfg (n + 2)) .no) (evE (tb.cfg (n + 2)) e1_law_kinds)) ((List.range 5).map fun (k : Nat) => .int (k : Int)) [] ⟨[.val (.lst (ns.map .int)), .val (.int at_), .val (msD ms), .own (ixs szs), .un, .un, .un, .un]⟩ = .ok d1 ⟨[.val (.lst (ns.map .int)), .val (.int at_), .val (msD ms), .val (ixs szs), .un, .un, .un, .un]⟩ ∧ d1.length = 5 ∧ ∀ d ∈ d1, ∃ k : KK, d = k.d ∧ k.ok ms.length := by
    obtain ⟨v0, e0, p0⟩ := step2 0 _ (.inl rfl)
    obtain ⟨vs, e1, l1, p1⟩ := lc_ex (f := lcStep (.nm 7) (evOcT (tb.cfg (n + 2)) .no) (evE (tb.cfg (n + 2)) e1_law_kinds)) (fun (k : Nat) => .int (k : Int)) (fun d => ∃ k : KK, d = k.d ∧ k.ok ms.length) ⟨[.val (.lst (ns.map .int)), .val (.int at_), .val (msD ms), .val (ixs szs), .un, .un, .un, .un]⟩ [1, 2, 3, 4] [v0] (fun k _ => step2 k _ (.inr rfl))
    refine ⟨v0 :: vs, ?_, by simp [l1], fun d hd => ?_⟩
    · rw [show List.range 5 = 0 :: [1, 2, 3, 4] from rfl, List.map_cons, lcL, e0]
      exact e1
    · rcases List.mem_cons.mp hd with z | z
      · rw [z]; exact p0
      · exact p1 d z
  obtain ⟨k1, rfl, q1⟩ := kks_of d1 p1
  have l1' : k1.length = 5 := by simpa using l1
  -- the second kind is a whole make
  obtain ⟨u, eu, _, _⟩ := v_draw (T := tb) tb__law_draw (n + 1) ns (k := at_ + 1) (by omega)
  have u1 := Int.emod_nonneg u (show (ms.length : Int) ≠ 0 by omega)
  have u2 := Int.emod_lt_of_pos u (show (0 : Int) < ms.length by omega)
  obtain ⟨j, hj⟩ : ∃ j : Nat, u % (ms.length : Int) = (j : Int) := ⟨(u % (ms.length : Int)).toNat, by omega⟩
  have hjl : j < ms.length := by omega
  obtain ⟨k2, hk2⟩ : ∃ k2, k2 = k1.set 1 (.whole j) := ⟨_, rfl⟩
  have l2 : k2.length = 5 := by rw [hk2]; simpa using l1'
  have q2 : ∀ k ∈ k2, k.ok ms.length := by
    intro k hk
    rw [hk2] at hk
    rcases List.mem_or_eq_of_mem_set hk with z | z
    · exact q1 k z
    · rw [z]; exact hjl
  have s2 : (k1.map KK.d).set 1 (.tup [.str "whole", .int (j : Int)]) = k2.map KK.d := by rw [hk2, List.map_set]; rfl
  obtain ⟨d3, a3, l3, p3⟩ := lc_ex (f := lcStep (.nm 7) (evOcT (tb.cfg (n + 2)) .no) (evE (tb.cfg (n + 2)) e2_law_kinds)) (fun (k : Nat) => .int (k : Int)) (fun d => ∃ k : KK, d = k.d ∧ k.ok ms.length) ⟨[.val (.lst (ns.map .int)), .val (.int at_), .val (msD ms), .val (ixs szs), .own (.lst (k2.map KK.d)), .un, .un, .un]⟩ (List.range 4) [] (fun k hk => by
    have hk := List.mem_range.mp hk
    obtain ⟨z, ez, _, _⟩ := v_draw (T := tb) tb__law_draw (n + 1) ns (k := at_ + 5 + (k : Int)) (by omega)
    have hkl : k < k2.length := by omega
    have ea : atI (k2.map KK.d) (k : Int) = some (k2[k]).d := atI_mapN (List.getElem?_eq_getElem hkl)
    obtain ⟨o, eo, ho⟩ := v_above (T := tb) tb__law_elders tb__law_above n g.wf (q2 _ (List.getElem_mem hkl)) z
    refine ⟨o.d, ?_, o, rfl, ho⟩
    simp only [lcStep]
    simp [runF, evSs, evS, evE, evT, evOs, evCs, evOc, evOcT, evIt, evAnd, evOr, evTAnd, evTOr, pkO, peek, take, tru, valAt, ownAt, augS, appS, popS, setS, retS, D.noL, noLs, D.noLq, unpS, asg, Tg.ix, Cs.hasPk, D.flat, allBl, allInt, powOk, LINE, e2_law_kinds, ez, eo, ea, wipeR])
  obtain ⟨k3, rfl, q3⟩ := kks_of d3 p3
  have l3' : k3.length = 4 := by simpa using l3
  refine ⟨k2 ++ k3 ++ [.any, .num], ?_, fun k hk => ?_⟩
  · have r1 : rngD [.int (ms.length : Int)] = some ((List.range ms.length).map fun (k : Nat) => .int (k : Int)) := rng_lit ms.length (by simp only [LINE]; omega)
    have r5 : rngD [.int 5] = some ((List.range 5).map fun (k : Nat) => .int (k : Int)) := rng_lit 5 (by decide)
    have r4 : rngD [.int 4] = some ((List.range 4).map fun (k : Nat) => .int (k : Int)) := rng_lit 4 (by decide)
    have i1 : ixN k1.length 1 = some 1 := by rw [l1']; rfl
    have hln : biD "len" [msD ms] = some (.int (ms.length : Int), false) := by simp [msD]
    have lp : 0 < ms.length := hl0
    simp [runF, evSs, evS, evE, evT, evOs, evCs, evOc, evOcT, evIt, evAnd, evOr, evTAnd, evTOr, pkO, peek, take, tru, valAt, ownAt, augS, appS, popS, setS, retS, D.noL, noLs, D.noLq, unpS, asg, Tg.ix, Cs.hasPk, D.flat, allBl, allInt, powOk, LINE, f_law_kinds, hln]
    rw [r1]
    simp [freeAt, It.sz, wipeR, backR, a1]
    rw [r5]
    simp only [ixs] at a2 a3
    simp [freeAt, wipeR, backR, a2, eu, hln, lp, hj, i1, s2]
    rw [r4]
    simp [freeAt, wipeR, backR, a3, l2, l3', KK.d, LINE]
  · rcases List.mem_append.mp hk with z | z
    · rcases List.mem_append.mp z with y | y
      · exact q2 k y
      · exact q3 k y
    · simp at z
      rcases z with rfl | rfl <;> trivial
@[simp] theorem slMs : slOf (msD ms) true = .own (msD ms) := rfl
theorem told_b0 (n : Nat) (w : WF ms) {k o : KK} (hk : k.ok ms.length) (x1 h : Sl) (hh : h = .own (msD ms) ∨ h = .val (msD ms)) : evSs (tb.cfg (n + 2)) b0_law_told ⟨[.val (msD ms), x1, h, .val k.d, .val o.d]⟩ = .nx ⟨[.val (msD ms), x1, .val (msD ms), .val k.d, .val o.d]⟩ := by
  have e1 := v_beneath (T := tb) tb_is_under tb_beneath n w hk o
  have e2 := v_below (T := tb) tb__law_elders tb__law_below n w hk o
  have e3 := v_is (T := tb) tb__law_is (n + 1) (bel ms k o) (bel ms k o)
  simp only [decide_true] at e3
  rcases hh with rfl | rfl <;> simp [runF, evSs, evS, evE, evT, evOs, evCs, evOc, evOcT, evIt, evAnd, evOr, evTAnd, evTOr, pkO, peek, take, tru, valAt, ownAt, augS, appS, popS, setS, retS, D.noL, noLs, D.noLq, unpS, asg, Tg.ix, Cs.hasPk, D.flat, allBl, allInt, powOk, LINE, b0_law_told, e1, e2, e3]
theorem told_b1 (n : Nat) (w : WF ms) {ks : List KK} (hks : ∀ k ∈ ks, k.ok ms.length) {k : KK} (hk : k.ok ms.length) (h x4 : Sl) (hh : h = .own (msD ms) ∨ h = .val (msD ms)) : ∃ h' y4, (h' = .own (msD ms) ∨ h' = .val (msD ms)) ∧ evSs (tb.cfg (n + 2)) b1_law_told ⟨[.val (msD ms), .val (.lst (ks.map KK.d)), h, .val k.d, x4]⟩ = .nx ⟨[.val (msD ms), .val (.lst (ks.map KK.d)), h', .val k.d, y4]⟩ := by
  obtain ⟨s', e, h', y4, h1, hs⟩ := forL_inv (f := forStep (.nm 4) (evSs (tb.cfg (n + 2)) b0_law_told)) (fun _ s => ∃ h' y4, (h' = Sl.own (msD ms) ∨ h' = .val (msD ms)) ∧ s = RS.mk [.val (msD ms), .val (.lst (ks.map KK.d)), h', .val k.d, y4]) (ks.map KK.d) 0 ⟨[.val (msD ms), .val (.lst (ks.map KK.d)), h, .val k.d, x4]⟩ ⟨h, x4, hh, rfl⟩ fun i d s hd ⟨h', y4, h1, hs⟩ => by
    rw [List.getElem?_map, Option.map_eq_some_iff] at hd
    obtain ⟨o, ho, rfl⟩ := hd
    subst hs
    exact ⟨_, .inl (by simp only [forStep, asg, List.set]; exact told_b0 n w hk _ h' h1), _, _, .inr rfl, rfl⟩
  subst hs
  refine ⟨h', y4, h1, ?_⟩
  simp [runF, evSs, evS, evE, evT, evOs, evCs, evOc, evOcT, evIt, evAnd, evOr, evTAnd, evTOr, pkO, peek, take, tru, valAt, ownAt, augS, appS, popS, setS, retS, D.noL, noLs, D.noLq, unpS, asg, Tg.ix, Cs.hasPk, D.flat, allBl, allInt, powOk, LINE, b1_law_told, e]
theorem v_told (n : Nat) (w : WF ms) (hok : ∀ m ∈ ms, ∀ d ∈ m.2, okD 2 d = true) {ks : List KK} (hks : ∀ k ∈ ks, k.ok ms.length) : callF tb (n + 3) "_law_told" [msD ms, .lst (ks.map KK.d)] = .ok (.bl true) false := by
  rw [callF_succ tb__law_told]
  have c1 := v_copy (T := tb) (ms := ms) tb__law_copy (n + 1) (by have := w.2.1; omega)
  have eq := mks_eq (n := 2) (by decide) hok
  obtain ⟨s', e, h', y3, y4, h1, hs⟩ := forL_inv (f := forStep (.nm 3) (evSs (tb.cfg (n + 2)) b1_law_told)) (fun _ s => ∃ h' y3 y4, (h' = Sl.own (msD ms) ∨ h' = .val (msD ms)) ∧ s = RS.mk [.val (msD ms), .val (.lst (ks.map KK.d)), h', y3, y4]) (ks.map KK.d) 0 ⟨[.val (msD ms), .val (.lst (ks.map KK.d)), .own (msD ms), .un, .un]⟩ ⟨_, _, _, .inl rfl, rfl⟩ fun i d s hd ⟨h', y3, y4, h1, hs⟩ => by
    rw [List.getElem?_map, Option.map_eq_some_iff] at hd
    obtain ⟨k, hk, rfl⟩ := hd
    subst hs
    obtain ⟨h2, y5, h3, e⟩ := told_b1 n w hks (hks k (List.mem_of_getElem? hk)) h' y4 h1
    exact ⟨_, .inl (by simp only [forStep, asg, List.set]; exact e), _, _, _, h3, rfl⟩
  subst hs
  rcases h1 with rfl | rfl <;> simp [runF, evSs, evS, evE, evT, evOs, evCs, evOc, evOcT, evIt, evAnd, evOr, evTAnd, evTOr, pkO, peek, take, tru, valAt, ownAt, augS, appS, popS, setS, retS, D.noL, noLs, D.noLq, unpS, asg, Tg.ix, Cs.hasPk, D.flat, allBl, allInt, powOk, LINE, f_law_told, c1, e, eq]
end
theorem law_ok (ns : List Int) (h : ns.length ≤ 63) : callF tb LEVEL "law" [.lst (ns.map .int)] = .ok (.bl true) false := by
  rw [callF_succ tb_law]
  obtain ⟨ms, sz, m1, g1⟩ := v_makes (T := tb) tb__law_draw tb__law_kind tb__law_makes 6 ns (at_ := 20) (by decide)
  obtain ⟨mo, so, m2, g2⟩ := v_makes (T := tb) tb__law_draw tb__law_kind tb__law_makes 6 ns (at_ := 38) (by decide)
  obtain ⟨ks, k1, q1⟩ := v_kinds 5 ns (at_ := 0) (by decide) g1
  obtain ⟨ko, k2, q2⟩ := v_kinds 5 ns (at_ := 10) (by decide) g2
  have t1 := v_told 5 g1.wf g1.ok q1
  have t2 := v_told 5 g2.wf g2.ok q2
  simp [runF, evSs, evS, evE, evT, evOs, evCs, evOc, evOcT, evIt, evAnd, evOr, evTAnd, evTOr, pkO, peek, take, tru, valAt, ownAt, augS, appS, popS, setS, retS, D.noL, noLs, D.noLq, unpS, asg, Tg.ix, Cs.hasPk, D.flat, allBl, allInt, powOk, LINE, flaw, m1, m2, k1, k2, t1, t2]
end RR

namespace RR
open PySem L2
theorem mdl {K : PySem.W.Frag} {h : Heap} {mg : Str → Option Value} {fa : Addr} (KX : K.In h) (G : h.Ns mainGlobals mg) (hfa : mg "law" = some (.ref fa))
    {v0 : Addr} {g0 : Option Addr} {h0 : Option Addr} {s0 : Array (Option Value)} {a0 b0 c0 d0 e0 r0 : Value} {v1 : Addr} {g1 : Option Addr} {h1 : Option Addr} {s1 : Array (Option Value)} {a1 b1 c1 d1 e1 r1 : Value} {v2 : Addr} {g2 : Option Addr} {h2 : Option Addr} {s2 : Array (Option Value)} {a2 b2 c2 d2 e2 r2 : Value} {v3 : Addr} {g3 : Option Addr} {h3 : Option Addr} {s3 : Array (Option Value)} {a3 b3 c3 d3 e3 r3 : Value} {v4 : Addr} {g4 : Option Addr} {h4 : Option Addr} {s4 : Array (Option Value)} {a4 b4 c4 d4 e4 r4 : Value} {v5 : Addr} {g5 : Option Addr} {h5 : Option Addr} {s5 : Array (Option Value)} {a5 b5 c5 d5 e5 r5 : Value} {v6 : Addr} {g6 : Option Addr} {h6 : Option Addr} {s6 : Array (Option Value)} {a6 b6 c6 d6 e6 r6 : Value} {v7 : Addr} {g7 : Option Addr} {h7 : Option Addr} {s7 : Array (Option Value)} {a7 b7 c7 d7 e7 r7 : Value} {v8 : Addr} {g8 : Option Addr} {h8 : Option Addr} {s8 : Array (Option Value)} {a8 b8 c8 d8 e8 r8 : Value} {v9 : Addr} {g9 : Option Addr} {h9 : Option Addr} {s9 : Array (Option Value)} {a9 b9 c9 d9 e9 r9 : Value} {v10 : Addr} {g10 : Option Addr} {h10 : Option Addr} {s10 : Array (Option Value)} {a10 b10 c10 d10 e10 r10 : Value} {v11 : Addr} {g11 : Option Addr} {h11 : Option Addr} {s11 : Array (Option Value)} {a11 b11 c11 d11 e11 r11 : Value} {v12 : Addr} {g12 : Option Addr} {h12 : Option Addr} {s12 : Array (Option Value)} {a12 b12 c12 d12 e12 r12 : Value} {v13 : Addr} {g13 : Option Addr} {h13 : Option Addr} {s13 : Array (Option Value)} {a13 b13 c13 d13 e13 r13 : Value}
    (n0 : PySem.W.nsIn K mainGlobals "is_under" = some (some (.ref v0))) (l0 : K.lookup v0 = some ⟨a0, g0, .func (PySem.W.fnOf "is_under" "is_under" (defArgs (bodyAt 1)) (defBody (bodyAt 1)) (defScope (bodyAt 1)) .none b0 c0 d0 h0 e0 r0), s0⟩) (q0 : PySem.W.codeIn K e0 "is_under" = true) (k0 : PySem.W.keepIn K (.ref v0) = true)
    (n1 : PySem.W.nsIn K mainGlobals "beneath" = some (some (.ref v1))) (l1 : K.lookup v1 = some ⟨a1, g1, .func (PySem.W.fnOf "beneath" "beneath" (defArgs (bodyAt 2)) (defBody (bodyAt 2)) (defScope (bodyAt 2)) .none b1 c1 d1 h1 e1 r1), s1⟩) (q1 : PySem.W.codeIn K e1 "beneath" = true) (k1 : PySem.W.keepIn K (.ref v1) = true)
    (n2 : PySem.W.nsIn K mainGlobals "_law_draw" = some (some (.ref v2))) (l2 : K.lookup v2 = some ⟨a2, g2, .func (PySem.W.fnOf "_law_draw" "_law_draw" (defArgs (bodyAt 4)) (defBody (bodyAt 4)) (defScope (bodyAt 4)) .none b2 c2 d2 h2 e2 r2), s2⟩) (q2 : PySem.W.codeIn K e2 "_law_draw" = true) (k2 : PySem.W.keepIn K (.ref v2) = true)
    (n3 : PySem.W.nsIn K mainGlobals "_law_kind" = some (some (.ref v3))) (l3 : K.lookup v3 = some ⟨a3, g3, .func (PySem.W.fnOf "_law_kind" "_law_kind" (defArgs (bodyAt 5)) (defBody (bodyAt 5)) (defScope (bodyAt 5)) .none b3 c3 d3 h3 e3 r3), s3⟩) (q3 : PySem.W.codeIn K e3 "_law_kind" = true) (k3 : PySem.W.keepIn K (.ref v3) = true)
    (n4 : PySem.W.nsIn K mainGlobals "_law_makes" = some (some (.ref v4))) (l4 : K.lookup v4 = some ⟨a4, g4, .func (PySem.W.fnOf "_law_makes" "_law_makes" (defArgs (bodyAt 6)) (defBody (bodyAt 6)) (defScope (bodyAt 6)) .none b4 c4 d4 h4 e4 r4), s4⟩) (q4 : PySem.W.codeIn K e4 "_law_makes" = true) (k4 : PySem.W.keepIn K (.ref v4) = true)
    (n5 : PySem.W.nsIn K mainGlobals "_law_elders" = some (some (.ref v5))) (l5 : K.lookup v5 = some ⟨a5, g5, .func (PySem.W.fnOf "_law_elders" "_law_elders" (defArgs (bodyAt 7)) (defBody (bodyAt 7)) (defScope (bodyAt 7)) .none b5 c5 d5 h5 e5 r5), s5⟩) (q5 : PySem.W.codeIn K e5 "_law_elders" = true) (k5 : PySem.W.keepIn K (.ref v5) = true)
    (n6 : PySem.W.nsIn K mainGlobals "_law_fields" = some (some (.ref v6))) (l6 : K.lookup v6 = some ⟨a6, g6, .func (PySem.W.fnOf "_law_fields" "_law_fields" (defArgs (bodyAt 8)) (defBody (bodyAt 8)) (defScope (bodyAt 8)) .none b6 c6 d6 h6 e6 r6), s6⟩) (q6 : PySem.W.codeIn K e6 "_law_fields" = true) (k6 : PySem.W.keepIn K (.ref v6) = true)
    (n7 : PySem.W.nsIn K mainGlobals "_law_copy" = some (some (.ref v7))) (l7 : K.lookup v7 = some ⟨a7, g7, .func (PySem.W.fnOf "_law_copy" "_law_copy" (defArgs (bodyAt 9)) (defBody (bodyAt 9)) (defScope (bodyAt 9)) .none b7 c7 d7 h7 e7 r7), s7⟩) (q7 : PySem.W.codeIn K e7 "_law_copy" = true) (k7 : PySem.W.keepIn K (.ref v7) = true)
    (n8 : PySem.W.nsIn K mainGlobals "_law_below" = some (some (.ref v8))) (l8 : K.lookup v8 = some ⟨a8, g8, .func (PySem.W.fnOf "_law_below" "_law_below" (defArgs (bodyAt 10)) (defBody (bodyAt 10)) (defScope (bodyAt 10)) .none b8 c8 d8 h8 e8 r8), s8⟩) (q8 : PySem.W.codeIn K e8 "_law_below" = true) (k8 : PySem.W.keepIn K (.ref v8) = true)
    (n9 : PySem.W.nsIn K mainGlobals "_law_above" = some (some (.ref v9))) (l9 : K.lookup v9 = some ⟨a9, g9, .func (PySem.W.fnOf "_law_above" "_law_above" (defArgs (bodyAt 11)) (defBody (bodyAt 11)) (defScope (bodyAt 11)) .none b9 c9 d9 h9 e9 r9), s9⟩) (q9 : PySem.W.codeIn K e9 "_law_above" = true) (k9 : PySem.W.keepIn K (.ref v9) = true)
    (n10 : PySem.W.nsIn K mainGlobals "_law_is" = some (some (.ref v10))) (l10 : K.lookup v10 = some ⟨a10, g10, .func (PySem.W.fnOf "_law_is" "_law_is" (defArgs (bodyAt 12)) (defBody (bodyAt 12)) (defScope (bodyAt 12)) .none b10 c10 d10 h10 e10 r10), s10⟩) (q10 : PySem.W.codeIn K e10 "_law_is" = true) (k10 : PySem.W.keepIn K (.ref v10) = true)
    (n11 : PySem.W.nsIn K mainGlobals "_law_kinds" = some (some (.ref v11))) (l11 : K.lookup v11 = some ⟨a11, g11, .func (PySem.W.fnOf "_law_kinds" "_law_kinds" (defArgs (bodyAt 13)) (defBody (bodyAt 13)) (defScope (bodyAt 13)) .none b11 c11 d11 h11 e11 r11), s11⟩) (q11 : PySem.W.codeIn K e11 "_law_kinds" = true) (k11 : PySem.W.keepIn K (.ref v11) = true)
    (n12 : PySem.W.nsIn K mainGlobals "_law_told" = some (some (.ref v12))) (l12 : K.lookup v12 = some ⟨a12, g12, .func (PySem.W.fnOf "_law_told" "_law_told" (defArgs (bodyAt 14)) (defBody (bodyAt 14)) (defScope (bodyAt 14)) .none b12 c12 d12 h12 e12 r12), s12⟩) (q12 : PySem.W.codeIn K e12 "_law_told" = true) (k12 : PySem.W.keepIn K (.ref v12) = true)
    (n13 : PySem.W.nsIn K mainGlobals "law" = some (some (.ref v13))) (l13 : K.lookup v13 = some ⟨a13, g13, .func (PySem.W.fnOf "law" "law" (defArgs (bodyAt 15)) (defBody (bodyAt 15)) (defScope (bodyAt 15)) .none b13 c13 d13 h13 e13 r13), s13⟩) (q13 : PySem.W.codeIn K e13 "law" = true) (k13 : PySem.W.keepIn K (.ref v13) = true)
    (z0 : PySem.W.nsIn K mainGlobals "len" = some none)
    (z1 : PySem.W.nsIn K mainGlobals "max" = some none)
    (z2 : PySem.W.nsIn K mainGlobals "min" = some none)
    (z3 : PySem.W.nsIn K mainGlobals "all" = some none)
    (z4 : PySem.W.nsIn K mainGlobals "sum" = some none)
    (z5 : PySem.W.nsIn K mainGlobals "list" = some none)
    (z6 : PySem.W.nsIn K mainGlobals "tuple" = some none)
    (z7 : PySem.W.nsIn K mainGlobals "int" = some none)
    (z8 : PySem.W.nsIn K mainGlobals "bool" = some none)
    (z9 : PySem.W.nsIn K mainGlobals "str" = some none)
    (z10 : PySem.W.nsIn K mainGlobals "isinstance" = some none)
    (z11 : PySem.W.nsIn K mainGlobals "range" = some none)
    (z12 : PySem.W.nsIn K mainGlobals "enumerate" = some none)
    (z13 : PySem.W.nsIn K mainGlobals "zip" = some none)
    (z14 : PySem.W.nsIn K mainGlobals "reversed" = some none)
    : Mdl tb K mg ∧ ∃ st fd, DefAt K mg "law" flaw st fa fd ["_law_script"] ∧ ∀ (s : Shared) (u : Value), BindsTo s fd ⟨[u], []⟩ [("_law_script", u)] := by
  have he : v13 = fa := by
    have z := hfa.symm.trans (PySem.W.mg_of KX G n13)
    cases z; rfl
  subst he
  have F0 := fun_mk (st := bodyAt 1) l0 q0 k0
  have D0 : DefAt K mg "is_under" fis_under (bodyAt 1) v0 _ ["makes", "c", "other"] := ⟨F0, PySem.W.mg_of KX G n0, F0.binds (ps := ["makes", "c", "other"]) fun _ _ _ _ _ _ us hl => match us, hl with | [_, _, _], _ => rfl, ck_is_under⟩
  have F1 := fun_mk (st := bodyAt 2) l1 q1 k1
  have D1 : DefAt K mg "beneath" fbeneath (bodyAt 2) v1 _ ["makes", "kind", "other"] := ⟨F1, PySem.W.mg_of KX G n1, F1.binds (ps := ["makes", "kind", "other"]) fun _ _ _ _ _ _ us hl => match us, hl with | [_, _, _], _ => rfl, ck_beneath⟩
  have F2 := fun_mk (st := bodyAt 4) l2 q2 k2
  have D2 : DefAt K mg "_law_draw" f_law_draw (bodyAt 4) v2 _ ["_law_script", "_law_k"] := ⟨F2, PySem.W.mg_of KX G n2, F2.binds (ps := ["_law_script", "_law_k"]) fun _ _ _ _ _ _ us hl => match us, hl with | [_, _], _ => rfl, ck__law_draw⟩
  have F3 := fun_mk (st := bodyAt 5) l3 q3 k3
  have D3 : DefAt K mg "_law_kind" f_law_kind (bodyAt 5) v3 _ ["_law_cell", "_law_sizes"] := ⟨F3, PySem.W.mg_of KX G n3, F3.binds (ps := ["_law_cell", "_law_sizes"]) fun _ _ _ _ _ _ us hl => match us, hl with | [_, _], _ => rfl, ck__law_kind⟩
  have F4 := fun_mk (st := bodyAt 6) l4 q4 k4
  have D4 : DefAt K mg "_law_makes" f_law_makes (bodyAt 6) v4 _ ["_law_script", "_law_at"] := ⟨F4, PySem.W.mg_of KX G n4, F4.binds (ps := ["_law_script", "_law_at"]) fun _ _ _ _ _ _ us hl => match us, hl with | [_, _], _ => rfl, ck__law_makes⟩
  have F5 := fun_mk (st := bodyAt 7) l5 q5 k5
  have D5 : DefAt K mg "_law_elders" f_law_elders (bodyAt 7) v5 _ ["_law_makes_here", "_law_c"] := ⟨F5, PySem.W.mg_of KX G n5, F5.binds (ps := ["_law_makes_here", "_law_c"]) fun _ _ _ _ _ _ us hl => match us, hl with | [_, _], _ => rfl, ck__law_elders⟩
  have F6 := fun_mk (st := bodyAt 8) l6 q6 k6
  have D6 : DefAt K mg "_law_fields" f_law_fields (bodyAt 8) v6 _ ["_law_makes_here", "_law_c"] := ⟨F6, PySem.W.mg_of KX G n6, F6.binds (ps := ["_law_makes_here", "_law_c"]) fun _ _ _ _ _ _ us hl => match us, hl with | [_, _], _ => rfl, ck__law_fields⟩
  have F7 := fun_mk (st := bodyAt 9) l7 q7 k7
  have D7 : DefAt K mg "_law_copy" f_law_copy (bodyAt 9) v7 _ ["_law_makes_here"] := ⟨F7, PySem.W.mg_of KX G n7, F7.binds (ps := ["_law_makes_here"]) fun _ _ _ _ _ _ us hl => match us, hl with | [_], _ => rfl, ck__law_copy⟩
  have F8 := fun_mk (st := bodyAt 10) l8 q8 k8
  have D8 : DefAt K mg "_law_below" f_law_below (bodyAt 10) v8 _ ["_law_makes_here", "_law_kind_here", "_law_other"] := ⟨F8, PySem.W.mg_of KX G n8, F8.binds (ps := ["_law_makes_here", "_law_kind_here", "_law_other"]) fun _ _ _ _ _ _ us hl => match us, hl with | [_, _, _], _ => rfl, ck__law_below⟩
  have F9 := fun_mk (st := bodyAt 11) l9 q9 k9
  have D9 : DefAt K mg "_law_above" f_law_above (bodyAt 11) v9 _ ["_law_makes_here", "_law_kind_here", "_law_cell"] := ⟨F9, PySem.W.mg_of KX G n9, F9.binds (ps := ["_law_makes_here", "_law_kind_here", "_law_cell"]) fun _ _ _ _ _ _ us hl => match us, hl with | [_, _, _], _ => rfl, ck__law_above⟩
  have F10 := fun_mk (st := bodyAt 12) l10 q10 k10
  have D10 : DefAt K mg "_law_is" f_law_is (bodyAt 12) v10 _ ["_law_found", "_law_due"] := ⟨F10, PySem.W.mg_of KX G n10, F10.binds (ps := ["_law_found", "_law_due"]) fun _ _ _ _ _ _ us hl => match us, hl with | [_, _], _ => rfl, ck__law_is⟩
  have F11 := fun_mk (st := bodyAt 13) l11 q11 k11
  have D11 : DefAt K mg "_law_kinds" f_law_kinds (bodyAt 13) v11 _ ["_law_script", "_law_at", "_law_makes_here"] := ⟨F11, PySem.W.mg_of KX G n11, F11.binds (ps := ["_law_script", "_law_at", "_law_makes_here"]) fun _ _ _ _ _ _ us hl => match us, hl with | [_, _, _], _ => rfl, ck__law_kinds⟩
  have F12 := fun_mk (st := bodyAt 14) l12 q12 k12
  have D12 : DefAt K mg "_law_told" f_law_told (bodyAt 14) v12 _ ["_law_makes_here", "_law_kinds_here"] := ⟨F12, PySem.W.mg_of KX G n12, F12.binds (ps := ["_law_makes_here", "_law_kinds_here"]) fun _ _ _ _ _ _ us hl => match us, hl with | [_, _], _ => rfl, ck__law_told⟩
  have F13 := fun_mk (st := bodyAt 15) l13 q13 k13
  have D13 : DefAt K mg "law" flaw (bodyAt 15) v13 _ ["_law_script"] := ⟨F13, PySem.W.mg_of KX G n13, F13.binds (ps := ["_law_script"]) fun _ _ _ _ _ _ us hl => match us, hl with | [_], _ => rfl, ck_law⟩
  refine ⟨⟨fun f fn hf => ?_, fun x d hx => ?_, fun x hx => ?_⟩, ?_⟩
  · skip
    by_cases h0 : f = "is_under"
    · subst h0; rw [tb_is_under] at hf; cases hf; exact ⟨_, _, _, _, D0⟩
    by_cases h1 : f = "beneath"
    · subst h1; rw [tb_beneath] at hf; cases hf; exact ⟨_, _, _, _, D1⟩
    by_cases h2 : f = "_law_draw"
    · subst h2; rw [tb__law_draw] at hf; cases hf; exact ⟨_, _, _, _, D2⟩
    by_cases h3 : f = "_law_kind"
    · subst h3; rw [tb__law_kind] at hf; cases hf; exact ⟨_, _, _, _, D3⟩
    by_cases h4 : f = "_law_makes"
    · subst h4; rw [tb__law_makes] at hf; cases hf; exact ⟨_, _, _, _, D4⟩
    by_cases h5 : f = "_law_elders"
    · subst h5; rw [tb__law_elders] at hf; cases hf; exact ⟨_, _, _, _, D5⟩
    by_cases h6 : f = "_law_fields"
    · subst h6; rw [tb__law_fields] at hf; cases hf; exact ⟨_, _, _, _, D6⟩
    by_cases h7 : f = "_law_copy"
    · subst h7; rw [tb__law_copy] at hf; cases hf; exact ⟨_, _, _, _, D7⟩
    by_cases h8 : f = "_law_below"
    · subst h8; rw [tb__law_below] at hf; cases hf; exact ⟨_, _, _, _, D8⟩
    by_cases h9 : f = "_law_above"
    · subst h9; rw [tb__law_above] at hf; cases hf; exact ⟨_, _, _, _, D9⟩
    by_cases h10 : f = "_law_is"
    · subst h10; rw [tb__law_is] at hf; cases hf; exact ⟨_, _, _, _, D10⟩
    by_cases h11 : f = "_law_kinds"
    · subst h11; rw [tb__law_kinds] at hf; cases hf; exact ⟨_, _, _, _, D11⟩
    by_cases h12 : f = "_law_told"
    · subst h12; rw [tb__law_told] at hf; cases hf; exact ⟨_, _, _, _, D12⟩
    by_cases h13 : f = "law"
    · subst h13; rw [tb_law] at hf; cases hf; exact ⟨_, _, _, _, D13⟩
    unfold tb at hf; dsimp only at hf
    rw [if_neg h0, if_neg h1, if_neg h2, if_neg h3, if_neg h4, if_neg h5, if_neg h6, if_neg h7, if_neg h8, if_neg h9, if_neg h10, if_neg h11, if_neg h12, if_neg h13] at hf
    cases hf
  · skip
    unfold tb at hx; dsimp only at hx
    cases hx
  · simp only [bltNames, List.mem_cons, List.mem_nil_iff, or_false] at hx
    rcases hx with rfl | rfl | rfl | rfl | rfl | rfl | rfl | rfl | rfl | rfl | rfl | rfl | rfl | rfl | rfl
    · exact PySem.W.mg_none_of KX G z0
    · exact PySem.W.mg_none_of KX G z1
    · exact PySem.W.mg_none_of KX G z2
    · exact PySem.W.mg_none_of KX G z3
    · exact PySem.W.mg_none_of KX G z4
    · exact PySem.W.mg_none_of KX G z5
    · exact PySem.W.mg_none_of KX G z6
    · exact PySem.W.mg_none_of KX G z7
    · exact PySem.W.mg_none_of KX G z8
    · exact PySem.W.mg_none_of KX G z9
    · exact PySem.W.mg_none_of KX G z10
    · exact PySem.W.mg_none_of KX G z11
    · exact PySem.W.mg_none_of KX G z12
    · exact PySem.W.mg_none_of KX G z13
    · exact PySem.W.mg_none_of KX G z14
  · exact ⟨_, _, D13, fun s v => .of_eq rfl⟩
end RR
open PySem PySem.W PyProof.Rows
set_option maxRecDepth 100000 in
set_option maxHeartbeats 0 in
theorem PySem.Challenge.cw_stackwarden_k22_what_is_beneath_holds : PySem.Challenge.rw_stackwarden_k22_what_is_beneath.Holds := by
  w_on; o_law; k_head; (case hw => w_witness2)
  k_fill
  refine RR.walk (T := RR.tb) (fn := RR.flaw) (k := RR.LEVEL) (l := PySem.Challenge.rw_stackwarden_k22_what_is_beneath) (x := "_law_script") RR.tb_law rfl rfl rfl ⟨rfl, by decide, by decide⟩ (fun w h Y => PySem.W.kIn_of Y) ?F RR.law_ok
  case F =>
    intro w mg fa h KX G hmg
    refine' RR.mdl KX G hmg ?n0 ?l0 ?q0 ?k0 ?n1 ?l1 ?q1 ?k1 ?n2 ?l2 ?q2 ?k2 ?n3 ?l3 ?q3 ?k3 ?n4 ?l4 ?q4 ?k4 ?n5 ?l5 ?q5 ?k5 ?n6 ?l6 ?q6 ?k6 ?n7 ?l7 ?q7 ?k7 ?n8 ?l8 ?q8 ?k8 ?n9 ?l9 ?q9 ?k9 ?n10 ?l10 ?q10 ?k10 ?n11 ?l11 ?q11 ?k11 ?n12 ?l12 ?q12 ?k12 ?n13 ?l13 ?q13 ?k13 ?z0 ?z1 ?z2 ?z3 ?z4 ?z5 ?z6 ?z7 ?z8 ?z9 ?z10 ?z11 ?z12 ?z13 ?z14
    (case n0 => k_is)
    (case l0 => k_is)
    (case q0 => k_is)
    (case k0 => k_is)
    (case n1 => k_is)
    (case l1 => k_is)
    (case q1 => k_is)
    (case k1 => k_is)
    (case n2 => k_is)
    (case l2 => k_is)
    (case q2 => k_is)
    (case k2 => k_is)
    (case n3 => k_is)
    (case l3 => k_is)
    (case q3 => k_is)
    (case k3 => k_is)
    (case n4 => k_is)
    (case l4 => k_is)
    (case q4 => k_is)
    (case k4 => k_is)
    (case n5 => k_is)
    (case l5 => k_is)
    (case q5 => k_is)
    (case k5 => k_is)
    (case n6 => k_is)
    (case l6 => k_is)
    (case q6 => k_is)
    (case k6 => k_is)
    (case n7 => k_is)
    (case l7 => k_is)
    (case q7 => k_is)
    (case k7 => k_is)
    (case n8 => k_is)
    (case l8 => k_is)
    (case q8 => k_is)
    (case k8 => k_is)
    (case n9 => k_is)
    (case l9 => k_is)
    (case q9 => k_is)
    (case k9 => k_is)
    (case n10 => k_is)
    (case l10 => k_is)
    (case q10 => k_is)
    (case k10 => k_is)
    (case n11 => k_is)
    (case l11 => k_is)
    (case q11 => k_is)
    (case k11 => k_is)
    (case n12 => k_is)
    (case l12 => k_is)
    (case q12 => k_is)
    (case k12 => k_is)
    (case n13 => k_is)
    (case l13 => k_is)
    (case q13 => k_is)
    (case k13 => k_is)
    (case z0 => k_is)
    (case z1 => k_is)
    (case z2 => k_is)
    (case z3 => k_is)
    (case z4 => k_is)
    (case z5 => k_is)
    (case z6 => k_is)
    (case z7 => k_is)
    (case z8 => k_is)
    (case z9 => k_is)
    (case z10 => k_is)
    (case z11 => k_is)
    (case z12 => k_is)
    (case z13 => k_is)
    (case z14 => k_is)

